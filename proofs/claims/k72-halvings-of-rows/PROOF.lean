import PyProof.Rows.All
import Wide.All
import OpenK.AllK
import Wide.FinOn
import HandS.ForMost
import HandS.ForExc
import HandS.Style
import HandS.Zip
import HandS.Deep
import HandS.TupAny
import HandS.Conv
import HandS.IsInst
import KE.SortData
import PyProof.ReprRoads
import PyProof.ReprReads
import KE.KExcSuper
import KE.KExcIs
import KE.GoesEnum
import KE.GoesMore
import HandS.ExcIs
import KE.RegKSuper
import PySem.Challenge.RW_cutswhole_k72_halvings_of_rows
set_option Elab.async false
set_option linter.all false
set_option maxRecDepth 100000
set_option maxHeartbeats 4000000
namespace L2
open PySem PySem.Spec PyProof.Rows

/-! ### deep data in a part of the heap -/
theorem SqL.mono {K : PySem.W.Frag} {H H' : Hp} {a : Addr} {xs : List V} (s : Same H H') (h : SqL K H a xs) : SqL K H' a xs := s.seq h
theorem SqT.mono {K : PySem.W.Frag} {H H' : Hp} {a : Addr} {xs : List V} (s : Same H H') (h : SqT K H a xs) : SqT K H' a xs := by
  rcases h with (h | ⟨o, h⟩) | h
  · exact .inl (.inl (s _ _ h))
  · exact .inl (.inr ⟨o, s _ _ h⟩)
  · exact .inr h
mutual
theorem Dp.mono {K : PySem.W.Frag} {H H' : Hp} (s : Same H H') : ∀ (d : PyData) (v : V), Dp K H v d → Dp K H' v d
  | .none, _, h => by cases h; exact .non
  | .bool b, _, h => by cases h; exact .bl b
  | .int i, _, h => by cases h; exact .int i
  | .str x, _, h => by cases h; exact .str x
  | .list ds, _, h => by
    cases h with
    | lst h1 h2 => exact .lst (SqL.mono s h1) (DpAll.mono s ds _ h2)
  | .tuple ds, _, h => by
    cases h with
    | tup h1 h2 => exact .tup (SqT.mono s h1) (DpAll.mono s ds _ h2)
  | .dict _, _, h => by cases h
theorem DpAll.mono {K : PySem.W.Frag} {H H' : Hp} (s : Same H H') : ∀ (ds : List PyData) (vs : List V), DpAll K H vs ds → DpAll K H' vs ds
  | [], _, h => by cases h; exact .nil
  | d :: ds, _, h => by
    cases h with
    | cons h1 h2 => exact .cons (Dp.mono s d _ h1) (DpAll.mono s ds _ h2)
end
theorem DpAll.length {K : PySem.W.Frag} {H : Hp} : ∀ {vs : List V} {ds : List PyData}, DpAll K H vs ds → vs.length = ds.length
  | [], _, h => by cases h; rfl
  | _ :: _, _, h => by cases h with | cons h1 h2 => simp [DpAll.length h2]
theorem DpAll.get {K : PySem.W.Frag} {H : Hp} : ∀ {vs : List V} {ds : List PyData} {i : Nat} {d : PyData}, DpAll K H vs ds → ds[i]? = some d → ∃ v, vs[i]? = some v ∧ Dp K H v d
  | [], _, i, d, h, e => by cases h; simp at e
  | v :: vs, _, 0, d, h, e => by
    cases h with
    | cons h1 h2 => simp at e; subst e; exact ⟨v, rfl, h1⟩
  | v :: vs, _, i + 1, d, h, e => by
    cases h with
    | cons h1 h2 => simp at e; obtain ⟨u, h3, h4⟩ := DpAll.get h2 e; exact ⟨u, by simpa using h3, h4⟩
theorem DpAll.getV {K : PySem.W.Frag} {H : Hp} {vs : List V} {ds : List PyData} {i : Nat} {v : V} (h : DpAll K H vs ds) (e : vs[i]? = some v) : ∃ d, ds[i]? = some d ∧ Dp K H v d := by
  have hl := h.length
  have hi : i < ds.length := by have := (List.getElem?_eq_some_iff.mp e).1; omega
  obtain ⟨u, h1, h2⟩ := h.get (List.getElem?_eq_getElem hi)
  rw [e] at h1; cases h1
  exact ⟨_, List.getElem?_eq_getElem hi, h2⟩
theorem DpAll.append {K : PySem.W.Frag} {H : Hp} : ∀ {vs ws : List V} {ds es : List PyData}, DpAll K H vs ds → DpAll K H ws es → DpAll K H (vs ++ ws) (ds ++ es)
  | [], _, _, _, h, h' => by cases h; exact h'
  | _ :: _, _, _, _, h, h' => by cases h with | cons h1 h2 => exact .cons h1 (DpAll.append h2 h')
theorem DpAll.take {K : PySem.W.Frag} {H : Hp} : ∀ {vs : List V} {ds : List PyData} (n : Nat), DpAll K H vs ds → DpAll K H (vs.take n) (ds.take n)
  | _, _, 0, _ => by simp; exact .nil
  | [], _, _ + 1, h => by cases h; exact .nil
  | _ :: _, _, n + 1, h => by cases h with | cons h1 h2 => exact .cons h1 (DpAll.take n h2)
theorem DpAll.drop {K : PySem.W.Frag} {H : Hp} : ∀ {vs : List V} {ds : List PyData} (n : Nat), DpAll K H vs ds → DpAll K H (vs.drop n) (ds.drop n)
  | _, _, 0, h => by simpa using h
  | [], _, _ + 1, h => by cases h; exact .nil
  | _ :: _, _, n + 1, h => by cases h with | cons h1 h2 => simpa using DpAll.drop n h2
theorem DpAll.set {K : PySem.W.Frag} {H : Hp} {v : V} {d : PyData} (hd : Dp K H v d) : ∀ {vs : List V} {ds : List PyData} (n : Nat), DpAll K H vs ds → DpAll K H (vs.set n v) (ds.set n d)
  | [], _, _, h => by cases h; exact .nil
  | _ :: _, _, 0, h => by cases h with | cons h1 h2 => exact .cons hd h2
  | _ :: _, _, n + 1, h => by cases h with | cons h1 h2 => exact .cons h1 (DpAll.set hd n h2)
theorem DpAll.reverse {K : PySem.W.Frag} {H : Hp} : ∀ {vs : List V} {ds : List PyData}, DpAll K H vs ds → DpAll K H vs.reverse ds.reverse
  | [], _, h => by cases h; exact .nil
  | _ :: _, _, h => by cases h with | cons h1 h2 => simp only [List.reverse_cons]; exact (DpAll.reverse h2).append (.cons h1 .nil)
theorem DpAll.dropLast {K : PySem.W.Frag} {H : Hp} {vs : List V} {ds : List PyData} (h : DpAll K H vs ds) : DpAll K H vs.dropLast ds.dropLast := by
  have hl := h.length
  rw [List.dropLast_eq_take, List.dropLast_eq_take, hl]
  exact h.take _

end L2

namespace L2.DL
open PySem PySem.Spec PyProof.Rows

/-! ### slots' modes, values -/
inductive Md where
  | un
  | d (x : PyData)
  | own (xs : List PyData)
inductive Vl where
  | d (x : PyData)
  | fr (xs : List PyData)
  | pk (i : Nat)
abbrev En := List Md
inductive Rs (α : Type) where
  | ok (a : α) (e : En)
  | exc (c : Str) (x : PyData) (e : En)
abbrev Mo (α : Type) := En → Option (Rs α)
namespace Mo
variable {α β : Type}
def ret (a : α) : Mo α := fun e => some (.ok a e)
def bnd (m : Mo α) (k : α → Mo β) : Mo β := fun e => match m e with
  | some (.ok a e') => k a e'
  | some (.exc c x e') => some (.exc c x e')
  | none => none
def lift (o : Option α) : Mo α := fun e => match o with
  | some a => some (.ok a e)
  | none => none
end Mo
/-- the data behind a value, read in place -/
def peek (v : Vl) : Mo PyData := fun e => match v with
  | .d x => some (.ok x e)
  | .fr xs => some (.ok (.list xs) e)
  | .pk i => match e[i]? with
    | some (.own xs) => some (.ok (.list xs) e)
    | some (.d x) => some (.ok x e)
    | _ => none
/-- the data behind a value that is kept elsewhere from now on: an owned list is owned no more -/
def freeze (v : Vl) : Mo PyData := fun e => match v with
  | .d x => some (.ok x e)
  | .fr xs => some (.ok (.list xs) e)
  | .pk i => match e[i]? with
    | some (.own xs) => some (.ok (.list xs) (e.set i (.d (.list xs))))
    | some (.d x) => some (.ok x e)
    | _ => none

/-! ### the heap without what is owned or hidden -/
open Classical in
noncomputable def minus (H : Hp) (O : Addr → Prop) : Hp := fun a => if O a then none else H a
theorem minus_some {H : Hp} {O : Addr → Prop} {a : Addr} {o : HO} : minus H O a = some o ↔ ¬ O a ∧ H a = some o := by
  unfold minus
  by_cases h : O a
  · simp [h]
  · simp [h]
theorem minus_sub {H : Hp} {O : Addr → Prop} : Same (minus H O) H := fun _ _ h => (minus_some.mp h).2
theorem minus_mono {H H' : Hp} {O O' : Addr → Prop} (h : ∀ a o, ¬ O a → H a = some o → ¬ O' a ∧ H' a = some o) : Same (minus H O) (minus H' O') := fun a o e => by
  obtain ⟨h1, h2⟩ := minus_some.mp e
  exact minus_some.mpr (h a o h1 h2)

/-- own addresses of a list of modes -/
def Own (L : List Md) (val : Nat → V) (a : Addr) : Prop := ∃ i xs, L[i]? = some (.own xs) ∧ val i = .ref a
def EntOk (K : PySem.W.Frag) (G H : Hp) (v : V) : Md → Prop
  | .un => True
  | .d x => Dp K G v x
  | .own xs => ∃ a vs, v = .ref a ∧ H a = some (.lst vs) ∧ DpAll K G vs xs
theorem EntOk.mono {K : PySem.W.Frag} {G H G' H' : Hp} {v : V} {m : Md} (s : Same G G') (hH : ∀ a vs, v = .ref a → H a = some (.lst vs) → H' a = some (.lst vs)) (h : EntOk K G H v m) : EntOk K G' H' v m := by
  cases m with
  | un => trivial
  | d x => exact Dp.mono s _ _ h
  | own xs =>
    obtain ⟨a, vs, e, h1, h2⟩ := h
    exact ⟨a, vs, e, hH a vs e h1, DpAll.mono s _ _ h2⟩

structure Sm (K : PySem.W.Frag) (Z : Addr → Prop) (L : List Md) (val : Nat → V) (H : Hp) : Prop where
  inj : ∀ i j xs ys, L[i]? = some (.own xs) → L[j]? = some (.own ys) → val i = val j → i = j
  ok : ∀ i m, L[i]? = some m → EntOk K (minus H fun a => Own L val a ∨ Z a) H (val i) m
  zok : ∀ a, Z a → H a ≠ none
  dis : ∀ a, Own L val a → ¬ Z a

section
variable {K : PySem.W.Frag} {Z : Addr → Prop} {L : List Md} {val : Nat → V} {H H' : Hp}
noncomputable abbrev Gh (Z : Addr → Prop) (L : List Md) (val : Nat → V) (H : Hp) : Hp := minus H fun a => Own L val a ∨ Z a
theorem Sm.own_some (s : Sm K Z L val H) {a : Addr} (h : Own L val a) : ∃ vs, H a = some (.lst vs) := by
  obtain ⟨i, xs, e, ev⟩ := h
  obtain ⟨a', vs, e1, e2, _⟩ := s.ok i _ e
  rw [ev] at e1; cases e1
  exact ⟨vs, e2⟩
/-- the heap grows -/
theorem Sm.grow (s : Sm K Z L val H) (g : Same H H') : Sm K Z L val H' where
  inj := s.inj
  ok i m e := (s.ok i m e).mono (minus_mono fun a o h1 h2 => ⟨h1, g a o h2⟩) (fun a vs _ h => g _ _ h)
  zok a hz h := by
    cases e : H a with
    | none => exact s.zok a hz e
    | some o => rw [g a o e] at h; cases h
  dis := s.dis
theorem Own.append_left {L L' : List Md} {val : Nat → V} {a : Addr} (h : Own L val a) : Own (L ++ L') val a := by
  obtain ⟨i, xs, e, ev⟩ := h
  exact ⟨i, xs, by rw [List.getElem?_append_left (List.getElem?_eq_some_iff.mp e).1]; exact e, ev⟩
/-- temps dropped -/
theorem Sm.drop {L' : List Md} (s : Sm K Z (L ++ L') val H) : Sm K Z L val H where
  inj i j xs ys h1 h2 := s.inj i j xs ys (by rw [List.getElem?_append_left (List.getElem?_eq_some_iff.mp h1).1]; exact h1) (by rw [List.getElem?_append_left (List.getElem?_eq_some_iff.mp h2).1]; exact h2)
  ok i m e := (s.ok i m (by rw [List.getElem?_append_left (List.getElem?_eq_some_iff.mp e).1]; exact e)).mono
    (minus_mono fun a o h1 h2 => ⟨fun h => h1 (h.imp Own.append_left id), h2⟩) (fun _ _ _ h => h)
  zok := s.zok
  dis a h := s.dis a h.append_left
/-- an entry's mode is exchanged for one that owns nothing -/
theorem Own.set_sub {i : Nat} {m : Md} {a : Addr} (hm : ∀ xs, m ≠ .own xs) (h : Own (L.set i m) val a) : Own L val a := by
  obtain ⟨j, xs, e, ev⟩ := h
  by_cases hij : i = j
  · subst hij
    rw [List.getElem?_set] at e
    simp at e
    exact absurd e.2 (hm xs)
  · rw [List.getElem?_set_ne hij] at e
    exact ⟨j, xs, e, ev⟩
theorem Sm.setD (s : Sm K Z L val H) {i : Nat} {m : Md} (hm : ∀ xs, m ≠ .own xs) (ok : EntOk K (Gh Z (L.set i m) val H) H (val i) m) : Sm K Z (L.set i m) val H where
  inj p q xs ys h1 h2 e := by
    have f : ∀ {p : Nat} {xs}, (L.set i m)[p]? = some (.own xs) → L[p]? = some (.own xs) := fun {p xs} h => by
      by_cases hip : i = p
      · subst hip
        rw [List.getElem?_set] at h
        simp at h
        exact absurd h.2 (hm xs)
      · rw [List.getElem?_set_ne hip] at h; exact h
    exact s.inj p q xs ys (f h1) (f h2) e
  ok j m' e := by
    by_cases hij : i = j
    · subst hij
      rw [List.getElem?_set] at e
      simp at e
      obtain ⟨_, rfl⟩ := e
      exact ok
    · rw [List.getElem?_set_ne hij] at e
      exact (s.ok j m' e).mono (minus_mono fun a o h1 h2 => ⟨fun h => h1 (h.imp (Own.set_sub hm) id), h2⟩) (fun _ _ _ h => h)
  zok := s.zok
  dis a h := s.dis a (Own.set_sub hm h)
/-- an owned list is owned no more -/
theorem Sm.frz (s : Sm K Z L val H) {i : Nat} {xs : List PyData} (e : L[i]? = some (.own xs)) : Sm K Z (L.set i (.d (.list xs))) val H := by
  refine s.setD (fun _ h => by cases h) ?_
  obtain ⟨a, vs, ev, hH, hd⟩ := s.ok i _ e
  rw [ev]
  have hsub : Same (Gh Z L val H) (Gh Z (L.set i (.d (.list xs))) val H) := minus_mono fun b o h1 h2 => ⟨fun h => h1 (h.imp (Own.set_sub fun _ h => by cases h) id), h2⟩
  refine .lst (SqL.of (minus_some.mpr ⟨?_, hH⟩)) (DpAll.mono hsub _ _ hd)
  rintro (⟨j, ys, e1, e2⟩ | hz)
  · by_cases hij : i = j
    · subst hij
      rw [List.getElem?_set] at e1
      simp at e1
    · rw [List.getElem?_set_ne hij] at e1
      exact hij (s.inj i j _ _ e e1 (ev.trans e2.symm))
  · exact s.dis a ⟨i, xs, e, ev⟩ hz
theorem Sm.un (s : Sm K Z L val H) (i : Nat) : Sm K Z (L.set i .un) val H := s.setD (fun _ h => by cases h) trivial
/-- values that agree -/
theorem Own.congr {val' : Nat → V} (h : ∀ i, i < L.length → val' i = val i) {a : Addr} : Own L val' a ↔ Own L val a := by
  constructor
  · rintro ⟨i, xs, e, ev⟩
    exact ⟨i, xs, e, by rw [← h i (List.getElem?_eq_some_iff.mp e).1]; exact ev⟩
  · rintro ⟨i, xs, e, ev⟩
    exact ⟨i, xs, e, by rw [h i (List.getElem?_eq_some_iff.mp e).1]; exact ev⟩
theorem Sm.congr {val' : Nat → V} (s : Sm K Z L val H) (h : ∀ i, i < L.length → val' i = val i) : Sm K Z L val' H where
  inj i j xs ys h1 h2 e := s.inj i j xs ys h1 h2 (by rw [← h i (List.getElem?_eq_some_iff.mp h1).1, ← h j (List.getElem?_eq_some_iff.mp h2).1]; exact e)
  ok i m e := by
    rw [h i (List.getElem?_eq_some_iff.mp e).1]
    exact (s.ok i m e).mono (minus_mono fun a o h1 h2 => ⟨fun z => h1 (z.imp (Own.congr h).mp id), h2⟩) (fun _ _ _ h => h)
  zok := s.zok
  dis a z := s.dis a ((Own.congr h).mp z)
def setv (val : Nat → V) (n : Nat) (v : V) : Nat → V := fun i => if i = n then v else val i
theorem setv_same {n : Nat} {v : V} : setv val n v n = v := if_pos rfl
theorem setv_ne {n i : Nat} {v : V} (h : i ≠ n) : setv val n v i = val i := if_neg h
theorem setv_lt {n i : Nat} {v : V} (h : i < n) : setv val n v i = val i := if_neg (Nat.ne_of_lt h)
theorem Own.push {v : V} {a : Addr} {m : Md} (h : Own (L ++ [m]) (setv val L.length v) a) : Own L val a ∨ (∃ xs, m = .own xs) ∧ v = .ref a := by
  obtain ⟨i, xs, e, ev⟩ := h
  by_cases hi : i < L.length
  · rw [List.getElem?_append_left hi] at e
    rw [setv_lt hi] at ev
    exact .inl ⟨i, xs, e, ev⟩
  · have hj : i = L.length := by
      have := (List.getElem?_eq_some_iff.mp e).1
      simp at this
      omega
    subst hj
    rw [setv_same] at ev
    simp at e
    exact .inr ⟨⟨xs, e⟩, ev⟩
theorem Own.push_of {v : V} {a : Addr} {m : Md} (h : Own L val a) : Own (L ++ [m]) (setv val L.length v) a := by
  obtain ⟨i, xs, e, ev⟩ := h
  have hi := (List.getElem?_eq_some_iff.mp e).1
  exact ⟨i, xs, by rw [List.getElem?_append_left hi]; exact e, by rw [setv_lt hi]; exact ev⟩
/-- one more value -/
theorem Sm.push (s : Sm K Z L val H) {v : V} {m : Md} (ok : EntOk K (minus H fun a => (Own L val a ∨ (∃ xs, m = .own xs) ∧ v = .ref a) ∨ Z a) H v m)
    (hn : ∀ xs a, m = .own xs → v = .ref a → ¬ Own L val a ∧ ¬ Z a)
    (hk : ∀ xs a, m = .own xs → v = .ref a → ∀ i m', L[i]? = some m' → EntOk K (minus H fun b => (Own L val b ∨ b = a) ∨ Z b) H (val i) m') : Sm K Z (L ++ [m]) (setv val L.length v) H where
  inj i j xs ys h1 h2 e := by
    have f : ∀ {p : Nat} {zs}, (L ++ [m])[p]? = some (.own zs) → (p < L.length ∧ L[p]? = some (.own zs)) ∨ (p = L.length ∧ m = .own zs) := fun {p zs} h => by
      by_cases hp : p < L.length
      · rw [List.getElem?_append_left hp] at h; exact .inl ⟨hp, h⟩
      · have hj : p = L.length := by
          have := (List.getElem?_eq_some_iff.mp h).1
          simp at this
          omega
        subst hj
        simp at h
        exact .inr ⟨rfl, h⟩
    have g : ∀ {p : Nat} {zs}, p < L.length → L[p]? = some (.own zs) → ∀ {ws}, m = .own ws → setv val L.length v p ≠ setv val L.length v L.length := fun {p zs} hp hL {ws} hm e => by
      rw [setv_lt hp, setv_same] at e
      obtain ⟨a, vs, ev, _⟩ := s.ok p _ hL
      exact (hn ws a hm (by rw [← e, ev])).1 ⟨p, zs, hL, ev⟩
    rcases f h1 with ⟨hi, h3⟩ | ⟨hi, h3⟩ <;> rcases f h2 with ⟨hj, h4⟩ | ⟨hj, h4⟩
    · rw [setv_lt hi, setv_lt hj] at e
      exact s.inj i j xs ys h3 h4 e
    · rw [hj] at e; exact absurd e (g hi h3 h4)
    · rw [hi] at e; exact absurd e.symm (g hj h4 h3)
    · omega
  ok i m' e := by
    by_cases hi : i < L.length
    · rw [List.getElem?_append_left hi] at e
      rw [setv_lt hi]
      by_cases hm : ∃ xs a, m = .own xs ∧ v = .ref a
      · obtain ⟨xs, a, h1, h2⟩ := hm
        refine (hk xs a h1 h2 i m' e).mono (minus_mono fun b o q1 q2 => ⟨fun z => q1 ?_, q2⟩) (fun _ _ _ h => h)
        rcases z with z | z
        · rcases Own.push z with z | ⟨_, z⟩
          · exact .inl (.inl z)
          · rw [h2] at z; cases z; exact .inl (.inr rfl)
        · exact .inr z
      · refine (s.ok i m' e).mono (minus_mono fun b o q1 q2 => ⟨fun z => q1 ?_, q2⟩) (fun _ _ _ h => h)
        rcases z with z | z
        · rcases Own.push z with z | ⟨⟨xs, z1⟩, z2⟩
          · exact .inl z
          · exact absurd ⟨xs, b, z1, z2⟩ hm
        · exact .inr z
    · have hj : i = L.length := by
        have := (List.getElem?_eq_some_iff.mp e).1
        simp at this
        omega
      subst hj
      rw [setv_same]
      simp at e
      subst e
      exact ok.mono (minus_mono fun b o q1 q2 => ⟨fun z => q1 (z.imp Own.push id), q2⟩) (fun _ _ _ h => h)
  zok := s.zok
  dis a h := by
    rcases Own.push h with h | ⟨⟨xs, h1⟩, h2⟩
    · exact s.dis a h
    · exact (hn xs a h1 h2).2
end
end L2.DL

namespace L2.DL
open PySem PySem.Spec PyProof.Rows
section
variable {K : PySem.W.Frag} {Z : Addr → Prop} {L : List Md} {val : Nat → V} {H H' : Hp}
theorem Sm.pushD (s : Sm K Z L val H) {v : V} {x : PyData} (h : Dp K (Gh Z L val H) v x) : Sm K Z (L ++ [.d x]) (setv val L.length v) H := by
  refine s.push (m := .d x) ?_ (fun _ _ e => by cases e) (fun _ _ e => by cases e)
  refine Dp.mono (minus_mono fun a o h1 h2 => ⟨fun z => h1 ?_, h2⟩) _ _ h
  rcases z with (z | ⟨⟨xs, z⟩, _⟩) | z
  · exact .inl z
  · cases z
  · exact .inr z
/-- a list at a place that was free in the heap G0, with items that do not look at it -/
theorem Sm.pushOwn {H0 : Hp} (s0 : Sm K Z L val H0) (g : Same H0 H) {p : Addr} {vs : List V} {xs : List PyData} (hp : H0 p = none) (hH : H p = some (.lst vs))
    (hd : DpAll K (minus H fun a => (Own L val a ∨ a = p) ∨ Z a) vs xs) : Sm K Z (L ++ [.own xs]) (setv val L.length (.ref p)) H := by
  have s := s0.grow g
  refine s.push (m := .own xs) ⟨p, vs, rfl, hH, ?_⟩ ?_ ?_
  · refine DpAll.mono (minus_mono fun a o h1 h2 => ⟨fun z => h1 ?_, h2⟩) _ _ hd
    rcases z with (z | ⟨_, z⟩) | z
    · exact .inl (.inl z)
    · cases z; exact .inl (.inr rfl)
    · exact .inr z
  · intro ys a _ e
    cases e
    refine ⟨fun z => ?_, fun z => s0.zok _ z hp⟩
    obtain ⟨ws, q⟩ := s0.own_some z
    rw [hp] at q; cases q
  · intro ys a _ e i m' hi
    cases e
    refine (s0.ok i m' hi).mono (minus_mono fun b o h1 h2 => ⟨?_, g b o h2⟩) (fun a vs _ h => g _ _ h)
    rintro ((z | z) | z)
    · exact h1 (.inl z)
    · subst z; rw [hp] at h2; cases h2
    · exact h1 (.inr z)
end

/-! ### the state of a running body -/
structure Bs where
  n : Nat
  H0 : Hp
  P : Addr → Prop
  Z : Addr → Prop
  mp : List Nat
  pv : Nat → V
structure SM (K : PySem.W.Frag) (B : Bs) (σ : St) (e : En) (t : List Md) (val : Nat → V) (H : Hp) : Prop where
  sm : Sm K B.Z (e ++ t) val H
  len : σ.length = B.n
  ln : e.length = B.n
  sl : ∀ i m, e[i]? = some m → m ≠ .un → σ[i]? = some (some (val i))
  fr : ∀ a o, B.H0 a = some o → ¬ B.P a → H a = some o
  nw : ∀ a, Own (e ++ t) val a → B.H0 a = none ∨ B.P a
  mp : ∀ i ∈ B.mp, val i = B.pv i
  mpl : ∀ i ∈ B.mp, i < e.length
  sv : ∀ i v, σ[i]? = some (some v) → val i = v
def Ag (n : Nat) (val val' : Nat → V) : Prop := ∀ i, i < n → val' i = val i
def AgT (m n : Nat) (val val' : Nat → V) : Prop := ∀ i, m ≤ i → i < n → val' i = val i
theorem Ag.refl {n : Nat} {val : Nat → V} : Ag n val val := fun _ _ => rfl
theorem Ag.trans {n m : Nat} {v0 v1 v2 : Nat → V} (h : n ≤ m) (a : Ag n v0 v1) (b : Ag m v1 v2) : Ag n v0 v2 := fun i hi => (b i (Nat.lt_of_lt_of_le hi h)).trans (a i hi)
/-- where a value lies: n names, b temps of others, then those of one's own -/
def VlAt (n b : Nat) (t : List Md) (val : Nat → V) (r : Vl) (v : V) : Prop := match r with
  | .d x => ∃ k, b ≤ k ∧ t[k]? = some (.d x) ∧ val (n + k) = v
  | .fr xs => ∃ k, b ≤ k ∧ t[k]? = some (.own xs) ∧ val (n + k) = v
  | .pk i => i < n ∧ val i = v
theorem VlAt.ext {n b : Nat} {t t' : List Md} {val val' : Nat → V} {r : Vl} {v : V} (h : VlAt n b t val r v) (ag : Ag (n + t.length) val val') : VlAt n b (t ++ t') val' r v := by
  cases r with
  | d x =>
    obtain ⟨k, h1, h2, h3⟩ := h
    have hk := (List.getElem?_eq_some_iff.mp h2).1
    exact ⟨k, h1, by rw [List.getElem?_append_left hk]; exact h2, by rw [ag _ (by omega)]; exact h3⟩
  | fr x =>
    obtain ⟨k, h1, h2, h3⟩ := h
    have hk := (List.getElem?_eq_some_iff.mp h2).1
    exact ⟨k, h1, by rw [List.getElem?_append_left hk]; exact h2, by rw [ag _ (by omega)]; exact h3⟩
  | pk i => exact ⟨h.1, by rw [ag _ (Nat.lt_of_lt_of_le h.1 (Nat.le_add_right _ _))]; exact h.2⟩
theorem VlAt.low {n b c : Nat} {t : List Md} {val : Nat → V} {r : Vl} {v : V} (h : VlAt n b t val r v) (hc : c ≤ b) : VlAt n c t val r v := by
  cases r with
  | d x => obtain ⟨k, h1, h2, h3⟩ := h; exact ⟨k, Nat.le_trans hc h1, h2, h3⟩
  | fr x => obtain ⟨k, h1, h2, h3⟩ := h; exact ⟨k, Nat.le_trans hc h1, h2, h3⟩
  | pk i => exact h
abbrev XW := Str → Addr → St → Hp → Prop
section
variable {α β : Type}
/-- how a mirror's run ends -/
def Fin (K : PySem.W.Frag) (B : Bs) (W : XW) (t : List Md) (val : Nat → V) (o : Option (Rs α)) (C : α → En → Prop) : Prop := match o with
  | none => False
  | some (.exc c x e') => ∀ σ H' d v t' val', AgT B.n (B.n + t.length) val val' → SM K B σ e' (t ++ t') val' H' → H' d = some (.xd [("value", v)]) → Dp K (Gh B.Z (e' ++ (t ++ t')) val' H') v x → W c d σ H'
  | some (.ok a e') => C a e'
variable {K : PySem.W.Frag} {B : Bs} {W : XW} {σ : St} {t : List Md} {val : Nat → V}
theorem Fin.imp {o : Option (Rs α)} {C C' : α → En → Prop} (h : Fin K B W t val o C) (k : ∀ a e, o = some (.ok a e) → C a e → C' a e) : Fin K B W t val o C' := by
  unfold Fin at h ⊢
  split at h
  · exact h
  · exact h
  · exact k _ _ rfl h
theorem Fin.bnd {m : Mo α} {k : α → Mo β} {e : En} {C : β → En → Prop} (h : Fin K B W t val (Mo.bnd m k e) C) : Fin K B W t val (m e) fun a e1 => Fin K B W t val (k a e1) C := by
  unfold Mo.bnd at h
  cases hm : m e with
  | none => rw [hm] at h; exact h
  | some r =>
    rw [hm] at h
    cases r with
    | ok a e' => exact h
    | exc c x e' => exact h
theorem Fin.ext {o : Option (Rs α)} {C : α → En → Prop} {t1 : List Md} {val1 : Nat → V} (h : Fin K B W t val o C) (ag : AgT B.n (B.n + t.length) val val1) : Fin K B W (t ++ t1) val1 o C := by
  unfold Fin at h ⊢
  split at h
  · exact h
  · rename_i c x e'
    intro σ H' d v t' val' ag' S hd hv
    rw [List.append_assoc] at S hv
    exact h σ H' d v (t1 ++ t') val' (fun i h1 h2 => (ag' i h1 (by simp; omega)).trans (ag i h1 h2)) S hd hv
  · exact h
theorem Ag.T {n m : Nat} {v0 v1 : Nat → V} (a : Ag n v0 v1) : AgT m n v0 v1 := fun i _ h => a i h
end

/-! ### readings by a mirror -/
def tD (K : PySem.W.Frag) (B : Bs) (W : XW) (f : Mo Vl) : TE := fun σ H Q => ∃ e t val, SM K B σ e t val H ∧
  Fin K B W t val (f e) fun r e' => ∀ v H' t' val', Ag (e'.length + t.length) val val' → SM K B σ e' (t ++ t') val' H' → VlAt e'.length t.length (t ++ t') val' r v → Q v H'
def tT (K : PySem.W.Frag) (B : Bs) (W : XW) (f : Mo Bool) : TT := fun σ H Q => ∃ e t val, SM K B σ e t val H ∧
  Fin K B W t val (f e) fun r e' => ∀ H' t' val', Ag (e'.length + t.length) val val' → SM K B σ e' (t ++ t') val' H' → Q r H'
def VlAll (n b : Nat) (t : List Md) (val : Nat → V) : List Vl → List V → Prop
  | [], vs => vs = []
  | r :: rs, vs => ∃ v us m, vs = v :: us ∧ b ≤ m ∧ m ≤ t.length ∧ VlAt n b (t.take m) val r v ∧ VlAll n m t val rs us
def tA (K : PySem.W.Frag) (B : Bs) (W : XW) (f : Mo (List Vl)) : TA := fun σ H Q => ∃ e t val, SM K B σ e t val H ∧
  Fin K B W t val (f e) fun rs e' => ∀ vs H' t' val', Ag (e'.length + t.length) val val' → SM K B σ e' (t ++ t') val' H' → VlAll e'.length t.length (t ++ t') val' rs vs → Q vs H'
theorem VlAll.ext {n : Nat} {t t' : List Md} {val val' : Nat → V} (ag : Ag (n + t.length) val val') : ∀ {b : Nat} {rs : List Vl} {vs : List V}, VlAll n b t val rs vs → VlAll n b (t ++ t') val' rs vs
  | _, [], _, h => h
  | b, _ :: _, _, ⟨v, us, m, e, h0, h0', h1, h2⟩ => by
    refine ⟨v, us, m, e, h0, by simp; omega, ?_, VlAll.ext ag h2⟩
    have : (t ++ t').take m = t.take m := by rw [List.take_append_of_le_length h0']
    rw [this]
    have q := h1.ext (t' := []) (val' := val') (fun i hi => ag i (by simp at hi; omega))
    simpa using q
theorem VlAll.low {n c : Nat} {t : List Md} {val : Nat → V} : ∀ {b : Nat} {rs : List Vl} {vs : List V}, c ≤ b → VlAll n b t val rs vs → VlAll n c t val rs vs
  | _, [], _, _, h => h
  | b, _ :: _, _, hc, ⟨v, us, m, e, h0, h0', h1, h2⟩ => ⟨v, us, m, e, by omega, h0', h1.low hc, h2⟩
theorem VlAt.take {n b m : Nat} {t : List Md} {val : Nat → V} {r : Vl} {v : V} (h : VlAt n b (t.take m) val r v) : VlAt n b t val r v := by
  have f : ∀ k x, (t.take m)[k]? = some x → t[k]? = some x := fun k x h => by
    rw [List.getElem?_take] at h
    split at h
    · exact h
    · cases h
  cases r with
  | d x => obtain ⟨k, h1, h2, h3⟩ := h; exact ⟨k, h1, f _ _ h2, h3⟩
  | fr x => obtain ⟨k, h1, h2, h3⟩ := h; exact ⟨k, h1, f _ _ h2, h3⟩
  | pk i => exact h

theorem _root_.L2.PE.imp {X : Cx} {e : Expr} {t t' : TE} (h : PE X e t) (k : ∀ σ H Q, t' σ H Q → t σ H Q) : PE X e t' := ⟨fun pins s σ H Q I q => h.run pins s σ H Q I (k σ H Q q)⟩
theorem _root_.L2.PT.imp {X : Cx} {e : Expr} {t t' : TT} (h : PT X e t) (k : ∀ σ H Q, t' σ H Q → t σ H Q) : PT X e t' := ⟨fun pins s σ H Q I q => h.run pins s σ H Q I (k σ H Q q)⟩
theorem _root_.L2.PW.imp {X : Cx} {e : Expr} {t t' : TT} (h : PW X e t) (k : ∀ σ H Q, t' σ H Q → t σ H Q) : PW X e t' := ⟨fun w pins s σ H Q I q => h.run w pins s σ H Q I (k σ H Q q)⟩
theorem _root_.L2.PA.imp {X : Cx} {e : List Expr} {t t' : TA} (h : PA X e t) (k : ∀ σ H Q, t' σ H Q → t σ H Q) : PA X e t' := ⟨fun w pins s σ H Q I q => h.run w pins s σ H Q I (k σ H Q q)⟩
theorem _root_.L2.PS.imp {X : Cx} {e : Stmt} {t t' : TS} (h : PS X e t) (k : ∀ D σ H, t' D σ H → t D σ H) : PS X e t' := ⟨fun pins s σ H D I q => h.run pins s σ H D I (k D σ H q)⟩
theorem _root_.L2.PSs.imp {X : Cx} {e : List Stmt} {t t' : TS} (h : PSs X e t) (k : ∀ D σ H, t' D σ H → t D σ H) : PSs X e t' := ⟨fun pins s σ H D I q => h.run pins s σ H D I (k D σ H q)⟩

section
variable {K : PySem.W.Frag} {B : Bs} {W : XW} {σ : St} {e : En} {t : List Md} {val : Nat → V} {H H' : Hp}
theorem SM.grow (s : SM K B σ e t val H) (g : Same H H') : SM K B σ e t val H' where
  sm := s.sm.grow g
  len := s.len
  ln := s.ln
  sl := s.sl
  fr a o h1 h2 := g _ _ (s.fr a o h1 h2)
  nw := s.nw
  mp := s.mp
  mpl := s.mpl
  sv := s.sv
theorem SM.drop {t' : List Md} (s : SM K B σ e (t ++ t') val H) : SM K B σ e t val H where
  sm := by
    have h := s.sm
    rw [← List.append_assoc] at h
    exact h.drop
  len := s.len
  ln := s.ln
  sl := s.sl
  fr := s.fr
  nw a h := s.nw a (by rw [← List.append_assoc]; exact h.append_left)
  mp := s.mp
  mpl := s.mpl
  sv := s.sv
noncomputable abbrev SM.G (_ : SM K B σ e t val H) : Hp := Gh B.Z (e ++ t) val H
theorem Own.pushEnd {L : List Md} {m : Md} {a : Addr} {v : V} (h : Own (L ++ [m]) (setv val L.length v) a) : Own L val a ∨ v = .ref a := (Own.push h).imp id (·.2)
/-- a new temp: data -/
theorem SM.pushD (s : SM K B σ e t val H) {v : V} {x : PyData} (h : Dp K (Gh B.Z (e ++ t) val H) v x) : SM K B σ e (t ++ [.d x]) (setv val (e.length + t.length) v) H where
  sm := by
    have h := s.sm.pushD h
    rw [List.append_assoc, List.length_append] at h
    exact h
  len := s.len
  ln := s.ln
  sl i m hi hm := by
    have := (List.getElem?_eq_some_iff.mp hi).1
    rw [setv_lt (by omega)]
    exact s.sl i m hi hm
  fr := s.fr
  nw a h := by
    rw [← List.append_assoc, ← List.length_append] at h
    rcases Own.push h with h | ⟨⟨xs, h⟩, _⟩
    · exact s.nw a h
    · cases h
  mp i hi := by rw [setv_lt (by have := s.mpl i hi; omega)]; exact s.mp i hi
  mpl := s.mpl
  sv i v hi := by
    have h1 := (List.getElem?_eq_some_iff.mp hi).1
    rw [setv_lt (by rw [s.ln]; rw [s.len] at h1; omega)]; exact s.sv i v hi
theorem SM.pushOwn {H0 : Hp} (s : SM K B σ e t val H0) (g : Same H0 H) {p : Addr} {vs : List V} {xs : List PyData} (hp : H0 p = none) (hH : H p = some (.lst vs))
    (hd : DpAll K (minus H fun a => (Own (e ++ t) val a ∨ a = p) ∨ B.Z a) vs xs) : SM K B σ e (t ++ [.own xs]) (setv val (e.length + t.length) (.ref p)) H where
  sm := by
    have h := s.sm.pushOwn g hp hH hd
    rw [List.append_assoc, List.length_append] at h
    exact h
  len := s.len
  ln := s.ln
  sl i m hi hm := by
    have := (List.getElem?_eq_some_iff.mp hi).1
    rw [setv_lt (by omega)]
    exact s.sl i m hi hm
  fr a o h1 h2 := g _ _ (s.fr a o h1 h2)
  nw a h := by
    rw [← List.append_assoc, ← List.length_append] at h
    rcases Own.push h with h | ⟨_, h⟩
    · exact s.nw a h
    · cases h
      by_cases h : B.P p
      · exact .inr h
      · cases q : B.H0 p with
        | none => exact .inl rfl
        | some o => have := s.fr p o q h; rw [hp] at this; cases this
  mp i hi := by rw [setv_lt (by have := s.mpl i hi; omega)]; exact s.mp i hi
  mpl := s.mpl
  sv i v hi := by
    have h1 := (List.getElem?_eq_some_iff.mp hi).1
    rw [setv_lt (by rw [s.ln]; rw [s.len] at h1; omega)]; exact s.sv i v hi
end
end L2.DL

namespace L2.DL
open PySem PySem.Spec PyProof.Rows
/-! ### a value's data, read in place; kept -/
def Pk (K : PySem.W.Frag) (G H : Hp) (v : V) (d : PyData) : Prop := Dp K G v d ∨ ∃ a vs xs, v = .ref a ∧ d = .list xs ∧ H a = some (.lst vs) ∧ DpAll K G vs xs
theorem Pk.full {K : PySem.W.Frag} {G H : Hp} {v : V} {d : PyData} (s : Same G H) (h : Pk K G H v d) : Dp K H v d := by
  rcases h with h | ⟨a, vs, xs, rfl, rfl, h1, h2⟩
  · exact Dp.mono s _ _ h
  · exact .lst (SqL.of h1) (DpAll.mono s _ _ h2)
theorem Pk.lst {K : PySem.W.Frag} {G H : Hp} {v : V} {xs : List PyData} (s : Same G H) (h : Pk K G H v (.list xs)) : ∃ a vs, v = .ref a ∧ SqL K H a vs ∧ DpAll K G vs xs := by
  rcases h with h | ⟨a, vs, ys, rfl, e, h1, h2⟩
  · cases h with
    | lst h1 h2 => exact ⟨_, _, rfl, SqL.mono s h1, h2⟩
  · cases e
    exact ⟨a, vs, rfl, SqL.of h1, h2⟩
theorem Pk.tup {K : PySem.W.Frag} {G H : Hp} {v : V} {xs : List PyData} (s : Same G H) (h : Pk K G H v (.tuple xs)) : ∃ a vs, v = .ref a ∧ SqT K H a vs ∧ DpAll K G vs xs := by
  rcases h with h | ⟨a, vs, ys, rfl, e, h1, h2⟩
  · cases h with
    | tup h1 h2 => exact ⟨_, _, rfl, SqT.mono s h1, h2⟩
  · cases e
theorem Pk.int {K : PySem.W.Frag} {G H : Hp} {v : V} {i : Int} (h : Pk K G H v (.int i)) : v = .int i := by
  rcases h with h | ⟨a, vs, ys, rfl, e, h1, h2⟩
  · cases h; rfl
  · cases e
theorem Pk.bl {K : PySem.W.Frag} {G H : Hp} {v : V} {i : Bool} (h : Pk K G H v (.bool i)) : v = .bl i := by
  rcases h with h | ⟨a, vs, ys, rfl, e, h1, h2⟩
  · cases h; rfl
  · cases e
theorem Pk.str {K : PySem.W.Frag} {G H : Hp} {v : V} {i : Str} (h : Pk K G H v (.str i)) : v = .str i := by
  rcases h with h | ⟨a, vs, ys, rfl, e, h1, h2⟩
  · cases h; rfl
  · cases e
theorem Pk.non {K : PySem.W.Frag} {G H : Hp} {v : V} (h : Pk K G H v .none) : v = .non := by
  rcases h with h | ⟨a, vs, ys, rfl, e, h1, h2⟩
  · cases h; rfl
  · cases e
def PkAll (K : PySem.W.Frag) (G H : Hp) : List V → List PyData → Prop
  | [], ds => ds = []
  | v :: vs, ds => ∃ d es, ds = d :: es ∧ Pk K G H v d ∧ PkAll K G H vs es

def VlW (n b : Nat) (t : List Md) (val : Nat → V) (r : Vl) (v : V) : Prop := match r with
  | .d x => ∃ k, b ≤ k ∧ t[k]? = some (.d x) ∧ val (n + k) = v
  | .fr xs => ∃ k, b ≤ k ∧ (t[k]? = some (.own xs) ∨ t[k]? = some (.d (.list xs))) ∧ val (n + k) = v
  | .pk i => i < n ∧ val i = v
theorem VlAt.weak {n b : Nat} {t : List Md} {val : Nat → V} {r : Vl} {v : V} (h : VlAt n b t val r v) : VlW n b t val r v := by
  cases r with
  | d x => exact h
  | fr x => obtain ⟨k, h1, h2, h3⟩ := h; exact ⟨k, h1, .inl h2, h3⟩
  | pk i => exact h
def VlWs (n b : Nat) (t : List Md) (val : Nat → V) : List Vl → List V → Prop
  | [], vs => vs = []
  | r :: rs, vs => ∃ v us, vs = v :: us ∧ VlW n b t val r v ∧ VlWs n b t val rs us
theorem VlW.low {n b c : Nat} {t : List Md} {val : Nat → V} {r : Vl} {v : V} (h : VlW n b t val r v) (hc : c ≤ b) : VlW n c t val r v := by
  cases r with
  | d x => obtain ⟨k, h1, h2, h3⟩ := h; exact ⟨k, Nat.le_trans hc h1, h2, h3⟩
  | fr x => obtain ⟨k, h1, h2, h3⟩ := h; exact ⟨k, Nat.le_trans hc h1, h2, h3⟩
  | pk i => exact h
theorem VlWs.low {n b c : Nat} {t : List Md} {val : Nat → V} (hc : c ≤ b) : ∀ {rs : List Vl} {vs : List V}, VlWs n b t val rs vs → VlWs n c t val rs vs
  | [], _, h => h
  | _ :: _, _, ⟨v, us, e, h1, h2⟩ => ⟨v, us, e, h1.low hc, VlWs.low hc h2⟩
theorem VlAll.weak {n : Nat} {t : List Md} {val : Nat → V} : ∀ {b : Nat} {rs : List Vl} {vs : List V}, VlAll n b t val rs vs → VlWs n b t val rs vs
  | _, [], _, h => h
  | _, _ :: _, _, ⟨v, us, m, e, h0, _, h1, h2⟩ => ⟨v, us, e, h1.take.weak, VlWs.low h0 (VlAll.weak h2)⟩

section
variable {K : PySem.W.Frag} {B : Bs} {σ : St} {e e' : En} {t : List Md} {val : Nat → V} {H H' : Hp}
theorem SM.at_t (s : SM K B σ e t val H) {k : Nat} {m : Md} (h : t[k]? = some m) : EntOk K (Gh B.Z (e ++ t) val H) H (val (e.length + k)) m :=
  s.sm.ok _ _ (by rw [List.getElem?_append_right (Nat.le_add_right _ _), Nat.add_sub_cancel_left]; exact h)
theorem SM.at_e (s : SM K B σ e t val H) {k : Nat} {m : Md} (h : e[k]? = some m) : EntOk K (Gh B.Z (e ++ t) val H) H (val k) m :=
  s.sm.ok _ _ (by rw [List.getElem?_append_left (List.getElem?_eq_some_iff.mp h).1]; exact h)
theorem EntOk.pk {G : Hp} {v : V} {xs : List PyData} (h : EntOk K G H v (.own xs)) : Pk K G H v (.list xs) := by
  obtain ⟨a, vs, e, h1, h2⟩ := h
  exact .inr ⟨a, vs, xs, e, rfl, h1, h2⟩
theorem peek_ok {r : Vl} {v : V} {d : PyData} {b : Nat} (s : SM K B σ e t val H) (h : VlW e.length b t val r v) (p : peek r e = some (.ok d e')) : e' = e ∧ Pk K (Gh B.Z (e ++ t) val H) H v d := by
  cases r with
  | d x =>
    cases p
    obtain ⟨k, _, h2, h3⟩ := h
    have := s.at_t h2
    rw [h3] at this
    exact ⟨rfl, .inl this⟩
  | fr xs =>
    cases p
    obtain ⟨k, _, h2, h3⟩ := h
    rcases h2 with h2 | h2
    · have := s.at_t h2
      rw [h3] at this
      exact ⟨rfl, this.pk⟩
    · have := s.at_t h2
      rw [h3] at this
      exact ⟨rfl, .inl this⟩
  | pk i =>
    unfold peek at p
    obtain ⟨_, h2⟩ := h
    cases q : e[i]? with
    | none => simp [q] at p
    | some m =>
      have := s.at_e q
      rw [h2] at this
      cases m with
      | un => simp [q] at p
      | d x => simp [q] at p; obtain ⟨rfl, rfl⟩ := p; exact ⟨rfl, .inl this⟩
      | own xs => simp [q] at p; obtain ⟨rfl, rfl⟩ := p; exact ⟨rfl, this.pk⟩
def peeks : List Vl → Mo (List PyData)
  | [] => Mo.ret []
  | r :: rs => Mo.bnd (peek r) fun d => Mo.bnd (peeks rs) fun ds => Mo.ret (d :: ds)
theorem Mo.bnd_ok {α β : Type} {m : Mo α} {k : α → Mo β} {e : En} {b : β} {e' : En} (h : Mo.bnd m k e = some (.ok b e')) : ∃ a e1, m e = some (.ok a e1) ∧ k a e1 = some (.ok b e') := by
  unfold Mo.bnd at h
  cases q : m e with
  | none => rw [q] at h; cases h
  | some r =>
    rw [q] at h
    cases r with
    | ok a e1 => exact ⟨a, e1, rfl, h⟩
    | exc c x e1 => cases h
theorem peeks_ok {b : Nat} : ∀ {rs : List Vl} {vs : List V} {ds : List PyData} {e e' : En}, SM K B σ e t val H → VlWs e.length b t val rs vs → peeks rs e = some (.ok ds e') → e' = e ∧ PkAll K (Gh B.Z (e ++ t) val H) H vs ds
  | [], _, _, _, _, s, h, p => by cases h; cases p; exact ⟨rfl, rfl⟩
  | r :: rs, _, _, _, _, s, ⟨v, us, hv, h1, h2⟩, p => by
    obtain ⟨d, e1, p1, pA⟩ := Mo.bnd_ok p
    obtain ⟨ds, e2, p2, pB⟩ := Mo.bnd_ok pA
    obtain ⟨e1e, q1⟩ := peek_ok s h1 p1
    subst e1e
    obtain ⟨e2e, q2⟩ := peeks_ok s h2 p2
    subst e2e
    have p3 := Option.some.inj pB
    injection p3 with p4 p5
    subst hv
    exact ⟨p5.symm, d, ds, p4.symm, q1, q2⟩
theorem peek_noexc {r : Vl} {c : Str} {x : PyData} : peek r e ≠ some (.exc c x e') := by
  unfold peek
  intro h
  split at h
  · cases h
  · cases h
  · split at h <;> cases h
/-- an own entry turns into data -/
theorem SM.setE (s : SM K B σ e t val H) {i : Nat} {xs : List PyData} (h : e[i]? = some (.own xs)) : SM K B σ (e.set i (.d (.list xs))) t val H ∧ Same (Gh B.Z (e ++ t) val H) (Gh B.Z (e.set i (.d (.list xs)) ++ t) val H) ∧ Dp K (Gh B.Z (e.set i (.d (.list xs)) ++ t) val H) (val i) (.list xs) := by
  have hi := (List.getElem?_eq_some_iff.mp h).1
  have hs : (e ++ t).set i (.d (.list xs)) = e.set i (.d (.list xs)) ++ t := by rw [List.set_append_left _ _ hi]
  have hg : (e ++ t)[i]? = some (.own xs) := by rw [List.getElem?_append_left hi]; exact h
  have q := s.sm.frz hg
  rw [hs] at q
  have sub : ∀ a, Own (e.set i (.d (.list xs)) ++ t) val a → Own (e ++ t) val a := fun a z => by
    rw [← hs] at z
    exact Own.set_sub (fun _ h => by cases h) z
  refine ⟨⟨q, s.len, by rw [List.length_set]; exact s.ln, fun j m hj hm => ?_, s.fr, fun a z => s.nw a (sub a z), s.mp, fun j hj => by rw [List.length_set]; exact s.mpl j hj, s.sv⟩, ?_, ?_⟩
  · by_cases hij : i = j
    · subst hij; exact s.sl i _ h (by intro z; cases z)
    · rw [List.getElem?_set_ne hij] at hj; exact s.sl j m hj hm
  · exact minus_mono fun a o h1 h2 => ⟨fun z => h1 (z.imp (sub a) id), h2⟩
  · exact q.ok i (.d (.list xs)) (by rw [List.getElem?_append_left (by rw [List.length_set]; exact hi), List.getElem?_set]; simp [hi])
theorem SM.setT (s : SM K B σ e t val H) {k : Nat} {xs : List PyData} (h : t[k]? = some (.own xs)) : SM K B σ e (t.set k (.d (.list xs))) val H ∧ Same (Gh B.Z (e ++ t) val H) (Gh B.Z (e ++ t.set k (.d (.list xs))) val H) ∧ Dp K (Gh B.Z (e ++ t.set k (.d (.list xs))) val H) (val (e.length + k)) (.list xs) := by
  have hk := (List.getElem?_eq_some_iff.mp h).1
  have hs : (e ++ t).set (e.length + k) (.d (.list xs)) = e ++ t.set k (.d (.list xs)) := by rw [List.set_append_right _ _ (Nat.le_add_right _ _), Nat.add_sub_cancel_left]
  have hg : (e ++ t)[e.length + k]? = some (.own xs) := by rw [List.getElem?_append_right (Nat.le_add_right _ _), Nat.add_sub_cancel_left]; exact h
  have q := s.sm.frz hg
  rw [hs] at q
  have sub : ∀ a, Own (e ++ t.set k (.d (.list xs))) val a → Own (e ++ t) val a := fun a z => by
    rw [← hs] at z
    exact Own.set_sub (fun _ h => by cases h) z
  refine ⟨⟨q, s.len, s.ln, s.sl, s.fr, fun a z => s.nw a (sub a z), s.mp, s.mpl, s.sv⟩, ?_, ?_⟩
  · exact minus_mono fun a o h1 h2 => ⟨fun z => h1 (z.imp (sub a) id), h2⟩
  · exact q.ok (e.length + k) (.d (.list xs)) (by rw [List.getElem?_append_right (Nat.le_add_right _ _), Nat.add_sub_cancel_left, List.getElem?_set]; simp [hk])
theorem freeze_ok {t0 t1 : List Md} {r : Vl} {v : V} {d : PyData} (s : SM K B σ e (t0 ++ t1) val H) (h : VlW e.length t0.length (t0 ++ t1) val r v) (p : freeze r e = some (.ok d e')) :
    ∃ t1', t1'.length = t1.length ∧ e'.length = e.length ∧ SM K B σ e' (t0 ++ t1') val H ∧ Same (Gh B.Z (e ++ (t0 ++ t1)) val H) (Gh B.Z (e' ++ (t0 ++ t1')) val H) ∧ Dp K (Gh B.Z (e' ++ (t0 ++ t1')) val H) v d ∧
      ∀ r' v', VlW e.length t0.length (t0 ++ t1) val r' v' → VlW e'.length t0.length (t0 ++ t1') val r' v' := by
  cases r with
  | d x =>
    cases p
    obtain ⟨k, _, h2, h3⟩ := h
    have := s.at_t h2
    rw [h3] at this
    exact ⟨t1, rfl, rfl, s, Same.refl _, this, fun _ _ h => h⟩
  | fr xs =>
    cases p
    obtain ⟨k, h1, h2, h3⟩ := h
    rcases h2 with h2 | h2
    · obtain ⟨s1, sa, hd⟩ := s.setT h2
      have hs : (t0 ++ t1).set k (.d (.list xs)) = t0 ++ t1.set (k - t0.length) (.d (.list xs)) := List.set_append_right _ _ h1
      rw [hs] at s1 sa hd
      rw [h3] at hd
      refine ⟨t1.set (k - t0.length) (.d (.list xs)), by rw [List.length_set], rfl, s1, sa, hd, fun r' v' h' => ?_⟩
      rw [← hs]
      cases r' with
      | d y =>
        obtain ⟨k', g1, g2, g3⟩ := h'
        refine ⟨k', g1, ?_, g3⟩
        by_cases hk : k = k'
        · subst hk; rw [h2] at g2; cases g2
        · rw [List.getElem?_set_ne hk]; exact g2
      | fr ys =>
        obtain ⟨k', g1, g2, g3⟩ := h'
        refine ⟨k', g1, ?_, g3⟩
        by_cases hk : k = k'
        · subst hk
          rw [h2] at g2
          have : ys = xs := by
            rcases g2 with g2 | g2
            · cases g2; rfl
            · cases g2
          subst this
          right
          rw [List.getElem?_set]; simp [(List.getElem?_eq_some_iff.mp h2).1]
          have := (List.getElem?_eq_some_iff.mp h2).1
          simpa using this
        · rw [List.getElem?_set_ne hk]; exact g2
      | pk i => exact h'
    · have := s.at_t h2
      rw [h3] at this
      exact ⟨t1, rfl, rfl, s, Same.refl _, this, fun _ _ h => h⟩
  | pk i =>
    unfold freeze at p
    obtain ⟨_, h2⟩ := h
    cases q : e[i]? with
    | none => simp [q] at p
    | some m =>
      cases m with
      | un => simp [q] at p
      | d x =>
        simp [q] at p; obtain ⟨rfl, rfl⟩ := p
        have := s.at_e q
        rw [h2] at this
        exact ⟨t1, rfl, rfl, s, Same.refl _, this, fun _ _ h => h⟩
      | own xs =>
        simp [q] at p; obtain ⟨rfl, rfl⟩ := p
        obtain ⟨s1, sa, hd⟩ := s.setE q
        rw [h2] at hd
        exact ⟨t1, rfl, by rw [List.length_set], s1, sa, hd, fun r' v' h' => by rw [List.length_set]; exact h'⟩
def freezes : List Vl → Mo (List PyData)
  | [] => Mo.ret []
  | r :: rs => Mo.bnd (freeze r) fun d => Mo.bnd (freezes rs) fun ds => Mo.ret (d :: ds)
theorem VlWs.imp {n b n' b' : Nat} {t t' : List Md} {val val' : Nat → V} (k : ∀ r v, VlW n b t val r v → VlW n' b' t' val' r v) : ∀ {rs : List Vl} {vs : List V}, VlWs n b t val rs vs → VlWs n' b' t' val' rs vs
  | [], _, h => h
  | _ :: _, _, ⟨v, us, e, h1, h2⟩ => ⟨v, us, e, k _ _ h1, VlWs.imp k h2⟩
theorem freezes_ok {t0 : List Md} : ∀ {rs : List Vl} {vs : List V} {ds : List PyData} {e e' : En} {t1 : List Md}, SM K B σ e (t0 ++ t1) val H → VlWs e.length t0.length (t0 ++ t1) val rs vs → freezes rs e = some (.ok ds e') →
    ∃ t1', t1'.length = t1.length ∧ e'.length = e.length ∧ SM K B σ e' (t0 ++ t1') val H ∧ Same (Gh B.Z (e ++ (t0 ++ t1)) val H) (Gh B.Z (e' ++ (t0 ++ t1')) val H) ∧ DpAll K (Gh B.Z (e' ++ (t0 ++ t1')) val H) vs ds
  | [], _, _, _, _, t1, s, h, p => by cases h; cases p; exact ⟨t1, rfl, rfl, s, Same.refl _, .nil⟩
  | r :: rs, _, _, e, _, t1, s, ⟨v, us, hv, h1, h2⟩, p => by
    obtain ⟨d, e1, p1, p⟩ := Mo.bnd_ok p
    obtain ⟨ds, e2, p2, p⟩ := Mo.bnd_ok p
    obtain ⟨t1a, la, la', sa, saa, da, wa⟩ := freeze_ok s h1 p1
    obtain ⟨t1b, lb, lb', sb, sbb, db⟩ := freezes_ok sa (h2.imp wa) p2
    cases p
    subst hv
    exact ⟨t1b, lb.trans la, lb'.trans la', sb, saa.trans sbb, .cons (Dp.mono sbb _ _ da) db⟩
theorem freeze_noexc {r : Vl} {c : Str} {x : PyData} : freeze r e ≠ some (.exc c x e') := by
  unfold freeze
  intro h
  split at h
  · cases h
  · cases h
  · split at h <;> cases h

/-! ### what an operation gives -/
def gext (G H H' : Hp) : Hp := fun a => match H a with
  | some _ => G a
  | none => H' a
def Res (K : PySem.W.Frag) (G H : Hp) (w : Vl) (v : V) (H' : Hp) : Prop := Same H H' ∧ match w with
  | .d z => Dp K (gext G H H') v z
  | .fr zs => ∃ p vs, v = .ref p ∧ H p = none ∧ H' p = some (.lst vs) ∧ DpAll K (minus (gext G H H') fun a => a = p) vs zs
  | .pk _ => False
theorem gext_same {G : Hp} (s : Same G H) : gext G H H = G := by
  funext a
  unfold gext
  cases e : H a with
  | some o => rfl
  | none =>
    cases q : G a with
    | none => rfl
    | some o => rw [s a o q] at e; cases e
theorem Same.gext {G : Hp} (s : Same G H) (H' : Hp) : Same G (gext G H H') := fun a o h => by
  unfold DL.gext
  rw [s a o h]
  exact h
theorem Res.same {G : Hp} {v : V} {z : PyData} (s : Same G H) (h : Dp K G v z) : Res K G H (.d z) v H := ⟨Same.refl _, by rw [gext_same s]; exact h⟩
theorem Same.updN {p : Addr} {o : HO} (hp : H p = none) : Same H (upd H p o) := fun a u h => by rw [upd_ne (ne_of_none h hp)]; exact h
theorem Res.tup {G : Hp} {p : Addr} {vs : List V} {ds : List PyData} (s : Same G H) (hp : H p = none) (h : DpAll K G vs ds) : Res K G H (.d (.tuple ds)) (.ref p) (upd H p (.tup vs)) := by
  refine ⟨Same.updN hp, .tup (SqT.of ?_) (DpAll.mono (Same.gext s _) _ _ h)⟩
  unfold gext
  rw [hp]
  exact upd_same
theorem Res.lst {G : Hp} {p : Addr} {vs : List V} {ds : List PyData} (s : Same G H) (hp : H p = none) (h : DpAll K G vs ds) : Res K G H (.fr ds) (.ref p) (upd H p (.lst vs)) := by
  refine ⟨Same.updN hp, p, vs, rfl, hp, upd_same, DpAll.mono (fun a o h => ?_) _ _ h⟩
  have hH := s a o h
  refine minus_some.mpr ⟨fun z => ?_, Same.gext s _ a o h⟩
  subst z
  rw [hp] at hH
  cases hH
theorem SM.res {r : Vl} {v : V} (s : SM K B σ e t val H) (h : Res K (Gh B.Z (e ++ t) val H) H r v H') : ∃ m, SM K B σ e (t ++ [m]) (setv val (e.length + t.length) v) H' ∧ VlAt e.length t.length (t ++ [m]) (setv val (e.length + t.length) v) r v := by
  obtain ⟨g, h⟩ := h
  have sub : Same (gext (Gh B.Z (e ++ t) val H) H H') (Gh B.Z (e ++ t) val H') := fun a o q => by
    unfold gext at q
    cases e1 : H a with
    | some u =>
      rw [e1] at q
      obtain ⟨h1, h2⟩ := minus_some.mp q
      exact minus_some.mpr ⟨h1, g _ _ h2⟩
    | none =>
      rw [e1] at q
      refine minus_some.mpr ⟨?_, q⟩
      rintro (z | z)
      · obtain ⟨vs, z⟩ := s.sm.own_some z; rw [e1] at z; cases z
      · exact s.sm.zok _ z e1
  cases r with
  | d x => exact ⟨.d x, (s.grow g).pushD (Dp.mono sub _ _ h), t.length, Nat.le_refl _, by simp, setv_same⟩
  | fr xs =>
    obtain ⟨p, vs, rfl, hp, hH, hd⟩ := h
    refine ⟨.own xs, s.pushOwn g hp hH (DpAll.mono (minus_mono ?_) _ _ hd), t.length, Nat.le_refl _, by simp, setv_same⟩
    intro a o h1 h2
    obtain ⟨g1, g2⟩ := minus_some.mp (sub a o h2)
    refine ⟨?_, g2⟩
    rintro ((z | z) | z)
    · exact g1 (.inl z)
    · exact h1 z
    · exact g1 (.inr z)
  | pk i => exact h.elim
end
theorem gh_sub {Z : Addr → Prop} {L : List Md} {val : Nat → V} {H : Hp} : Same (Gh Z L val H) H := minus_sub

/-! ### operations by data -/
def OpD (K : PySem.W.Frag) (r : R2) (f : PyData → PyData → Option Vl) : Prop := ∀ G H x y dx dy w Q, Same G H → Pk K G H x dx → Pk K G H y dy → f dx dy = some w → (∀ v H', Res K G H w v H' → Q v H') → r x y H Q
def UnD (K : PySem.W.Frag) (r : V → Hp → VK → Prop) (f : PyData → Option Vl) : Prop := ∀ G H x dx w Q, Same G H → Pk K G H x dx → f dx = some w → (∀ v H', Res K G H w v H' → Q v H') → r x H Q
def CallD (K : PySem.W.Frag) (r : List V → Hp → VK → Prop) (f : List PyData → Option Vl) : Prop := ∀ G H vs ds w Q, Same G H → PkAll K G H vs ds → f ds = some w → (∀ v H', Res K G H w v H' → Q v H') → r vs H Q

/-! ### mirrors of expressions -/
def eVar (i : Nat) : Mo Vl := fun e => match e[i]? with
  | some (.d x) => some (.ok (.d x) e)
  | some (.own _) => some (.ok (.pk i) e)
  | _ => none
def eC (x : PyData) : Mo Vl := Mo.ret (.d x)
def eBin (f : PyData → PyData → Option Vl) (a b : Mo Vl) : Mo Vl := Mo.bnd a fun x => Mo.bnd b fun y => Mo.bnd (peek x) fun dx => Mo.bnd (peek y) fun dy => Mo.lift (f dx dy)
def eUn (f : PyData → Option Vl) (a : Mo Vl) : Mo Vl := Mo.bnd a fun x => Mo.bnd (peek x) fun dx => Mo.lift (f dx)
def aNil : Mo (List Vl) := Mo.ret []
def aCons (a : Mo Vl) (r : Mo (List Vl)) : Mo (List Vl) := Mo.bnd a fun x => Mo.bnd r fun xs => Mo.ret (x :: xs)
def eTup (a : Mo (List Vl)) : Mo Vl := Mo.bnd a fun rs => Mo.bnd (freezes rs) fun ds => Mo.lift (if ds.length ≤ 16777216 then some (.d (.tuple ds)) else none)
def eLst (a : Mo (List Vl)) : Mo Vl := Mo.bnd a fun rs => Mo.bnd (freezes rs) fun ds => Mo.lift (if ds.length ≤ 16777216 then some (.fr ds) else none)
def eCall (f : List PyData → Option Vl) (a : Mo (List Vl)) : Mo Vl := Mo.bnd a fun rs => Mo.bnd (peeks rs) fun ds => Mo.lift (f ds)

section
variable {X : Cx} {B : Bs} {W : XW} {a b : Expr} {pos : Pos} {fa fb : Mo Vl}
theorem lift_ok {α : Type} {o : Option α} {e e' : En} {x : α} (h : Mo.lift o e = some (.ok x e')) : o = some x ∧ e' = e := by
  unfold Mo.lift at h
  cases o with
  | none => cases h
  | some y => cases h; exact ⟨rfl, rfl⟩
theorem Fin.lift {α : Type} {K : PySem.W.Frag} {t : List Md} {val : Nat → V} {o : Option α} {e : En} {C : α → En → Prop} (h : Fin K B W t val (Mo.lift o e) C) : ∃ x, o = some x ∧ C x e := by
  cases o with
  | none => exact h.elim
  | some x => exact ⟨x, rfl, h⟩
theorem Fin.peek {K : PySem.W.Frag} {t : List Md} {val : Nat → V} {r : Vl} {e : En} {C : PyData → En → Prop} (h : Fin K B W t val (peek r e) C) : ∃ d e', peek r e = some (.ok d e') ∧ C d e' := by
  cases q : DL.peek r e with
  | none => rw [q] at h; exact h.elim
  | some z =>
    cases z with
    | ok d e' => rw [q] at h; exact ⟨d, e', rfl, h⟩
    | exc c x e' => exact absurd q peek_noexc
theorem peeks_noexc {e e' : En} {c : Str} {x : PyData} : ∀ {rs : List Vl}, peeks rs e ≠ some (.exc c x e')
  | [], h => by cases h
  | r :: rs, h => by
    unfold peeks Mo.bnd at h
    cases q : DL.peek r e with
    | none => rw [q] at h; cases h
    | some z =>
      rw [q] at h
      cases z with
      | exc c x e' => exact peek_noexc q
      | ok d e1 =>
        simp only at h
        have e1e : e1 = e := by
          unfold DL.peek at q
          split at q
          · cases q; rfl
          · cases q; rfl
          · split at q <;> first | (cases q; rfl) | cases q
        subst e1e
        cases q2 : peeks rs e1 with
        | none => rw [q2] at h; cases h
        | some z =>
          rw [q2] at h
          cases z with
          | ok _ _ => cases h
          | exc _ _ _ => exact peeks_noexc q2
theorem Fin.peeks {K : PySem.W.Frag} {t : List Md} {val : Nat → V} {r : List Vl} {e : En} {C : List PyData → En → Prop} (h : Fin K B W t val (peeks r e) C) : ∃ d e', peeks r e = some (.ok d e') ∧ C d e' := by
  cases q : DL.peeks r e with
  | none => rw [q] at h; exact h.elim
  | some z =>
    cases z with
    | ok d e' => rw [q] at h; exact ⟨d, e', rfl, h⟩
    | exc c x e' => exact absurd q peeks_noexc
theorem freezes_noexc {c : Str} {x : PyData} : ∀ {rs : List Vl} {e e' : En}, freezes rs e ≠ some (.exc c x e')
  | [], _, _, h => by cases h
  | r :: rs, e, _, h => by
    unfold freezes Mo.bnd at h
    cases q : DL.freeze r e with
    | none => rw [q] at h; cases h
    | some z =>
      rw [q] at h
      cases z with
      | exc c x e' => exact freeze_noexc q
      | ok d e1 =>
        simp only at h
        cases q2 : freezes rs e1 with
        | none => rw [q2] at h; cases h
        | some z =>
          rw [q2] at h
          cases z with
          | ok _ _ => cases h
          | exc _ _ _ => exact freezes_noexc q2
theorem Fin.freezes {K : PySem.W.Frag} {t : List Md} {val : Nat → V} {r : List Vl} {e : En} {C : List PyData → En → Prop} (h : Fin K B W t val (freezes r e) C) : ∃ d e', freezes r e = some (.ok d e') ∧ C d e' := by
  cases q : DL.freezes r e with
  | none => rw [q] at h; exact h.elim
  | some z =>
    cases z with
    | ok d e' => rw [q] at h; exact ⟨d, e', rfl, h⟩
    | exc c x e' => exact absurd q freezes_noexc
theorem Fin.freeze {K : PySem.W.Frag} {t : List Md} {val : Nat → V} {r : Vl} {e : En} {C : PyData → En → Prop} (h : Fin K B W t val (freeze r e) C) : ∃ d e', freeze r e = some (.ok d e') ∧ C d e' := by
  cases q : DL.freeze r e with
  | none => rw [q] at h; exact h.elim
  | some z =>
    cases z with
    | ok d e' => rw [q] at h; exact ⟨d, e', rfl, h⟩
    | exc c x e' => exact absurd q freeze_noexc
/-- what was wished of a tD comes about, where one value lies -/
abbrev Got (K : PySem.W.Frag) (B : Bs) (σ : St) (t : List Md) (val : Nat → V) (Q : VK) (r : Vl) (e' : En) : Prop :=
  ∀ v H' t' val', Ag (e'.length + t.length) val val' → SM K B σ e' (t ++ t') val' H' → VlAt e'.length t.length (t ++ t') val' r v → Q v H'
/-- the next part's start -/
theorem Fin.next {α : Type} {K : PySem.W.Frag} {σ : St} {t t1 : List Md} {val val1 : Nat → V} {o : Option (Rs α)} {C : α → En → Prop} {e : En} {H : Hp} (h : Fin K B W t val o C) (ag : Ag (e.length + t.length) val val1) (s : SM K B σ e (t ++ t1) val1 H) : Fin K B W (t ++ t1) val1 o C :=
  h.ext (by rw [s.ln] at ag; exact ag.T)
theorem Got.back {K : PySem.W.Frag} {σ : St} {t t1 : List Md} {val val1 : Nat → V} {Q : VK} {r : Vl} {e e' : En} {H : Hp} (g : Got K B σ t val Q r e') (ag : Ag (e.length + t.length) val val1) (s : SM K B σ e (t ++ t1) val1 H) : Got K B σ (t ++ t1) val1 Q r e' := fun v H' t' val' ag' s' h' => by
  have el : e'.length = e.length := by rw [s.ln, s'.ln]
  refine g v H' (t1 ++ t') val' (Ag.trans (by simp) (by rw [el]; exact ag) ag') (by rw [← List.append_assoc]; exact s') ?_
  rw [← List.append_assoc]
  exact h'.low (by simp)
theorem pd_var {i : Nat} {x : Str} (h : PE X (.Name x pos) (tVar i)) : PE X (.Name x pos) (tD X.K B W (eVar i)) := by
  refine h.imp fun σ H Q ⟨e, t, val, s, h⟩ => ?_
  unfold eVar at h
  cases q : e[i]? with
  | none => rw [q] at h; exact h.elim
  | some m =>
    rw [q] at h
    have sl := s.sl i m q
    cases m with
    | un => exact h.elim
    | d x =>
      refine ⟨val i, sl (by intro z; cases z), ?_⟩
      have ok := s.at_e q
      have s' := s.pushD (x := x) (v := val i) ok
      exact h (val i) H [.d x] _ (fun j hj => setv_lt hj) s' ⟨t.length, Nat.le_refl _, by simp, setv_same⟩
    | own xs =>
      refine ⟨val i, sl (by intro z; cases z), ?_⟩
      exact h (val i) H [] val Ag.refl (by rw [List.append_nil]; exact s) ⟨(List.getElem?_eq_some_iff.mp q).1, rfl⟩
theorem Got.res {K : PySem.W.Frag} {σ : St} {t : List Md} {val : Nat → V} {Q : VK} {r : Vl} {e : En} {v : V} {H H' : Hp} (g : Got K B σ t val Q r e) (s : SM K B σ e t val H) (h : Res K (Gh B.Z (e ++ t) val H) H r v H') : Q v H' := by
  obtain ⟨m, s1, h1⟩ := s.res h
  exact g v H' [m] _ (fun j hj => setv_lt hj) s1 h1
theorem pd_c {v : V} {x : PyData} {e0 : Expr} (h : PE X e0 (tC v)) (hd : ∀ G : Hp, Dp X.K G v x) : PE X e0 (tD X.K B W (eC x)) := by
  refine h.imp fun σ H Q ⟨e, t, val, s, h⟩ => ?_
  exact Got.res h s (Res.same minus_sub (hd _))
theorem op_imp {r : R2} {f : PyData → PyData → Option Vl} (hd : OpD X.K r f) : ∀ σ H Q, tD X.K B W (eBin f fa fb) σ H Q → tOp r (tD X.K B W fa) (tD X.K B W fb) σ H Q := by
  rintro σ H Q ⟨e, t, val, s, h⟩
  refine ⟨e, t, val, s, (Fin.bnd h).imp fun r1 e1 _ h1 v1 H1 t1 val1 ag1 s1 at1 => ?_⟩
  refine ⟨e1, t ++ t1, val1, s1, (Fin.bnd (Fin.next h1 ag1 s1)).imp fun r2 e2 _ h2 v2 H2 t2 val2 ag2 s2 at2 => ?_⟩
  have el : e2.length = e1.length := by rw [s1.ln, s2.ln]
  have at1' := (at1.ext (t' := t2) (by rw [← el]; exact ag2)).weak
  rw [← el] at at1'
  obtain ⟨d1, e3, p1, h3⟩ := Fin.peek (Fin.bnd h2)
  obtain ⟨rfl, k1⟩ := peek_ok s2 at1' p1
  obtain ⟨d2, e4, p2, h4⟩ := Fin.peek (Fin.bnd h3)
  obtain ⟨rfl, k2⟩ := peek_ok s2 at2.weak p2
  obtain ⟨w, hw, h5⟩ := Fin.lift h4
  refine hd _ _ _ _ _ _ w Q minus_sub k1 k2 hw fun v H' res => ?_
  have g1 : Got X.K B σ (t ++ t1) val1 Q w e4 := Got.back (e := e1) h5 ag1 s1
  have g2 : Got X.K B σ (t ++ t1 ++ t2) val2 Q w e4 := Got.back (e := e4) g1 ag2 s2
  exact g2.res s2 res
theorem pd_op {r : R2} {f : PyData → PyData → Option Vl} {e0 : Expr} (h0 : PE X e0 (tOp r (tD X.K B W fa) (tD X.K B W fb))) (hd : OpD X.K r f) : PE X e0 (tD X.K B W (eBin f fa fb)) := h0.imp (op_imp hd)
theorem pd_un {r : V → Hp → VK → Prop} {f : PyData → Option Vl} {e0 : Expr} (h0 : PE X e0 (tUn r (tD X.K B W fa))) (hd : UnD X.K r f) : PE X e0 (tD X.K B W (eUn f fa)) := by
  refine h0.imp fun σ H Q ⟨e, t, val, s, h⟩ => ?_
  refine ⟨e, t, val, s, (Fin.bnd h).imp fun r1 e1 _ h1 v1 H1 t1 val1 ag1 s1 at1 => ?_⟩
  obtain ⟨d1, e3, p1, h3⟩ := Fin.peek (Fin.bnd h1)
  obtain ⟨rfl, k1⟩ := peek_ok s1 at1.weak p1
  obtain ⟨w, hw, h5⟩ := Fin.lift h3
  refine hd _ _ _ _ w Q minus_sub k1 hw fun v H' res => ?_
  exact (Got.back (e := e3) h5 ag1 s1).res s1 res
theorem pda_nil : PA X [] (tA X.K B W aNil) := pa_nil.imp fun σ H Q ⟨e, t, val, s, h⟩ => h [] H [] val Ag.refl (by rw [List.append_nil]; exact s) rfl
theorem cons_imp {K : PySem.W.Frag} {fr : Mo (List Vl)} : ∀ σ H Q, tA K B W (aCons fa fr) σ H Q → tCons (tD K B W fa) (tA K B W fr) σ H Q := by
  rintro σ H Q ⟨e, t, val, s, h⟩
  refine ⟨e, t, val, s, (Fin.bnd h).imp fun r1 e1 _ h1 v1 H1 t1 val1 ag1 s1 at1 => ?_⟩
  refine ⟨e1, t ++ t1, val1, s1, (Fin.bnd (Fin.next h1 ag1 s1)).imp fun r2 e2 _ h2 v2 H2 t2 val2 ag2 s2 at2 => ?_⟩
  have el : e2.length = e1.length := by rw [s1.ln, s2.ln]
  refine h2 (v1 :: v2) H2 (t1 ++ t2) val2 (Ag.trans (m := e2.length + (t ++ t1).length) (by simp) (by rw [el]; exact ag1) ag2) (by rw [← List.append_assoc]; exact s2) ⟨v1, v2, (t ++ t1).length, rfl, by simp, by simp, ?_, ?_⟩
  · rw [← List.append_assoc, List.take_left']
    · have q := at1.ext (t' := []) (val' := val2) (by rw [← el]; exact ag2)
      rw [← el] at q
      simpa using q
    · rfl
  · rw [← List.append_assoc]; exact at2
theorem pda_cons {es : List Expr} {fr : Mo (List Vl)} (ha : PE X a (tD X.K B W fa)) (hr : PA X es (tA X.K B W fr)) (hs : starEach (a :: es) X.env = (false, eval a X.env) :: starEach es X.env := by rfl) : PA X (a :: es) (tA X.K B W (aCons fa fr)) := (pa_cons ha hr hs).imp cons_imp
theorem pd_call {r : List V → Hp → VK → Prop} {f : List PyData → Option Vl} {fa : Mo (List Vl)} {e0 : Expr} (h0 : PE X e0 (tCB r (tA X.K B W fa))) (hd : CallD X.K r f) : PE X e0 (tD X.K B W (eCall f fa)) := by
  refine h0.imp fun σ H Q ⟨e, t, val, s, h⟩ => ?_
  refine ⟨e, t, val, s, (Fin.bnd h).imp fun r1 e1 _ h1 v1 H1 t1 val1 ag1 s1 at1 => ?_⟩
  obtain ⟨d1, e3, p1, h3⟩ := Fin.peeks (Fin.bnd h1)
  obtain ⟨rfl, k1⟩ := peeks_ok s1 at1.weak p1
  obtain ⟨w, hw, h5⟩ := Fin.lift h3
  refine hd _ _ _ _ w Q minus_sub k1 hw fun v H' res => ?_
  exact (Got.back (e := e3) h5 ag1 s1).res s1 res
theorem ite_some {c : Prop} [Decidable c] {α : Type} {x w : α} (h : (if c then some x else none) = some w) : c ∧ x = w := by
  by_cases q : c
  · rw [if_pos q] at h; cases h; exact ⟨q, rfl⟩
  · rw [if_neg q] at h; cases h
theorem pd_tup {es : List Expr} {x1} {fa : Mo (List Vl)} (ha : PA X es (tA X.K B W fa)) : PE X (.Tuple es x1 pos) (tD X.K B W (eTup fa)) := by
  refine (pe_tup ha).imp fun σ H Q ⟨e, t, val, s, h⟩ => ?_
  refine ⟨e, t, val, s, (Fin.bnd h).imp fun r1 e1 _ h1 v1 H1 t1 val1 ag1 s1 at1 => ?_⟩
  obtain ⟨ds, e3, p1, h3⟩ := Fin.freezes (Fin.bnd h1)
  obtain ⟨t1', l1, l2, s3, _, k1⟩ := freezes_ok s1 at1.weak p1
  obtain ⟨w, hw, h5⟩ := Fin.lift h3
  obtain ⟨hz, rfl⟩ := ite_some hw
  refine ⟨by rw [k1.length, sizeLine_eq]; exact hz, fun p hp => ?_⟩
  exact (Got.back (e := e3) h5 (by rw [l2]; exact ag1) s3).res s3 (Res.tup minus_sub hp k1)
theorem pd_lst {es : List Expr} {fa : Mo (List Vl)} (ha : PA X es (tA X.K B W fa)) : PE X (.List es pos) (tD X.K B W (eLst fa)) := by
  refine (pe_lst ha).imp fun σ H Q ⟨e, t, val, s, h⟩ => ?_
  refine ⟨e, t, val, s, (Fin.bnd h).imp fun r1 e1 _ h1 v1 H1 t1 val1 ag1 s1 at1 => ?_⟩
  obtain ⟨ds, e3, p1, h3⟩ := Fin.freezes (Fin.bnd h1)
  obtain ⟨t1', l1, l2, s3, _, k1⟩ := freezes_ok s1 at1.weak p1
  obtain ⟨w, hw, h5⟩ := Fin.lift h3
  obtain ⟨hz, rfl⟩ := ite_some hw
  refine ⟨by rw [k1.length, sizeLine_eq]; exact hz, fun p hp => ?_⟩
  exact (Got.back (e := e3) h5 (by rw [l2]; exact ag1) s3).res s3 (Res.lst minus_sub hp k1)
end
end L2.DL

namespace L2.DL
open PySem PySem.Spec PyProof.Rows
def asBool : PyData → Option Bool
  | .bool b => some b
  | _ => none
def cV (f : Mo Vl) : Mo Bool := Mo.bnd f fun r => Mo.bnd (peek r) fun d => Mo.lift (asBool d)
def cAnd (a b : Mo Bool) : Mo Bool := Mo.bnd a fun c => if c = true then b else Mo.ret false
def cOr (a b : Mo Bool) : Mo Bool := Mo.bnd a fun c => if c = true then Mo.ret true else b
def cNot (a : Mo Bool) : Mo Bool := Mo.bnd a fun c => Mo.ret (!c)
def eIf (c : Mo Bool) (a b : Mo Vl) : Mo Vl := Mo.bnd c fun k => if k = true then a else b
def eAnd (a b : Mo Vl) : Mo Vl := Mo.bnd a fun r => Mo.bnd (peek r) fun d => Mo.bnd (Mo.lift (asBool d)) fun k => if k = true then b else Mo.ret (.d (.bool false))
def eOr (a b : Mo Vl) : Mo Vl := Mo.bnd a fun r => Mo.bnd (peek r) fun d => Mo.bnd (Mo.lift (asBool d)) fun k => if k = true then Mo.ret (.d (.bool true)) else b
def notF : PyData → Option Vl
  | .bool b => some (.d (.bool !b))
  | _ => none
def eChain (f f' : PyData → PyData → Option Vl) (a b c : Mo Vl) : Mo Vl := Mo.bnd a fun x => Mo.bnd b fun y => Mo.bnd (peek x) fun dx => Mo.bnd (peek y) fun dy =>
  Mo.bnd (Mo.lift ((f dx dy).bind fun w => match w with
    | .d z => asBool z
    | _ => none)) fun k => if k = true then Mo.bnd c fun z => Mo.bnd (peek y) fun dy => Mo.bnd (peek z) fun dz => Mo.lift (f' dy dz) else Mo.ret (.d (.bool false))
theorem asBool_some {d : PyData} {b : Bool} (h : asBool d = some b) : d = .bool b := by
  cases d <;> simp [asBool] at h
  subst h; rfl
section
variable {X : Cx} {B : Bs} {W : XW} {a b c : Expr} {pos : Pos} {fa fb fc : Mo Vl} {ca cb : Mo Bool} {K : PySem.W.Frag}
theorem Got.scal {σ : St} {t : List Md} {val : Nat → V} {Q : VK} {e : En} {v : V} {z : PyData} {H : Hp} (g : Got K B σ t val Q (.d z) e) (s : SM K B σ e t val H) (h : ∀ G : Hp, Dp K G v z) : Q v H :=
  g.res s (Res.same minus_sub (h _))
theorem dpBool {G : Hp} {k : Bool} : Dp K G (.bl k) (.bool k) := .bl k
theorem test_imp {te : TE} (h : ∀ σ H Q, tD K B W fa σ H Q → te σ H Q) : ∀ σ H Q, tT K B W (cV fa) σ H Q → te σ H fun x H' => ∃ k, x = .bl k ∧ Q k H' := by
  rintro σ H Q ⟨e, t, val, s, hq⟩
  refine h σ H _ ⟨e, t, val, s, (Fin.bnd hq).imp fun r1 e1 _ h1 v1 H1 t1 val1 ag1 s1 at1 => ?_⟩
  obtain ⟨d1, e3, p1, h3⟩ := Fin.peek (Fin.bnd h1)
  obtain ⟨rfl, k1⟩ := peek_ok s1 at1.weak p1
  obtain ⟨k, hk, h5⟩ := Fin.lift h3
  have := asBool_some hk
  subst this
  exact ⟨k, k1.bl, h5 H1 t1 val1 ag1 s1⟩
theorem pdt_val {e0 : Expr} {te : TE} (hp : PT X e0 (fun σ H Q => te σ H fun x H' => ∃ k, x = .bl k ∧ Q k H')) (h : ∀ σ H Q, tD X.K B W fa σ H Q → te σ H Q) : PT X e0 (tT X.K B W (cV fa)) := hp.imp (test_imp h)
theorem and_imp : ∀ σ H Q, tT K B W (cAnd ca cb) σ H Q → tAnd (tT K B W ca) (tT K B W cb) σ H Q := by
  rintro σ H Q ⟨e, t, val, s, h⟩
  refine ⟨e, t, val, s, (Fin.bnd h).imp fun k e1 _ h1 H1 t1 val1 ag1 s1 => ?_⟩
  cases k with
  | true =>
    rw [if_pos rfl]
    refine ⟨e1, t ++ t1, val1, s1, (Fin.next h1 ag1 s1).imp fun k2 e2 _ h2 H2 t2 val2 ag2 s2 => ?_⟩
    have el : e2.length = e1.length := by rw [s1.ln, s2.ln]
    exact h2 H2 (t1 ++ t2) val2 (Ag.trans (by simp) (by rw [el]; exact ag1) ag2) (by rw [← List.append_assoc]; exact s2)
  | false =>
    rw [if_neg Bool.false_ne_true]
    exact h1 H1 t1 val1 ag1 s1
theorem or_imp : ∀ σ H Q, tT K B W (cOr ca cb) σ H Q → tOr (tT K B W ca) (tT K B W cb) σ H Q := by
  rintro σ H Q ⟨e, t, val, s, h⟩
  refine ⟨e, t, val, s, (Fin.bnd h).imp fun k e1 _ h1 H1 t1 val1 ag1 s1 => ?_⟩
  cases k with
  | false =>
    rw [if_neg Bool.false_ne_true]
    refine ⟨e1, t ++ t1, val1, s1, (Fin.next h1 ag1 s1).imp fun k2 e2 _ h2 H2 t2 val2 ag2 s2 => ?_⟩
    have el : e2.length = e1.length := by rw [s1.ln, s2.ln]
    exact h2 H2 (t1 ++ t2) val2 (Ag.trans (by simp) (by rw [el]; exact ag1) ag2) (by rw [← List.append_assoc]; exact s2)
  | true =>
    rw [if_pos rfl]
    exact h1 H1 t1 val1 ag1 s1
theorem not_imp : ∀ σ H Q, tT K B W (cNot ca) σ H Q → tNot (tT K B W ca) σ H Q := by
  rintro σ H Q ⟨e, t, val, s, h⟩
  exact ⟨e, t, val, s, (Fin.bnd h).imp fun k e1 _ h1 H1 t1 val1 ag1 s1 => h1 H1 t1 val1 ag1 s1⟩
theorem pdt_not (ha : PT X a (tT X.K B W ca)) : PT X (.UnaryOp .Not a pos) (tT X.K B W (cNot ca)) := (pt_not ha).imp not_imp
theorem pdw_and1 (ha : PT X a (tT X.K B W ca)) : PW X (.BoolOp .And [a] pos) (tT X.K B W ca) := pw_and1 ha
theorem pdw_or1 (ha : PT X a (tT X.K B W ca)) : PW X (.BoolOp .Or [a] pos) (tT X.K B W ca) := pw_or1 ha
theorem pdw_and {r : List Expr} (ha : PT X a (tT X.K B W ca)) (hb : PW X (.BoolOp .And (b :: r) pos) (tT X.K B W cb)) : PW X (.BoolOp .And (a :: b :: r) pos) (tT X.K B W (cAnd ca cb)) := (pw_and ha hb).imp and_imp
theorem pdw_or {r : List Expr} (ha : PT X a (tT X.K B W ca)) (hb : PW X (.BoolOp .Or (b :: r) pos) (tT X.K B W cb)) : PW X (.BoolOp .Or (a :: b :: r) pos) (tT X.K B W (cOr ca cb)) := (pw_or ha hb).imp or_imp
theorem pd_ifExp (hc : PT X c (tT X.K B W ca)) (ha : PE X a (tD X.K B W fa)) (hb : PE X b (tD X.K B W fb)) : PE X (.IfExp c a b pos) (tD X.K B W (eIf ca fa fb)) := by
  refine (pe_ifExp hc ha hb).imp fun σ H Q ⟨e, t, val, s, h⟩ => ?_
  refine ⟨e, t, val, s, (Fin.bnd h).imp fun k e1 _ h1 H1 t1 val1 ag1 s1 => ?_⟩
  cases k with
  | true =>
    rw [if_pos rfl]
    exact ⟨e1, t ++ t1, val1, s1, (Fin.next h1 ag1 s1).imp fun r e2 _ h2 => Got.back h2 ag1 s1⟩
  | false =>
    rw [if_neg Bool.false_ne_true]
    exact ⟨e1, t ++ t1, val1, s1, (Fin.next h1 ag1 s1).imp fun r e2 _ h2 => Got.back h2 ag1 s1⟩
theorem pd_and {r : List Expr} (ha : PE X a (tD X.K B W fa)) (hb : PE X (.BoolOp .And (b :: r) pos) (tD X.K B W fb)) : PE X (.BoolOp .And (a :: b :: r) pos) (tD X.K B W (eAnd fa fb)) := by
  refine (pe_and ha hb).imp fun σ H Q ⟨e, t, val, s, h⟩ => ?_
  refine ⟨e, t, val, s, (Fin.bnd h).imp fun r1 e1 _ h1 v1 H1 t1 val1 ag1 s1 at1 => ?_⟩
  obtain ⟨d1, e3, p1, h3⟩ := Fin.peek (Fin.bnd h1)
  obtain ⟨rfl, k1⟩ := peek_ok s1 at1.weak p1
  obtain ⟨k, hk, h5⟩ := Fin.lift (Fin.bnd h3)
  have := asBool_some hk
  subst this
  refine ⟨k, k1.bl, ?_⟩
  cases k with
  | true =>
    rw [if_pos rfl]
    exact ⟨e3, t ++ t1, val1, s1, (Fin.next h5 ag1 s1).imp fun r e2 _ h2 => Got.back h2 ag1 s1⟩
  | false =>
    rw [if_neg Bool.false_ne_true]
    exact Got.scal (z := .bool false) (Got.back (e := e3) h5 ag1 s1) s1 fun _ => .bl false
theorem pd_or {r : List Expr} (ha : PE X a (tD X.K B W fa)) (hb : PE X (.BoolOp .Or (b :: r) pos) (tD X.K B W fb)) : PE X (.BoolOp .Or (a :: b :: r) pos) (tD X.K B W (eOr fa fb)) := by
  refine (pe_or ha hb).imp fun σ H Q ⟨e, t, val, s, h⟩ => ?_
  refine ⟨e, t, val, s, (Fin.bnd h).imp fun r1 e1 _ h1 v1 H1 t1 val1 ag1 s1 at1 => ?_⟩
  obtain ⟨d1, e3, p1, h3⟩ := Fin.peek (Fin.bnd h1)
  obtain ⟨rfl, k1⟩ := peek_ok s1 at1.weak p1
  obtain ⟨k, hk, h5⟩ := Fin.lift (Fin.bnd h3)
  have := asBool_some hk
  subst this
  refine ⟨k, k1.bl, ?_⟩
  cases k with
  | false =>
    rw [if_neg Bool.false_ne_true]
    exact ⟨e3, t ++ t1, val1, s1, (Fin.next h5 ag1 s1).imp fun r e2 _ h2 => Got.back h2 ag1 s1⟩
  | true =>
    rw [if_pos rfl]
    exact Got.scal (z := .bool true) (Got.back (e := e3) h5 ag1 s1) s1 fun _ => .bl true
theorem pd_one {op : BoolOp} (h : PE X a (tD X.K B W fa)) : PE X (.BoolOp op [a] pos) (tD X.K B W fa) := pe_one h
theorem unD_not : UnD K (fun x H Q => ∃ c, x = .bl c ∧ Q (.bl (!c)) H) notF := by
  intro G H x dx w Q sg h hf q
  cases dx <;> simp [notF] at hf
  subst hf
  exact ⟨_, h.bl, q _ _ (Res.same sg (.bl _))⟩
theorem pd_not (ha : PE X a (tD X.K B W fa)) : PE X (.UnaryOp .Not a pos) (tD X.K B W (eUn notF fa)) := pd_un (r := fun x H Q => ∃ c, x = .bl c ∧ Q (.bl (!c)) H) (pe_not ha) unD_not
theorem chain_imp {r r' : R2} {f f' : PyData → PyData → Option Vl} (hd : OpD K r f) (hd' : OpD K r' f') : ∀ σ H Q, tD K B W (eChain f f' fa fb fc) σ H Q → tChain r r' (tD K B W fa) (tD K B W fb) (tD K B W fc) σ H Q := by
  rintro σ H Q ⟨e, t, val, s, h⟩
  refine ⟨e, t, val, s, (Fin.bnd h).imp fun r1 e1 _ h1 v1 H1 t1 val1 ag1 s1 at1 => ?_⟩
  refine ⟨e1, t ++ t1, val1, s1, (Fin.bnd (Fin.next h1 ag1 s1)).imp fun r2 e2 _ h2 v2 H2 t2 val2 ag2 s2 at2 => ?_⟩
  have el : e2.length = e1.length := by rw [s1.ln, s2.ln]
  have at1' := (at1.ext (t' := t2) (by rw [← el]; exact ag2)).weak
  rw [← el] at at1'
  obtain ⟨d1, e3, p1, h3⟩ := Fin.peek (Fin.bnd h2)
  obtain ⟨rfl, k1⟩ := peek_ok s2 at1' p1
  obtain ⟨d2, e4, p2, h4⟩ := Fin.peek (Fin.bnd h3)
  obtain ⟨rfl, k2⟩ := peek_ok s2 at2.weak p2
  obtain ⟨k, hw, h5⟩ := Fin.lift (Fin.bnd h4)
  obtain ⟨w, hw1, hw2⟩ := Option.bind_eq_some_iff.mp hw
  cases w with
  | fr _ => cases hw2
  | pk _ => cases hw2
  | d z =>
    have := asBool_some hw2
    subst this
    refine hd _ _ _ _ _ _ _ _ minus_sub k1 k2 hw1 fun v H' res => ?_
    obtain ⟨m, s3, at3⟩ := s2.res res
    have q3 := (peek_ok s3 at3.weak (d := .bool k) (e' := e4) rfl).2.bl
    refine ⟨k, q3, ?_⟩
    have ag3 : Ag (e4.length + (t ++ t1 ++ t2).length) val2 (setv val2 (e4.length + (t ++ t1 ++ t2).length) v) := fun i hi => setv_lt hi
    have g2 : ∀ {rr ee}, Got K B σ t val Q rr ee → Got K B σ (t ++ t1 ++ t2 ++ [m]) (setv val2 (e4.length + (t ++ t1 ++ t2).length) v) Q rr ee := fun {rr ee} g =>
      Got.back (e := e4) (Got.back (e := e4) (Got.back (e := e1) g ag1 s1) ag2 s2) ag3 s3
    have n2 : ∀ {α : Type} {o : Option (Rs α)} {C}, Fin K B W (t ++ t1) val1 o C → Fin K B W (t ++ t1 ++ t2 ++ [m]) (setv val2 (e4.length + (t ++ t1 ++ t2).length) v) o C := fun h =>
      Fin.next (e := e4) (Fin.next (e := e4) h ag2 s2) ag3 s3
    cases k with
    | false =>
      rw [if_neg Bool.false_ne_true]
      exact Got.scal (z := .bool false) (g2 h5) s3 fun _ => .bl false
    | true =>
      rw [if_pos rfl]
      refine ⟨e4, _, _, s3, (Fin.bnd (n2 h5)).imp fun r5 e5 _ h6 v5 H5 t5 val5 ag5 s5 at5 => ?_⟩
      have el5 : e5.length = e4.length := by rw [s5.ln, s3.ln]
      have at2'' := ((at2.ext (t' := [m]) ag3).ext (t' := t5) (by have z := ag5; rw [el5] at z; exact z)).weak
      rw [← el5] at at2''
      obtain ⟨d5, e6, p5, h7⟩ := Fin.peek (Fin.bnd h6)
      obtain ⟨rfl, k5⟩ := peek_ok s5 at2'' p5
      obtain ⟨d6, e7, p6, h8⟩ := Fin.peek (Fin.bnd h7)
      obtain ⟨rfl, k6⟩ := peek_ok s5 at5.weak p6
      obtain ⟨w, hw, h9⟩ := Fin.lift h8
      refine hd' _ _ _ _ _ _ _ _ minus_sub k5 k6 hw fun v H' res => ?_
      exact Got.res (Got.back (e := e7) (g2 h9) ag5 s5) s5 res
end
end L2.DL

namespace L2.DL
open PySem PySem.Spec PyProof.Rows
/-! ### a state made out of another one -/
section
variable {K : PySem.W.Frag} {Z : Addr → Prop} {L L' : List Md} {val val' : Nat → V} {H H' : Hp}
theorem Sm.re (s : Sm K Z L val H) (f : Nat → Nat) (h1 : ∀ p xs, L'[p]? = some (.own xs) → L[f p]? = some (.own xs) ∧ val' p = val (f p))
    (h2 : ∀ p q xs ys, L'[p]? = some (.own xs) → L'[q]? = some (.own ys) → f p = f q → p = q) (h3 : ∀ p x, L'[p]? = some (.d x) → Dp K (Gh Z L val H) (val' p) x) :
    Sm K Z L' val' H ∧ (∀ a, Own L' val' a → Own L val a) ∧ Same (Gh Z L val H) (Gh Z L' val' H) := by
  have sub : ∀ a, Own L' val' a → Own L val a := by
    rintro a ⟨p, xs, e, ev⟩
    obtain ⟨g1, g2⟩ := h1 p xs e
    exact ⟨f p, xs, g1, by rw [← g2]; exact ev⟩
  have sg : Same (Gh Z L val H) (Gh Z L' val' H) := minus_mono fun a o q1 q2 => ⟨fun z => q1 (z.imp (sub a) id), q2⟩
  refine ⟨⟨fun i j xs ys e1 e2 e => ?_, fun i m e => ?_, s.zok, fun a h => s.dis a (sub a h)⟩, sub, sg⟩
  · obtain ⟨g1, g2⟩ := h1 i xs e1
    obtain ⟨g3, g4⟩ := h1 j ys e2
    exact h2 i j xs ys e1 e2 (s.inj _ _ _ _ g1 g3 (by rw [← g2, ← g4]; exact e))
  · cases m with
    | un => trivial
    | d x => exact Dp.mono sg _ _ (h3 i x e)
    | own xs =>
      obtain ⟨g1, g2⟩ := h1 i xs e
      rw [g2]
      exact (s.ok _ _ g1).mono sg (fun _ _ _ h => h)
end
section
variable {K : PySem.W.Frag} {B : Bs} {W : XW} {σ : St} {e e' : En} {t t1 : List Md} {val : Nat → V} {H H' : Hp}
/-! ### stores to names -/
inductive Fl where
  | nx
  | bk
  | ct
  | rt (w : Vl)
def store (i : Nat) (r : Vl) : Mo Fl := fun e => match r with
  | .d x => some (.ok .nx (e.set i (.d x)))
  | .fr xs => some (.ok .nx (e.set i (.own xs)))
  | .pk j => match e[j]? with
    | some (.own xs) => some (.ok .nx ((e.set j .un).set i (.own xs)))
    | some (.d x) => some (.ok .nx (e.set i (.d x)))
    | _ => none
theorem getElem?_set_cases {α : Type} {l : List α} {i j : Nat} {x y : α} (h : (l.set i x)[j]? = some y) : (i = j ∧ x = y ∧ i < l.length) ∨ (i ≠ j ∧ l[j]? = some y) := by
  by_cases hij : i = j
  · subst hij
    have hl := (List.getElem?_eq_some_iff.mp h).1
    rw [List.length_set] at hl
    rw [List.getElem?_set] at h
    simp [hl] at h
    exact .inl ⟨rfl, h, hl⟩
  · rw [List.getElem?_set_ne hij] at h
    exact .inr ⟨hij, h⟩
theorem append_cases {α : Type} {l l' : List α} {p : Nat} {m : α} (h : (l ++ l')[p]? = some m) : (p < l.length ∧ l[p]? = some m) ∨ (l.length ≤ p ∧ l'[p - l.length]? = some m) := by
  by_cases hp : p < l.length
  · rw [List.getElem?_append_left hp] at h; exact .inl ⟨hp, h⟩
  · rw [List.getElem?_append_right (by omega)] at h; exact .inr ⟨by omega, h⟩
theorem sv_set {σ : St} {val : Nat → V} {i : Nat} {w : V} (h : ∀ j v, σ[j]? = some (some v) → val j = v) : ∀ j v, (σ.set i (some w))[j]? = some (some v) → setv val i w j = v := fun j v q => by
  rcases getElem?_set_cases q with ⟨rfl, q, _⟩ | ⟨hne, q⟩
  · cases q; exact setv_same
  · rw [setv_ne (Ne.symm hne)]; exact h j v q
/-- slot i gets v, of mode m: data, or owned from the place q (a temp or a name), which is un then -/
theorem SM.putD (s : SM K B σ e t val H) {i : Nat} {v : V} {x : PyData} (hi : i < B.n) (hm : i ∉ B.mp) (h : Dp K (Gh B.Z (e ++ t) val H) v x) : SM K B (σ.set i (some v)) (e.set i (.d x)) t (setv val i v) H := by
  have hl := s.ln
  obtain ⟨q1, q2, q3⟩ := s.sm.re (L' := e.set i (.d x) ++ t) (val' := setv val i v) id (fun p xs hp => by
      rcases append_cases hp with ⟨hlt, hp⟩ | ⟨hge, hp⟩
      · rcases getElem?_set_cases hp with ⟨_, hp, _⟩ | ⟨hne, hp⟩
        · cases hp
        · exact ⟨by rw [id, List.getElem?_append_left (by simpa using hlt)]; exact hp, setv_ne (Ne.symm hne)⟩
      · rw [List.length_set] at hge hp
        exact ⟨by rw [id, List.getElem?_append_right hge]; exact hp, setv_ne (by omega)⟩) (fun _ _ _ _ _ _ h => h) (fun p y hp => by
      rcases append_cases hp with ⟨hlt, hp⟩ | ⟨hge, hp⟩
      · rcases getElem?_set_cases hp with ⟨rfl, hp, _⟩ | ⟨hne, hp⟩
        · cases hp; rw [setv_same]; exact h
        · rw [setv_ne (Ne.symm hne)]; exact s.at_e hp
      · rw [List.length_set] at hge hp
        rw [setv_ne (by omega)]
        have := s.at_t hp
        rw [Nat.add_sub_cancel' hge] at this
        exact this)
  refine ⟨q1, by rw [List.length_set]; exact s.len, by rw [List.length_set]; exact s.ln, fun k m hk hm' => ?_, s.fr, fun a z => s.nw a (q2 a z), fun k hk => ?_, fun k hk => by rw [List.length_set]; exact s.mpl k hk, sv_set s.sv⟩
  · rcases getElem?_set_cases hk with ⟨rfl, _, hlt⟩ | ⟨hne, hk⟩
    · rw [setv_same, List.getElem?_set]; simp [s.len, hi]
    · rw [setv_ne (Ne.symm hne), List.getElem?_set_ne hne]; exact s.sl k m hk hm'
  · rw [setv_ne (fun z => hm (by rw [← z]; exact hk))]; exact s.mp k hk
/-- from a temp -/
theorem SM.putT (s : SM K B σ e t val H) {i k : Nat} {v : V} {xs : List PyData} (hi : i < B.n) (hm : i ∉ B.mp) (h : t[k]? = some (.own xs)) (hv : val (B.n + k) = v) : SM K B (σ.set i (some v)) (e.set i (.own xs)) (t.set k .un) (setv val i v) H := by
  have hl := s.ln
  have hk := (List.getElem?_eq_some_iff.mp h).1
  have own : ∀ p ys, (e.set i (.own xs) ++ t.set k .un)[p]? = some (.own ys) → (p = i ∧ ys = xs) ∨ (p ≠ i ∧ p ≠ B.n + k ∧ (e ++ t)[p]? = some (.own ys)) := fun p ys hp => by
    rcases append_cases hp with ⟨hlt, hp⟩ | ⟨hge, hp⟩
    · rw [List.length_set] at hlt
      rcases getElem?_set_cases hp with ⟨rfl, hp, _⟩ | ⟨hne, hp⟩
      · cases hp; exact .inl ⟨rfl, rfl⟩
      · exact .inr ⟨Ne.symm hne, by omega, by rw [List.getElem?_append_left (by simpa using hlt)]; exact hp⟩
    · rw [List.length_set] at hge hp
      rcases getElem?_set_cases hp with ⟨_, hp, _⟩ | ⟨hne, hp⟩
      · cases hp
      · exact .inr ⟨by omega, by omega, by rw [List.getElem?_append_right hge]; exact hp⟩
  obtain ⟨q1, q2, q3⟩ := s.sm.re (L' := e.set i (.own xs) ++ t.set k .un) (val' := setv val i v) (fun p => if p = i then B.n + k else p) (fun p ys hp => by
      rcases own p ys hp with ⟨rfl, rfl⟩ | ⟨h1, _, h2⟩
      · rw [if_pos rfl, setv_same]
        exact ⟨by rw [List.getElem?_append_right (by omega), ← hl, Nat.add_sub_cancel_left]; exact h, hv.symm⟩
      · rw [if_neg h1, setv_ne h1]
        exact ⟨h2, rfl⟩) (fun p q xs ys hp hq e1 => by
      rcases own p _ hp with ⟨hp1, _⟩ | ⟨h1, h1', _⟩ <;> rcases own q _ hq with ⟨hq1, _⟩ | ⟨h2, h2', _⟩
      · omega
      · simp [hp1, h2] at e1; omega
      · simp [hq1, h1] at e1; omega
      · simp [h1, h2] at e1; exact e1) (fun p y hp => by
      rcases append_cases hp with ⟨hlt, hp⟩ | ⟨hge, hp⟩
      · rcases getElem?_set_cases hp with ⟨rfl, hp, _⟩ | ⟨hne, hp⟩
        · cases hp
        · rw [setv_ne (Ne.symm hne)]; exact s.at_e hp
      · rw [List.length_set] at hge hp
        rw [setv_ne (by omega)]
        rcases getElem?_set_cases hp with ⟨_, hp, _⟩ | ⟨hne, hp⟩
        · cases hp
        have := s.at_t hp
        rw [Nat.add_sub_cancel' hge] at this
        exact this)
  refine ⟨q1, by rw [List.length_set]; exact s.len, by rw [List.length_set]; exact s.ln, fun k m hk hm' => ?_, s.fr, fun a z => s.nw a (q2 a z), fun k hk => ?_, fun k hk => by rw [List.length_set]; exact s.mpl k hk, sv_set s.sv⟩
  · rcases getElem?_set_cases hk with ⟨rfl, _, hlt⟩ | ⟨hne, hk⟩
    · rw [setv_same, List.getElem?_set]; simp [s.len, hi]
    · rw [setv_ne (Ne.symm hne), List.getElem?_set_ne hne]; exact s.sl k m hk hm'
  · rw [setv_ne (fun z => hm (by rw [← z]; exact hk))]; exact s.mp k hk
/-- from a name -/
theorem SM.putE (s : SM K B σ e t val H) {i j : Nat} {xs : List PyData} (hi : i < B.n) (hm : i ∉ B.mp) (h : e[j]? = some (.own xs)) : SM K B (σ.set i (some (val j))) ((e.set j .un).set i (.own xs)) t (setv val i (val j)) H := by
  have hl := s.ln
  have hj := (List.getElem?_eq_some_iff.mp h).1
  have own : ∀ p ys, ((e.set j .un).set i (.own xs) ++ t)[p]? = some (.own ys) → (p = i ∧ ys = xs) ∨ (p ≠ i ∧ p ≠ j ∧ (e ++ t)[p]? = some (.own ys)) := fun p ys hp => by
    rcases append_cases hp with ⟨hlt, hp⟩ | ⟨hge, hp⟩
    · rw [List.length_set, List.length_set] at hlt
      rcases getElem?_set_cases hp with ⟨rfl, hp, _⟩ | ⟨hne, hp⟩
      · cases hp; exact .inl ⟨rfl, rfl⟩
      · rcases getElem?_set_cases hp with ⟨_, hp, _⟩ | ⟨hne', hp⟩
        · cases hp
        · exact .inr ⟨Ne.symm hne, Ne.symm hne', by rw [List.getElem?_append_left (by simpa using hlt)]; exact hp⟩
    · rw [List.length_set, List.length_set] at hge hp
      exact .inr ⟨by omega, by omega, by rw [List.getElem?_append_right hge]; exact hp⟩
  obtain ⟨q1, q2, q3⟩ := s.sm.re (L' := (e.set j .un).set i (.own xs) ++ t) (val' := setv val i (val j)) (fun p => if p = i then j else p) (fun p ys hp => by
      rcases own p ys hp with ⟨rfl, rfl⟩ | ⟨h1, _, h2⟩
      · rw [if_pos rfl, setv_same]
        exact ⟨by rw [List.getElem?_append_left hj]; exact h, rfl⟩
      · rw [if_neg h1, setv_ne h1]
        exact ⟨h2, rfl⟩) (fun p q xs ys hp hq e1 => by
      rcases own p _ hp with ⟨hp1, _⟩ | ⟨h1, h1', _⟩ <;> rcases own q _ hq with ⟨hq1, _⟩ | ⟨h2, h2', _⟩
      · omega
      · simp [hp1, h2] at e1; omega
      · simp [hq1, h1] at e1; omega
      · simp [h1, h2] at e1; exact e1) (fun p y hp => by
      rcases append_cases hp with ⟨hlt, hp⟩ | ⟨hge, hp⟩
      · rcases getElem?_set_cases hp with ⟨rfl, hp, _⟩ | ⟨hne, hp⟩
        · cases hp
        · rw [setv_ne (Ne.symm hne)]
          rcases getElem?_set_cases hp with ⟨_, hp, _⟩ | ⟨hne', hp⟩
          · cases hp
          · exact s.at_e hp
      · rw [List.length_set, List.length_set] at hge hp
        rw [setv_ne (by omega)]
        have := s.at_t hp
        rw [Nat.add_sub_cancel' hge] at this
        exact this)
  refine ⟨q1, by rw [List.length_set]; exact s.len, by rw [List.length_set, List.length_set]; exact s.ln, fun k m hk hm' => ?_, s.fr, fun a z => s.nw a (q2 a z), fun k hk => ?_, fun k hk => by rw [List.length_set, List.length_set]; exact s.mpl k hk, sv_set s.sv⟩
  · rcases getElem?_set_cases hk with ⟨rfl, _, hlt⟩ | ⟨hne, hk⟩
    · rw [List.length_set] at hlt
      rw [setv_same, List.getElem?_set]; simp [s.len, hi]
    · rw [setv_ne (Ne.symm hne), List.getElem?_set_ne hne]
      rcases getElem?_set_cases hk with ⟨_, hk, _⟩ | ⟨hne', hk⟩
      · subst hk; exact absurd rfl hm'
      · exact s.sl k m hk hm'
  · rw [setv_ne (fun z => hm (by rw [← z]; exact hk))]; exact s.mp k hk
/-- a value into a slot; the temps from c on and names but those that are touched stay -/
theorem store_ok {i b c : Nat} {r : Vl} {v : V} {fl : Fl} (s : SM K B σ e t val H) (hi : i < B.n) (hm : i ∉ B.mp) (at1 : VlAt B.n b (t.take c) val r v) (hc : c ≤ t.length) (p : store i r e = some (.ok fl e')) :
    fl = .nx ∧ ∃ t', t'.length = t.length ∧ (∀ k, k < b → t'[k]? = t[k]?) ∧ (∀ k, c ≤ k → t'[k]? = t[k]?) ∧ SM K B (σ.set i (some v)) e' t' (setv val i v) H := by
  cases r with
  | d x =>
    cases p
    obtain ⟨k, _, h2, h3⟩ := at1.take
    refine ⟨rfl, t, rfl, fun _ _ => rfl, fun _ _ => rfl, s.putD hi hm ?_⟩
    have := s.at_t h2
    rw [s.ln, h3] at this
    exact this
  | fr xs =>
    cases p
    obtain ⟨k, h1, h2, h3⟩ := at1
    have hk := (List.getElem?_eq_some_iff.mp h2).1
    rw [List.length_take] at hk
    obtain ⟨_, _, h2', _⟩ := VlAt.take (r := .fr xs) (n := B.n) (b := b) (val := val) (v := v) ⟨k, h1, h2, h3⟩
    have h2 : t[k]? = some (.own xs) := by
      rw [List.getElem?_take] at h2
      split at h2
      · exact h2
      · cases h2
    refine ⟨rfl, t.set k .un, by rw [List.length_set], fun q hq => by rw [List.getElem?_set_ne (by omega)], fun q hq => by rw [List.getElem?_set_ne (by omega)], s.putT hi hm h2 h3⟩
  | pk j =>
    unfold store at p
    obtain ⟨h1, rfl⟩ := at1
    cases q : e[j]? with
    | none => simp [q] at p
    | some m =>
      cases m with
      | un => simp [q] at p
      | d x =>
        simp [q] at p
        obtain ⟨rfl, rfl⟩ := p
        exact ⟨rfl, t, rfl, fun _ _ => rfl, fun _ _ => rfl, s.putD hi hm (s.at_e q)⟩
      | own xs =>
        simp [q] at p
        obtain ⟨rfl, rfl⟩ := p
        exact ⟨rfl, t, rfl, fun _ _ => rfl, fun _ _ => rfl, s.putE hi hm q⟩
theorem store_noexc {i : Nat} {r : Vl} {c : Str} {x : PyData} : store i r e ≠ some (.exc c x e') := by
  unfold store
  intro h
  split at h
  · cases h
  · cases h
  · split at h <;> cases h
/-- several values into several slots -/
def clash (i : Nat) : List Vl → Bool
  | [] => false
  | .pk j :: rs => (i == j) || clash i rs
  | _ :: rs => clash i rs
def stores : List Nat → List Vl → Mo Fl
  | [], [] => Mo.ret .nx
  | i :: is, r :: rs => Mo.bnd (Mo.lift (if clash i rs = true then none else some ())) fun _ => Mo.bnd (store i r) fun _ => stores is rs
  | _, _ => Mo.lift none
def setAll (σ : St) : List Nat → List V → St
  | i :: is, v :: vs => setAll (σ.set i (some v)) is vs
  | _, _ => σ
theorem clash_mem {i : Nat} : ∀ {rs : List Vl}, clash i rs = false → .pk i ∉ rs
  | [], _ => by simp
  | .pk j :: rs, h => by
    simp [clash] at h
    intro hm
    rcases List.mem_cons.mp hm with e | hm
    · cases e; exact h.1 rfl
    · exact clash_mem h.2 hm
  | .d _ :: rs, h => by
    intro hm
    rcases List.mem_cons.mp hm with e | hm
    · cases e
    · exact clash_mem (rs := rs) h hm
  | .fr _ :: rs, h => by
    intro hm
    rcases List.mem_cons.mp hm with e | hm
    · cases e
    · exact clash_mem (rs := rs) h hm
theorem VlAt.move {n b : Nat} {t t' : List Md} {val : Nat → V} {i : Nat} {w : V} {r : Vl} {v : V} (h : VlAt n b t val r v) (hi : i < n) (hr : r ≠ .pk i) (hk : ∀ k, b ≤ k → k < t.length → t'[k]? = t[k]?) : VlAt n b t' (setv val i w) r v := by
  cases r with
  | d x => obtain ⟨k, h1, h2, h3⟩ := h; exact ⟨k, h1, by rw [hk k h1 (List.getElem?_eq_some_iff.mp h2).1]; exact h2, by rw [setv_ne (by omega)]; exact h3⟩
  | fr x => obtain ⟨k, h1, h2, h3⟩ := h; exact ⟨k, h1, by rw [hk k h1 (List.getElem?_eq_some_iff.mp h2).1]; exact h2, by rw [setv_ne (by omega)]; exact h3⟩
  | pk j => exact ⟨h.1, by rw [setv_ne (fun e => hr (by rw [e]))]; exact h.2⟩
theorem VlAll.move {n : Nat} {t t' : List Md} {val : Nat → V} {i : Nat} {w : V} (hi : i < n) (hl : t'.length = t.length) : ∀ {b : Nat} {rs : List Vl} {vs : List V}, VlAll n b t val rs vs → .pk i ∉ rs → (∀ k, b ≤ k → t'[k]? = t[k]?) → VlAll n b t' (setv val i w) rs vs
  | _, [], _, h, _, _ => h
  | b, r :: rs, _, ⟨v, us, m, e, h0, h0', h1, h2⟩, hr, hk => by
    simp only [List.mem_cons, not_or] at hr
    refine ⟨v, us, m, e, h0, by omega, ?_, VlAll.move hi hl h2 hr.2 fun k hk' => hk k (by omega)⟩
    refine h1.move hi (fun e => hr.1 e.symm) fun k g1 g2 => ?_
    rw [List.length_take] at g2
    rw [List.getElem?_take, List.getElem?_take, if_pos (by omega), if_pos (by omega)]
    exact hk k g1
theorem stores_ok : ∀ {is : List Nat} {rs : List Vl} {vs : List V} {b : Nat} {σ : St} {e : En} {t : List Md} {val : Nat → V} {fl : Fl}, SM K B σ e t val H → (∀ i ∈ is, i < B.n ∧ i ∉ B.mp) → VlAll B.n b t val rs vs → stores is rs e = some (.ok fl e') →
    fl = .nx ∧ vs.length = is.length ∧ ∃ t' val', t'.length = t.length ∧ (∀ k, k < b → t'[k]? = t[k]?) ∧ (∀ i, B.n ≤ i → val' i = val i) ∧ SM K B (setAll σ is vs) e' t' val' H
  | [], [], _, _, σ, e, t, val, _, s, _, h, p => by cases h; cases p; exact ⟨rfl, rfl, t, val, rfl, fun _ _ => rfl, fun _ _ => rfl, s⟩
  | i :: is, r :: rs, _, b, σ, e, t, val, _, s, hs, ⟨v, us, m, ev, h0, h0', h1, h2⟩, p => by
    subst ev
    obtain ⟨_, e1, p1, pA⟩ := Mo.bnd_ok p
    obtain ⟨f1, e2, p2, pB⟩ := Mo.bnd_ok pA
    obtain ⟨q1, ee⟩ := lift_ok p1
    subst ee
    have hcl : clash i rs = false := by
      cases hc : clash i rs with
      | false => rfl
      | true => rw [hc, if_pos rfl] at q1; cases q1
    obtain ⟨hi, hm⟩ := hs i List.mem_cons_self
    obtain ⟨_, t', l1, g1, g2, s1⟩ := store_ok s hi hm h1 h0' p2
    obtain ⟨q2, ql, t'', val'', l2, g3, g4, s2⟩ := stores_ok (b := m) s1 (fun j hj => hs j (List.mem_cons_of_mem _ hj)) (VlAll.move hi l1 h2 (clash_mem hcl) g2) pB
    refine ⟨q2, by simp [ql], t'', val'', l2.trans l1, fun k hk => (g3 k (by omega)).trans (g1 k hk), fun j hj => (g4 j hj).trans (setv_ne (by omega)), s2⟩
  | [], _ :: _, _, _, _, _, _, _, _, _, _, _, p => by cases p
  | _ :: _, [], _, _, _, _, _, _, _, _, _, _, p => by cases p
end
end L2.DL

namespace L2.DL
open PySem PySem.Spec PyProof.Rows
def FlC (K : PySem.W.Frag) (B : Bs) (t : List Md) (val : Nat → V) (D : Ends) (fl : Fl) (e' : En) : Prop := match fl with
  | .nx => ∀ σ' H' val', AgT B.n (B.n + t.length) val val' → SM K B σ' e' t val' H' → D.nx σ' H'
  | .bk => ∀ σ' H' val', AgT B.n (B.n + t.length) val val' → SM K B σ' e' t val' H' → D.bk σ' H'
  | .ct => ∀ σ' H' val', AgT B.n (B.n + t.length) val val' → SM K B σ' e' t val' H' → D.ct σ' H'
  | .rt w => ∀ v σ' H' t' val', AgT B.n (B.n + t.length) val val' → SM K B σ' e' (t ++ t') val' H' → VlAt B.n t.length (t ++ t') val' w v → D.rt v H'
def tS (K : PySem.W.Frag) (B : Bs) (W : XW) (f : Mo Fl) : TS := fun D σ H => ∃ e t val, SM K B σ e t val H ∧ Fin K B W t val (f e) (FlC K B t val D)
theorem AgT.trans {a b b' : Nat} {v0 v1 v2 : Nat → V} (h : AgT a b v0 v1) (g : AgT a b' v1 v2) (hb : b ≤ b') : AgT a b v0 v2 := fun i h1 h2 => (g i h1 (by omega)).trans (h i h1 h2)
theorem Fin.extT {α : Type} {K : PySem.W.Frag} {B : Bs} {W : XW} {t t1 : List Md} {val val1 : Nat → V} {o : Option (Rs α)} {C : α → En → Prop} (h : Fin K B W t val o C) (ag : AgT B.n (B.n + t.length) val val1) : Fin K B W (t ++ t1) val1 o C := h.ext ag
theorem Fin.same {α : Type} {K : PySem.W.Frag} {B : Bs} {W : XW} {t : List Md} {val val1 : Nat → V} {o : Option (Rs α)} {C : α → En → Prop} (h : Fin K B W t val o C) (ag : AgT B.n (B.n + t.length) val val1) : Fin K B W t val1 o C := by
  have := h.ext (t1 := []) ag
  rwa [List.append_nil] at this
theorem FlC.back {K : PySem.W.Frag} {B : Bs} {t t1 : List Md} {val val1 : Nat → V} {D : Ends} {fl : Fl} {e' : En} (h : FlC K B t val D fl e') (ag : AgT B.n (B.n + t.length) val val1) : FlC K B (t ++ t1) val1 D fl e' := by
  cases fl with
  | nx => exact fun σ' H' val' a s => h σ' H' val' (ag.trans a (by simp)) s.drop
  | bk => exact fun σ' H' val' a s => h σ' H' val' (ag.trans a (by simp)) s.drop
  | ct => exact fun σ' H' val' a s => h σ' H' val' (ag.trans a (by simp)) s.drop
  | rt w => exact fun v σ' H' t' val' a s at1 => h v σ' H' (t1 ++ t') val' (ag.trans a (by simp)) (by rw [← List.append_assoc]; exact s) (by rw [← List.append_assoc]; exact at1.low (by simp))
theorem FlC.ends {K : PySem.W.Frag} {B : Bs} {t : List Md} {val : Nat → V} {D D' : Ends} {fl : Fl} {e' : En} (h : FlC K B t val D fl e') (h1 : fl = .nx → ∀ σ H, D.nx σ H → D'.nx σ H) (h2 : fl = .bk → ∀ σ H, D.bk σ H → D'.bk σ H) (h3 : fl = .ct → ∀ σ H, D.ct σ H → D'.ct σ H) (h4 : ∀ v H, D.rt v H → D'.rt v H) : FlC K B t val D' fl e' := by
  cases fl with
  | nx => exact fun σ' H' val' a s => h1 rfl _ _ (h σ' H' val' a s)
  | bk => exact fun σ' H' val' a s => h2 rfl _ _ (h σ' H' val' a s)
  | ct => exact fun σ' H' val' a s => h3 rfl _ _ (h σ' H' val' a s)
  | rt w => exact fun v σ' H' t' val' a s at1 => h4 _ _ (h v σ' H' t' val' a s at1)
def sSet (i : Nat) (f : Mo Vl) : Mo Fl := Mo.bnd f fun r => store i r
def sSets (is : List Nat) (f : Mo (List Vl)) : Mo Fl := Mo.bnd f fun rs => stores is rs
def sSeq (f g : Mo Fl) : Mo Fl := Mo.bnd f fun fl => match fl with
  | .nx => g
  | o => Mo.ret o
def sNx : Mo Fl := Mo.ret .nx
def sIf (c : Mo Bool) (f g : Mo Fl) : Mo Fl := Mo.bnd c fun k => if k = true then f else g
def sExpr (f : Mo Vl) : Mo Fl := Mo.bnd f fun _ => Mo.ret .nx
def sRet (f : Mo Vl) : Mo Fl := Mo.bnd f fun r => Mo.ret (.rt r)
def sRetN : Mo Fl := Mo.ret (.rt (.d .none))
section
variable {X : Cx} {B : Bs} {W : XW} {K : PySem.W.Frag} {f g : Mo Fl} {fa : Mo Vl} {ca : Mo Bool} {st : Stmt} {pos : Pos}
theorem take_drop_of {t t' t1 : List Md} (hl : t'.length = (t ++ t1).length) (h : ∀ k, k < t.length → t'[k]? = (t ++ t1)[k]?) : t' = t ++ t'.drop t.length := by
  have h1 : t'.take t.length = t := by
    apply List.ext_getElem?
    intro k
    by_cases hk : k < t.length
    · rw [List.getElem?_take, if_pos hk, h k hk, List.getElem?_append_left hk]
    · rw [List.getElem?_take, if_neg hk, List.getElem?_eq_none (by omega)]
  conv => lhs; rw [← List.take_append_drop t.length t']
  rw [h1]
theorem SM.dropTo {σ : St} {e : En} {t t' t1 : List Md} {val : Nat → V} {H : Hp} (s : SM K B σ e t' val H) (hl : t'.length = (t ++ t1).length) (h : ∀ k, k < t.length → t'[k]? = (t ++ t1)[k]?) : SM K B σ e t val H := by
  rw [take_drop_of hl h] at s
  exact s.drop
theorem Fin.store {t : List Md} {val : Nat → V} {i : Nat} {r : Vl} {e : En} {C : Fl → En → Prop} (h : Fin K B W t val (store i r e) C) : ∃ fl e', store i r e = some (.ok fl e') ∧ C fl e' := by
  cases q : DL.store i r e with
  | none => rw [q] at h; exact h.elim
  | some z =>
    cases z with
    | ok d e' => rw [q] at h; exact ⟨d, e', rfl, h⟩
    | exc c x e' => exact absurd q store_noexc
theorem stores_noexc : ∀ {is : List Nat} {rs : List Vl} {e e' : En} {c : Str} {x : PyData}, stores is rs e ≠ some (.exc c x e')
  | [], [], _, _, _, _, h => by cases h
  | i :: is, r :: rs, e, _, _, _, h => by
    unfold stores Mo.bnd Mo.lift at h
    by_cases hc : clash i rs = true
    · simp [hc] at h
    · simp [hc] at h
      cases q : DL.store i r e with
      | none => rw [q] at h; cases h
      | some z =>
        cases z with
        | ok d e' => rw [q] at h; exact stores_noexc h
        | exc c x e' => exact store_noexc q
  | [], _ :: _, _, _, _, _, h => by cases h
  | _ :: _, [], _, _, _, _, h => by cases h
theorem Fin.stores {t : List Md} {val : Nat → V} {i : List Nat} {r : List Vl} {e : En} {C : Fl → En → Prop} (h : Fin K B W t val (stores i r e) C) : ∃ fl e', stores i r e = some (.ok fl e') ∧ C fl e' := by
  cases q : DL.stores i r e with
  | none => rw [q] at h; exact h.elim
  | some z =>
    cases z with
    | ok d e' => rw [q] at h; exact ⟨d, e', rfl, h⟩
    | exc c x e' => exact absurd q stores_noexc
theorem set_imp {te : TE} {i : Nat} (hi : i < B.n) (hm : i ∉ B.mp) (k : ∀ σ H Q, tD K B W fa σ H Q → te σ H Q) : ∀ D σ H, tS K B W (sSet i fa) D σ H → tAsg te (gName i) D σ H := by
  rintro D σ H ⟨e, t, val, s, h⟩
  refine k σ H _ ⟨e, t, val, s, (Fin.bnd h).imp fun r e1 _ h1 v H1 t1 val1 ag1 s1 at1 => ?_⟩
  obtain ⟨fl, e2, p, h2⟩ := Fin.store h1
  rw [s1.ln] at at1
  obtain ⟨rfl, t', l1, g1, _, s2⟩ := store_ok (c := (t ++ t1).length) s1 hi hm (by rw [List.take_length]; exact at1) (Nat.le_refl _) p
  refine h2 _ _ _ (fun j h3 h4 => ?_) (s2.dropTo l1 g1)
  rw [setv_ne (by omega)]
  exact ag1 j (by rw [s1.ln]; exact h4)
theorem pds_set {te : TE} {i : Nat} (h : PS X st (tAsg te (gName i))) (k : ∀ σ H Q, tD X.K B W fa σ H Q → te σ H Q) (hi : i < B.n) (hm : i ∉ B.mp) : PS X st (tS X.K B W (sSet i fa)) := h.imp (set_imp hi hm k)
theorem seq_imp : ∀ D σ H, tS K B W (sSeq f g) D σ H → tSeq (tS K B W f) (tS K B W g) D σ H := by
  rintro D σ H ⟨e, t, val, s, h⟩
  refine ⟨e, t, val, s, (Fin.bnd h).imp fun fl e1 _ h1 => ?_⟩
  cases fl with
  | nx => exact fun σ' H' val' ag s' => ⟨e1, t, val', s', (Fin.same h1 ag).imp fun fl2 e2 _ h2 => by
      have := FlC.back (t1 := []) h2 ag
      rwa [List.append_nil] at this⟩
  | bk => exact h1
  | ct => exact h1
  | rt w => exact h1
theorem pdss_nil : PSs X [] (tS X.K B W sNx) := pss_nil.imp fun D σ H ⟨e, t, val, s, h⟩ => h σ H val (fun _ _ _ => rfl) s
theorem pdss_cons {rest : List Stmt} (h1 : PS X st (tS X.K B W f)) (h2 : PSs X rest (tS X.K B W g)) : PSs X (st :: rest) (tS X.K B W (sSeq f g)) := (pss_cons h1 h2).imp seq_imp
theorem pdss_one (h1 : PS X st (tS X.K B W f)) : PSs X [st] (tS X.K B W f) := pss_one h1
theorem pds_pass : PS X (.Pass pos) (tS X.K B W sNx) := ps_pass.imp fun D σ H ⟨e, t, val, s, h⟩ => h σ H val (fun _ _ _ => rfl) s
theorem pds_break : PS X (.Break pos) (tS X.K B W (Mo.ret .bk)) := ps_break.imp fun D σ H ⟨e, t, val, s, h⟩ => h σ H val (fun _ _ _ => rfl) s
theorem pds_continue : PS X (.Continue pos) (tS X.K B W (Mo.ret .ct)) := ps_continue.imp fun D σ H ⟨e, t, val, s, h⟩ => h σ H val (fun _ _ _ => rfl) s
theorem if_imp : ∀ D σ H, tS K B W (sIf ca f g) D σ H → tIfS (tT K B W ca) (tS K B W f) (tS K B W g) D σ H := by
  rintro D σ H ⟨e, t, val, s, h⟩
  refine ⟨e, t, val, s, (Fin.bnd h).imp fun k e1 _ h1 H1 t1 val1 ag1 s1 => ?_⟩
  have ag : AgT B.n (B.n + t.length) val val1 := by rw [s1.ln] at ag1; exact ag1.T
  cases k with
  | true => exact iteT ⟨e1, t ++ t1, val1, s1, (Fin.extT h1 ag).imp fun fl e2 _ h2 => h2.back ag⟩
  | false => exact iteF ⟨e1, t ++ t1, val1, s1, (Fin.extT h1 ag).imp fun fl e2 _ h2 => h2.back ag⟩
theorem pds_if {c : Expr} {a b : List Stmt} (hc : PT X c (tT X.K B W ca)) (ha : PSs X a (tS X.K B W f)) (hb : PSs X b (tS X.K B W g)) : PS X (.If c a b pos) (tS X.K B W (sIf ca f g)) := (ps_if hc ha hb).imp if_imp
theorem pds_expr {e0 : Expr} (he : PE X e0 (tD X.K B W fa)) (hs : swapsWith e0 none pos.line X.env = pure false := by rfl) : PS X (.Expr e0 pos) (tS X.K B W (sExpr fa)) := by
  refine (ps_expr he hs).imp fun D σ H ⟨e, t, val, s, h⟩ => ?_
  refine ⟨e, t, val, s, (Fin.bnd h).imp fun r e1 _ h1 v H1 t1 val1 ag1 s1 at1 => ?_⟩
  rw [s1.ln] at ag1
  exact h1 σ H1 val1 ag1.T s1.drop
theorem pds_ret {e0 : Expr} (he : PE X e0 (tD X.K B W fa)) : PS X (.Return (some e0) pos) (tS X.K B W (sRet fa)) := by
  refine (ps_ret he).imp fun D σ H ⟨e, t, val, s, h⟩ => ?_
  refine ⟨e, t, val, s, (Fin.bnd h).imp fun r e1 _ h1 v H1 t1 val1 ag1 s1 at1 => ?_⟩
  rw [s1.ln] at ag1 at1
  exact h1 v σ H1 t1 val1 ag1.T s1 at1
theorem pds_retN : PS X (.Return none pos) (tS X.K B W sRetN) := by
  refine ps_retN.imp fun D σ H ⟨e, t, val, s, h⟩ => ?_
  have hl := s.ln
  have s1 := s.pushD (v := .non) (x := .none) .non
  exact h .non σ H [.d .none] _ (fun j h1 h2 => setv_lt (by omega)) s1 ⟨t.length, Nat.le_refl _, by simp, by rw [hl]; exact setv_same⟩
/-! a, b = x, y -/
theorem sets_imp {is : List Nat} {fr : Mo (List Vl)} (hs : ∀ i ∈ is, i < B.n ∧ i ∉ B.mp) : ∀ D σ H, tS K B W (sSets is fr) D σ H → tA K B W fr σ H fun vs H1 => vs.length = is.length ∧ ∀ H2, Same H1 H2 → D.nx (setAll σ is vs) H2 := by
  rintro D σ H ⟨e, t, val, s, h⟩
  refine ⟨e, t, val, s, (Fin.bnd h).imp fun rs e1 _ h1 vs H1 t1 val1 ag1 s1 at1 => ?_⟩
  obtain ⟨fl, e2, p, h2⟩ := Fin.stores h1
  rw [s1.ln] at at1 ag1
  obtain ⟨rfl, hl, t', val', l1, g1, g2, s2⟩ := stores_ok s1 hs at1 p
  refine ⟨hl, fun H2 hg => h2 _ _ _ (fun j h3 h4 => (g2 j h3).trans (ag1 j h4)) ((s2.dropTo l1 g1).grow hg)⟩
theorem pds_par {i j : Nat} {fr : Mo (List Vl)} (h : PS X st (tPar i j (tA X.K B W fr))) (hi : i < B.n ∧ i ∉ B.mp) (hj : j < B.n ∧ j ∉ B.mp) : PS X st (tS X.K B W (sSets [i, j] fr)) := by
  refine h.imp fun D σ H q => ?_
  have q1 := sets_imp (is := [i, j]) (by simpa using ⟨hi, hj⟩) D σ H q
  obtain ⟨e, t, val, s, h⟩ := q1
  refine ⟨e, t, val, s, h.imp fun rs e1 _ h1 vs H1 t1 val1 ag1 s1 at1 => ?_⟩
  obtain ⟨hl, q⟩ := h1 vs H1 t1 val1 ag1 s1 at1
  match vs, hl with
  | [v, w], _ => exact ⟨v, w, rfl, q H1 (Same.refl _)⟩
theorem pds_par3 {i j l : Nat} {fr : Mo (List Vl)} (h : PS X st (tPar3 i j l (tA X.K B W fr))) (hi : i < B.n ∧ i ∉ B.mp) (hj : j < B.n ∧ j ∉ B.mp) (hl : l < B.n ∧ l ∉ B.mp) : PS X st (tS X.K B W (sSets [i, j, l] fr)) := by
  refine h.imp fun D σ H q => ?_
  have q1 := sets_imp (is := [i, j, l]) (by simpa using ⟨hi, hj, hl⟩) D σ H q
  obtain ⟨e, t, val, s, h⟩ := q1
  refine ⟨e, t, val, s, h.imp fun rs e1 _ h1 vs H1 t1 val1 ag1 s1 at1 => ?_⟩
  obtain ⟨hl, q⟩ := h1 vs H1 t1 val1 ag1 s1 at1
  match vs, hl with
  | [u, v, w], _ => exact ⟨u, v, w, rfl, q H1 (Same.refl _)⟩
/-- by a real tuple, into names -/
def gNames : List Nat → TGs
  | [] => gNil
  | i :: is => gCons (gName i) (gNames is)
theorem gNames_all : ∀ {is : List Nat} {vs : List V} {σ : St} {H : Hp} {Q : St → Hp → Prop}, vs.length = is.length → Q (setAll σ is vs) H → gNames is vs σ H Q
  | [], [], _, _, _, _, q => ⟨rfl, q⟩
  | i :: is, v :: vs, _, _, _, hl, q => ⟨v, vs, rfl, gNames_all (is := is) (by simpa using hl) q⟩
theorem pds_tup {is : List Nat} {n : Nat} {fr : Mo (List Vl)} (h : PS X st (tAsg (tTup (tA X.K B W fr)) (gTup X.K n (gNames is)))) (hn : n = is.length) (hz : n ≤ 1000) (hs : ∀ i ∈ is, i < B.n ∧ i ∉ B.mp) : PS X st (tS X.K B W (sSets is fr)) := by
  refine h.imp fun D σ H q => ?_
  obtain ⟨e, t, val, s, h⟩ := sets_imp hs D σ H q
  refine ⟨e, t, val, s, h.imp fun rs e1 _ h1 vs H1 t1 val1 ag1 s1 at1 => ?_⟩
  obtain ⟨hl, q⟩ := h1 vs H1 t1 val1 ag1 s1 at1
  refine ⟨by rw [sizeLine_eq]; omega, fun p hp => ⟨p, vs, rfl, SqT.of upd_same, by omega, gNames_all hl (q _ (Same.updN hp))⟩⟩
end
end L2.DL

namespace L2.DL
open PySem PySem.Spec PyProof.Rows
/-! ### an owned list is written -/
section
variable {K : PySem.W.Frag} {Z : Addr → Prop} {L L' : List Md} {val val' : Nat → V} {H H' : Hp}
theorem Own.set_own {p : Nat} {xs ys : List PyData} (h : L[p]? = some (.own xs)) {a : Addr} : Own (L.set p (.own ys)) val a ↔ Own L val a := by
  have hp := (List.getElem?_eq_some_iff.mp h).1
  constructor
  · rintro ⟨i, zs, e, ev⟩
    rcases getElem?_set_cases e with ⟨rfl, _, _⟩ | ⟨_, e⟩
    · exact ⟨p, xs, h, ev⟩
    · exact ⟨i, zs, e, ev⟩
  · rintro ⟨i, zs, e, ev⟩
    by_cases hi : p = i
    · subst hi
      exact ⟨p, ys, by rw [List.getElem?_set]; simp [hp], ev⟩
    · exact ⟨i, zs, by rw [List.getElem?_set_ne hi]; exact e, ev⟩
theorem Sm.wr (s : Sm K Z L val H) {p : Nat} {a : Addr} {xs ys : List PyData} {vs : List V} (h : L[p]? = some (.own xs)) (ha : val p = .ref a) (fr : ∀ b o, b ≠ a → H b = some o → H' b = some o) (hH : H' a = some (.lst vs))
    (hd : DpAll K (minus H' fun b => Own L val b ∨ Z b) vs ys) : Sm K Z (L.set p (.own ys)) val H' := by
  have oa : Own L val a := ⟨p, xs, h, ha⟩
  have sg : Same (Gh Z L val H) (Gh Z (L.set p (.own ys)) val H') := minus_mono fun b o h1 h2 => by
    have hb : b ≠ a := fun z => h1 (.inl (z ▸ oa))
    exact ⟨fun z => h1 (z.imp (Own.set_own h).mp id), fr b o hb h2⟩
  refine ⟨fun i j us ws h1 h2 e => ?_, fun i m e => ?_, fun b hz => ?_, fun b hb => s.dis b ((Own.set_own h).mp hb)⟩
  · have f : ∀ {q : Nat} {zs}, (L.set p (.own ys))[q]? = some (.own zs) → ∃ us, L[q]? = some (.own us) := fun {q zs} hq => by
      rcases getElem?_set_cases hq with ⟨rfl, _, _⟩ | ⟨_, hq⟩
      · exact ⟨xs, h⟩
      · exact ⟨zs, hq⟩
    obtain ⟨_, g1⟩ := f h1
    obtain ⟨_, g2⟩ := f h2
    exact s.inj i j _ _ g1 g2 e
  · rcases getElem?_set_cases e with ⟨rfl, rfl, _⟩ | ⟨hne, e⟩
    · exact ⟨a, vs, ha, hH, DpAll.mono (minus_mono fun b o h1 h2 => ⟨fun z => h1 (z.imp (Own.set_own h).mp id), h2⟩) _ _ hd⟩
    · have ok : EntOk K (Gh Z L val H) H (val i) m := s.ok i m e
      cases m with
      | un => trivial
      | d x => exact Dp.mono sg _ _ ok
      | own zs =>
        obtain ⟨b, us, hb, q, hd'⟩ := ok
        refine ⟨b, us, hb, fr b _ (fun hba => ?_) q, DpAll.mono sg _ _ hd'⟩
        subst hba
        exact absurd (s.inj p i _ _ h e (by rw [ha, hb])) hne
  · by_cases hba : b = a
    · subst hba; exact absurd hz (s.dis b oa)
    · intro hn
      cases q : H b with
      | none => exact s.zok b hz q
      | some o => rw [fr b o hba q] at hn; cases hn
end
section
variable {K : PySem.W.Frag} {B : Bs} {W : XW} {σ : St} {e e' : En} {t t1 : List Md} {val : Nat → V} {H H' : Hp}
theorem SM.wrE (s : SM K B σ e t val H) {p : Nat} {a : Addr} {xs ys : List PyData} {vs : List V} (h : e[p]? = some (.own xs)) (ha : val p = .ref a) (fr : ∀ b o, b ≠ a → H b = some o → H' b = some o) (hH : H' a = some (.lst vs))
    (hd : DpAll K (minus H' fun b => Own (e ++ t) val b ∨ B.Z b) vs ys) : SM K B σ (e.set p (.own ys)) t val H' := by
  have hp := (List.getElem?_eq_some_iff.mp h).1
  have h' : (e ++ t)[p]? = some (.own xs) := by rw [List.getElem?_append_left hp]; exact h
  have q := s.sm.wr h' ha fr hH hd
  have hs : (e ++ t).set p (.own ys) = e.set p (.own ys) ++ t := List.set_append_left _ _ hp
  have oa : Own (e ++ t) val a := ⟨p, xs, h', ha⟩
  refine ⟨by rw [← hs]; exact q, s.len, by rw [List.length_set]; exact s.ln, fun k m hk hm => ?_, fun b o h1 h2 => fr b o (fun z => ?_) (s.fr b o h1 h2), fun b hb => s.nw b (by rw [← hs] at hb; exact (Own.set_own h').mp hb), s.mp, fun k hk => by rw [List.length_set]; exact s.mpl k hk, s.sv⟩
  · rcases getElem?_set_cases hk with ⟨rfl, _, _⟩ | ⟨_, hk⟩
    · exact s.sl _ _ h (by intro z; cases z)
    · exact s.sl k m hk hm
  · subst z
    rcases s.nw b oa with z | z
    · rw [z] at h1; cases h1
    · exact h2 z
theorem SM.wrT (s : SM K B σ e t val H) {p : Nat} {a : Addr} {xs ys : List PyData} {vs : List V} (h : t[p]? = some (.own xs)) (ha : val (B.n + p) = .ref a) (fr : ∀ b o, b ≠ a → H b = some o → H' b = some o) (hH : H' a = some (.lst vs))
    (hd : DpAll K (minus H' fun b => Own (e ++ t) val b ∨ B.Z b) vs ys) : SM K B σ e (t.set p (.own ys)) val H' := by
  have hl := s.ln
  have h' : (e ++ t)[B.n + p]? = some (.own xs) := by rw [List.getElem?_append_right (by omega), ← hl, Nat.add_sub_cancel_left]; exact h
  have q := s.sm.wr h' ha fr hH hd
  have hs : (e ++ t).set (B.n + p) (.own ys) = e ++ t.set p (.own ys) := by rw [List.set_append_right _ _ (by omega), ← hl, Nat.add_sub_cancel_left]
  have oa : Own (e ++ t) val a := ⟨_, xs, h', ha⟩
  refine ⟨by rw [← hs]; exact q, s.len, s.ln, s.sl, fun b o h1 h2 => fr b o (fun z => ?_) (s.fr b o h1 h2), fun b hb => s.nw b (by rw [← hs] at hb; exact (Own.set_own h').mp hb), s.mp, s.mpl, s.sv⟩
  subst z
  rcases s.nw b oa with z | z
  · rw [z] at h1; cases h1
  · exact h2 z
end

/-! ### targets -/
abbrev Bd := PyData → Mo Unit
def bName (i : Nat) : Bd := fun x e => some (.ok () (e.set i (.d x)))
def bAll : List Bd → List PyData → Mo Unit
  | [], [] => Mo.ret ()
  | g :: gs, x :: xs => Mo.bnd (g x) fun _ => bAll gs xs
  | _, _ => Mo.lift none
def bTup (gs : List Bd) : Bd := fun x => match x with
  | .tuple xs => if xs.length = gs.length then bAll gs xs else Mo.lift none
  | _ => Mo.lift none
def Only (ix : List Nat) (σ σ' : St) : Prop := ∀ j, j ∉ ix → σ'[j]? = σ[j]?
def tG (K : PySem.W.Frag) (B : Bs) (W : XW) (ix : List Nat) (g : Bd) : TG := fun v σ H Q => ∃ e t val x, SM K B σ e t val H ∧ Dp K (Gh B.Z (e ++ t) val H) v x ∧
  Fin K B W t val (g x e) fun _ e' => ∀ σ' H' val', AgT B.n (B.n + t.length) val val' → Only ix σ σ' → SM K B σ' e' t val' H' → Q σ' H'
def TmpAll (n : Nat) (t : List Md) (val : Nat → V) : List V → List PyData → Prop
  | [], xs => xs = []
  | v :: vs, xs => ∃ x ys, xs = x :: ys ∧ (∃ k, t[k]? = some (.d x) ∧ val (n + k) = v) ∧ TmpAll n t val vs ys
theorem TmpAll.ag {n : Nat} {t : List Md} {val val' : Nat → V} (h : AgT n (n + t.length) val val') : ∀ {vs : List V} {xs : List PyData}, TmpAll n t val vs xs → TmpAll n t val' vs xs
  | [], _, q => q
  | _ :: _, _, ⟨x, ys, e, ⟨k, h1, h2⟩, q⟩ => ⟨x, ys, e, ⟨k, h1, by rw [h _ (by omega) (by have := (List.getElem?_eq_some_iff.mp h1).1; omega)]; exact h2⟩, q.ag h⟩
theorem TmpAll.app {n : Nat} {t t' : List Md} {val : Nat → V} : ∀ {vs : List V} {xs : List PyData}, TmpAll n t val vs xs → TmpAll n (t ++ t') val vs xs
  | [], _, q => q
  | _ :: _, _, ⟨x, ys, e, ⟨k, h1, h2⟩, q⟩ => ⟨x, ys, e, ⟨k, by rw [List.getElem?_append_left (List.getElem?_eq_some_iff.mp h1).1]; exact h1, h2⟩, q.app⟩
theorem TmpAll.dp {K : PySem.W.Frag} {B : Bs} {σ : St} {e : En} {t : List Md} {val : Nat → V} {H : Hp} (s : SM K B σ e t val H) : ∀ {vs : List V} {xs : List PyData}, TmpAll B.n t val vs xs → DpAll K (Gh B.Z (e ++ t) val H) vs xs
  | [], _, q => by cases q; exact .nil
  | _ :: _, _, ⟨x, ys, ev, ⟨k, h1, h2⟩, q⟩ => by
    subst ev
    have := s.at_t h1
    rw [s.ln, h2] at this
    exact .cons this (TmpAll.dp s q)
theorem SM.pushAll {K : PySem.W.Frag} {B : Bs} {σ : St} {e : En} {H : Hp} : ∀ {vs : List V} {xs : List PyData} {t : List Md} {val : Nat → V}, SM K B σ e t val H → DpAll K (Gh B.Z (e ++ t) val H) vs xs →
    ∃ val', Ag (B.n + t.length) val val' ∧ SM K B σ e (t ++ xs.map .d) val' H ∧ TmpAll B.n (t ++ xs.map .d) val' vs xs
  | [], _, t, val, s, h => by cases h; exact ⟨val, Ag.refl, by simpa using s, rfl⟩
  | v :: vs, _, t, val, s, h => by
    cases h with
    | cons h1 h2 =>
      rename_i x ys
      have hl := s.ln
      have s1 := s.pushD h1
      have g : Same (Gh B.Z (e ++ t) val H) (Gh B.Z (e ++ (t ++ [.d x])) (setv val (e.length + t.length) v) H) := minus_mono fun a o q1 q2 => ⟨fun z => q1 (z.imp (fun z => by
        rw [← List.append_assoc, ← List.length_append] at z
        rcases Own.push z with z | ⟨⟨_, z⟩, _⟩
        · exact z
        · cases z) id), q2⟩
      obtain ⟨val', a1, s2, q⟩ := SM.pushAll s1 (DpAll.mono g _ _ h2)
      have hs : t ++ (x :: ys).map Md.d = t ++ [.d x] ++ ys.map .d := by simp
      refine ⟨val', fun i hi => (a1 i (by simp; omega)).trans (setv_lt (by omega)), by rw [hs]; exact s2, x, ys, rfl, ⟨t.length, by simp, ?_⟩, by rw [hs]; exact q⟩
      rw [a1 _ (by simp), ← hl]
      exact setv_same
def tGs (K : PySem.W.Frag) (B : Bs) (W : XW) (ix : List Nat) (gs : List Bd) : TGs := fun vs σ H Q => ∃ e t val xs, SM K B σ e t val H ∧ TmpAll B.n t val vs xs ∧ xs.length = gs.length ∧
  Fin K B W t val (bAll gs xs e) fun _ e' => ∀ σ' H' val', AgT B.n (B.n + t.length) val val' → Only ix σ σ' → SM K B σ' e' t val' H' → Q σ' H'
theorem Only.trans {ix ix' : List Nat} {σ σ1 σ2 : St} (h : Only ix σ σ1) (h' : Only ix' σ1 σ2) : Only (ix ++ ix') σ σ2 := fun j hj => by
  simp only [List.mem_append, not_or] at hj
  exact (h' j hj.2).trans (h j hj.1)
section
variable {X : Cx} {B : Bs} {W : XW} {pos : Pos} {fa : Mo Vl} {st : Stmt}
theorem pdg_name {i : Nat} {e0 : Expr} (h : PG X e0 (gName i)) (hi : i < B.n) (hm : i ∉ B.mp) : PG X e0 (tG X.K B W [i] (bName i)) := ⟨fun pins s σ H v u Q I r ⟨e, t, val, x, sm, hd, q⟩ => by
  refine h.run pins s σ H v u Q I r ?_
  refine q _ _ _ (fun j h1 h2 => setv_ne (by omega)) (fun j hj => ?_) (sm.putD hi hm hd)
  have : i ≠ j := fun e => hj (by simp [e])
  exact List.getElem?_set_ne this⟩
theorem pdgs_nil : PGs X [] (tGs X.K B W [] []) := ⟨fun pins s σ H vs us Q I r ⟨e, t, val, xs, sm, hd, hl, q⟩ => by
  have hx : xs = [] := by simpa using hl
  subst hx
  have hv : vs = [] := by
    cases vs with
    | nil => rfl
    | cons v vs => obtain ⟨x, ys, e1, _⟩ := hd; cases e1
  exact pgs_nil.run pins s σ H vs us Q I r ⟨hv, q σ H val (fun _ _ _ => rfl) (fun _ _ => rfl) sm⟩⟩
theorem pdgs_cons {e0 : Expr} {es : List Expr} {ix jx : List Nat} {g : Bd} {gs : List Bd} (h1 : PG X e0 (tG X.K B W ix g)) (h2 : PGs X es (tGs X.K B W jx gs)) (hs : (assignEach (e0 :: es) X.env).map (·.2) = assign e0 X.env :: (assignEach es X.env).map (·.2) := by rfl) :
    PGs X (e0 :: es) (tGs X.K B W (ix ++ jx) (g :: gs)) := ⟨fun pins s σ H vs us Q I r ⟨e, t, val, xs, sm, hd, hl, q⟩ => by
  refine (pgs_cons h1 h2 hs).run pins s σ H vs us Q I r ?_
  cases vs with
  | nil => cases hd; simp at hl
  | cons v vs =>
    obtain ⟨x, ys, rfl, ⟨k, hk, hv⟩, hd⟩ := hd
    have hdx := sm.at_t hk
    rw [sm.ln, hv] at hdx
    refine ⟨v, vs, rfl, e, t, val, x, sm, hdx, (Fin.bnd q).imp fun _ e1 _ q1 σ1 H1 val1 ag1 o1 s1 => ?_⟩
    exact ⟨e1, t, val1, ys, s1, hd.ag ag1, by simpa using hl, (Fin.same q1 ag1).imp fun _ e2 _ q2 σ2 H2 val2 ag2 o2 s2 => q2 σ2 H2 val2 (ag1.trans ag2 (Nat.le_refl _)) (o1.trans o2) s2⟩⟩
theorem pdg_tup {e0 : Expr} {n : Nat} {ix : List Nat} {gs : List Bd} (h : PG X e0 (gTup X.K n (tGs X.K B W ix gs))) (hn : n = gs.length) : PG X e0 (tG X.K B W ix (bTup gs)) := ⟨fun pins s σ H v u Q I r ⟨e, t, val, x, sm, hd, q⟩ => by
  refine h.run pins s σ H v u Q I r ?_
  unfold bTup at q
  cases x with
  | tuple xs =>
    simp only at q
    by_cases hl : xs.length = gs.length
    · rw [if_pos hl] at q
      cases hd with
      | tup h1 h2 =>
        obtain ⟨val', ag, s1, tm⟩ := sm.pushAll h2
        have agT : AgT B.n (B.n + t.length) val val' := ag.T
        refine ⟨_, _, rfl, SqT.mono minus_sub h1, by rw [h2.length, hn, hl], e, t ++ xs.map .d, val', xs, s1, tm, hl, (Fin.extT q agT).imp fun _ e1 _ q1 σ1 H1 val1 ag1 o1 s2 => ?_⟩
        exact q1 σ1 H1 val1 (agT.trans ag1 (by simp)) o1 s2.drop
    · rw [if_neg hl] at q
      exact q.elim
  | none => exact q.elim
  | bool _ => exact q.elim
  | int _ => exact q.elim
  | str _ => exact q.elim
  | list _ => exact q.elim
  | dict _ => exact q.elim⟩
def sAsg (f : Mo Vl) (g : Bd) : Mo Fl := Mo.bnd f fun r => Mo.bnd (freeze r) fun x => Mo.bnd (g x) fun _ => Mo.ret .nx
theorem asg_imp {K : PySem.W.Frag} {te : TE} {ix : List Nat} {g : Bd} (k : ∀ σ H Q, tD K B W fa σ H Q → te σ H Q) : ∀ D σ H, tS K B W (sAsg fa g) D σ H → tAsg te (tG K B W ix g) D σ H := by
  rintro D σ H ⟨e, t, val, s, h⟩
  refine k σ H _ ⟨e, t, val, s, (Fin.bnd h).imp fun r e1 _ h1 v H1 t1 val1 ag1 s1 at1 => ?_⟩
  obtain ⟨d, e2, p, h2⟩ := Fin.freeze (Fin.bnd h1)
  obtain ⟨t1', l1, l2, s2, _, hd, _⟩ := freeze_ok s1 at1.weak p
  have ag : AgT B.n (B.n + t.length) val val1 := by rw [s1.ln] at ag1; exact ag1.T
  exact ⟨e2, t ++ t1', val1, d, s2, hd, (Fin.extT (Fin.bnd h2) ag).imp fun _ e3 _ q3 σ3 H3 val3 ag3 _ s3 => q3 σ3 H3 val3 (ag.trans ag3 (by simp)) s3.drop⟩
theorem pds_asg {te : TE} {ix : List Nat} {g : Bd} (h : PS X st (tAsg te (tG X.K B W ix g))) (k : ∀ σ H Q, tD X.K B W fa σ H Q → te σ H Q) : PS X st (tS X.K B W (sAsg fa g)) := h.imp (asg_imp k)
end
end L2.DL

namespace L2.DL
open PySem PySem.Spec PyProof.Rows RZ
/-! ### what is walked -/
def ItOk (K : PySem.W.Frag) (J : It) (us : List V) (sd ds : List PyData) : Prop := ∀ G H, Same G H → DpAll K G us sd →
  (∀ i d, ds[i]? = some d → J.go i H ∧ ∀ x H', J.yld i H x H' → Same H H' ∧ Dp K (gext G H H') x d) ∧ J.stop ds.length H
def tI (K : PySem.W.Frag) (B : Bs) (W : XW) (m : Mo (List PyData)) : TI := fun σ H R => ∃ e t val, SM K B σ e t val H ∧
  Fin K B W t val (m e) fun ds e' => ∀ J H' t' val' us sd, Ag (B.n + t.length) val val' → SM K B σ e' (t ++ t') val' H' → TmpAll B.n (t ++ t') val' us sd → ItOk K J us sd ds → R J H'
def seqOf : PyData → Option (List PyData)
  | .list xs => some xs
  | .tuple xs => some xs
  | _ => none
def iSeq (f : Mo Vl) : Mo (List PyData) := Mo.bnd f fun r => Mo.bnd (freeze r) fun d => Mo.lift (seqOf d)
theorem itOk_list {K : PySem.W.Frag} {a : Addr} {ds : List PyData} : ItOk K (Itl K a) [.ref a] [.list ds] ds := fun G H sg hd => by
  cases hd with
  | cons h1 _ =>
    cases h1 with
    | lst h2 h3 =>
      rename_i vs
      have hs := SqL.mono sg h2
      have hl := h3.length
      refine ⟨fun i d hi => ?_, vs, hs, by omega⟩
      obtain ⟨v, hv, hd⟩ := h3.get hi
      refine ⟨⟨vs, v, hs, hv⟩, fun x H' ⟨e, hx⟩ => ?_⟩
      subst e
      have := hx vs hs
      rw [hv] at this; cases this
      exact ⟨Same.refl _, by rw [gext_same sg]; exact hd⟩
theorem itOk_tup {K : PySem.W.Frag} {a : Addr} {ds : List PyData} : ItOk K (Itt K a) [.ref a] [.tuple ds] ds := fun G H sg hd => by
  cases hd with
  | cons h1 _ =>
    cases h1 with
    | tup h2 h3 =>
      rename_i vs
      have hs := SqT.mono sg h2
      have hl := h3.length
      refine ⟨fun i d hi => ?_, vs, hs, by omega⟩
      obtain ⟨v, hv, hd⟩ := h3.get hi
      refine ⟨⟨vs, v, hs, hv⟩, fun x H' ⟨e, hx⟩ => ?_⟩
      subst e
      have := hx vs hs
      rw [hv] at this; cases this
      exact ⟨Same.refl _, by rw [gext_same sg]; exact hd⟩
theorem itOk_range {K : PySem.W.Frag} {lo : Int} {n : Nat} : ItOk K (Itr lo n) [] [] ((List.range n).map fun (i : Nat) => PyData.int (lo + i)) := fun G H sg hd => by
  refine ⟨fun i d hi => ?_, by show n ≤ _; simp⟩
  have hn : i < n := by have := (List.getElem?_eq_some_iff.mp hi).1; simpa using this
  refine ⟨hn, fun x H' ⟨e, hx⟩ => ?_⟩
  subst e
  rw [List.getElem?_map, List.getElem?_range hn] at hi
  simp at hi
  subst hi hx
  exact ⟨Same.refl _, .int _⟩
theorem gext_upd {G H : Hp} {p : Addr} {o : HO} (hp : H p = none) : gext G H (upd H p o) p = some o := by
  unfold gext
  rw [hp]
  exact upd_same
def pairs (xs ys : List PyData) : List PyData := (xs.zip ys).map fun p => .tuple [p.1, p.2]
theorem dp_pair {K : PySem.W.Frag} {G H : Hp} {T : Addr} {x y : V} {d e : PyData} (sg : Same G H) (hT : H T = none) (h1 : Dp K G x d) (h2 : Dp K G y e) : Dp K (gext G H (upd H T (.tup [x, y]))) (.ref T) (.tuple [d, e]) :=
  .tup (SqT.of (gext_upd hT)) (.cons (Dp.mono (Same.gext sg _) _ _ h1) (.cons (Dp.mono (Same.gext sg _) _ _ h2) .nil))
theorem zip_get {xs ys : List PyData} {i : Nat} {d : PyData} (h : (pairs xs ys)[i]? = some d) : ∃ x y, xs[i]? = some x ∧ ys[i]? = some y ∧ d = .tuple [x, y] := by
  unfold pairs at h
  rw [List.getElem?_map] at h
  cases q : (xs.zip ys)[i]? with
  | none => rw [q] at h; cases h
  | some p =>
    rw [q] at h
    obtain ⟨x, y⟩ := p
    rw [List.getElem?_zip_eq_some] at q
    exact ⟨x, y, q.1, q.2, (Option.some.inj h).symm⟩
theorem itOk_zipL {K : PySem.W.Frag} {a b : Addr} {xs ys : List PyData} : ItOk K (Itz K a b) [.ref a, .ref b] [.list xs, .list ys] (pairs xs ys) := fun G H sg hd => by
  cases hd with
  | cons h1 hd =>
    cases hd with
    | cons g1 _ =>
      cases h1 with
      | lst h2 h3 =>
        cases g1 with
        | lst g2 g3 =>
          rename_i vs ws
          have hs := SqL.mono sg h2
          have gs := SqL.mono sg g2
          have hl := h3.length
          have gl := g3.length
          refine ⟨fun i d hi => ?_, vs, ws, hs, gs, by simp [pairs]; omega⟩
          obtain ⟨x, y, hx, hy, rfl⟩ := zip_get hi
          obtain ⟨v, hv, hd⟩ := h3.get hx
          obtain ⟨u, gv, gd⟩ := g3.get hy
          refine ⟨⟨vs, ws, v, u, hs, gs, hv, gv⟩, ?_⟩
          rintro z H' ⟨T, x', y', rfl, hT, rfl, q1, q2⟩
          have e1 := q1 vs hs
          have e2 := q2 ws gs
          rw [hv] at e1; rw [gv] at e2; cases e1; cases e2
          exact ⟨Same.updN hT, dp_pair sg hT hd gd⟩
theorem itOk_zipT {K : PySem.W.Frag} {a b : Addr} {xs ys : List PyData} : ItOk K (ItzT K a b) [.ref a, .ref b] [.tuple xs, .tuple ys] (pairs xs ys) := fun G H sg hd => by
  cases hd with
  | cons h1 hd =>
    cases hd with
    | cons g1 _ =>
      cases h1 with
      | tup h2 h3 =>
        cases g1 with
        | tup g2 g3 =>
          rename_i vs ws
          have hs := SqT.mono sg h2
          have gs := SqT.mono sg g2
          have hl := h3.length
          have gl := g3.length
          refine ⟨fun i d hi => ?_, vs, ws, hs, gs, by simp [pairs]; omega⟩
          obtain ⟨x, y, hx, hy, rfl⟩ := zip_get hi
          obtain ⟨v, hv, hd⟩ := h3.get hx
          obtain ⟨u, gv, gd⟩ := g3.get hy
          refine ⟨⟨vs, ws, v, u, hs, gs, hv, gv⟩, ?_⟩
          rintro z H' ⟨T, x', y', rfl, hT, rfl, q1, q2⟩
          have e1 := q1 vs hs
          have e2 := q2 ws gs
          rw [hv] at e1; rw [gv] at e2; cases e1; cases e2
          exact ⟨Same.updN hT, dp_pair sg hT hd gd⟩
section
variable {X : Cx} {B : Bs} {W : XW} {pos : Pos} {fa : Mo Vl} {st : Stmt} {tg : Expr}
theorem _root_.L2.PI.imp {X : Cx} {tg e : Expr} {t t' : TI} (h : PI X tg e t) (k : ∀ σ H Q, t' σ H Q → t σ H Q) : PI X tg e t' := ⟨fun pins s σ H Q I q => h.run pins s σ H Q I (k σ H Q q)⟩
/-- a list or a tuple, whichever it is -/
theorem pi_seq {l : Expr} {tl : TE} (hl : PE X l tl) : PI X tg l (fun σ H R => tl σ H fun x H1 => ∃ a, x = .ref a ∧ (((∃ xs, SqL X.K H1 a xs) ∧ R (Itl X.K a) H1) ∨ ((∃ xs, SqT X.K H1 a xs) ∧ R (Itt X.K a) H1))) := by
  refine ⟨fun pins s σ H R I h => ?_⟩
  refine thn (hl.run pins s σ H _ I h) fun v s1 ⟨x, H1, I1, r1, q1⟩ => ?_
  obtain ⟨a, e, q⟩ := q1
  subst e
  cases r1
  rcases q with ⟨⟨xs, hq⟩, q⟩ | ⟨⟨xs, hq⟩, q⟩
  · obtain ⟨its, rv, p, hz⟩ := I1.list hq
    refine wpAny_pyIter_list p.isList ?_
    refine ⟨s1.heap.objs.size, [s1.heap.objs.size], _, _, H1, rfl, I1.kept (t' := s1.toks) fun b o e => Heap.get?_push_of_some _ e, turn_list a _, ⟨_, Heap.get?_push_size _ rfl, rfl, rfl⟩, fun b hb => ?_, q⟩
    have e : b = s1.heap.objs.size := by simpa using hb
    subst e
    exact I1.fpOk (Nat.le_refl _) (I1.hok.fresh (Nat.le_refl _))
  · obtain ⟨its, rv, p, hz⟩ := I1.tuple hq
    refine wpAny_pyIter_tuple (show s1.heap.IsTuple a its.toArray from p) ?_
    refine ⟨s1.heap.objs.size, [s1.heap.objs.size], _, _, H1, rfl, I1.kept (t' := s1.toks) fun b o e => Heap.get?_push_of_some _ e, turn_tuple a _, ⟨_, Heap.get?_push_size _ rfl, rfl, rfl⟩, fun b hb => ?_, q⟩
    have e : b = s1.heap.objs.size := by simpa using hb
    subst e
    exact I1.fpOk (Nat.le_refl _) (I1.hok.fresh (Nat.le_refl _))
theorem ag_n {K : PySem.W.Frag} {σ : St} {e : En} {t : List Md} {val val1 : Nat → V} {val2 : Nat → V} {H : Hp} (s : SM K B σ e t val2 H) {m : Nat} (h : Ag (e.length + m) val val1) : Ag (B.n + m) val val1 := by rw [s.ln] at h; exact h
theorem pdi_seq {l : Expr} (hl : PE X l (tD X.K B W fa)) : PI X tg l (tI X.K B W (iSeq fa)) := by
  refine (pi_seq hl).imp fun σ H R ⟨e, t, val, s, h⟩ => ?_
  refine ⟨e, t, val, s, (Fin.bnd h).imp fun r e1 _ h1 v H1 t1 val1 ag1 s1 at1 => ?_⟩
  obtain ⟨d, e2, p, h2⟩ := Fin.freeze (Fin.bnd h1)
  obtain ⟨t1', l1, l2, s2, _, hd, _⟩ := freeze_ok s1 at1.weak p
  obtain ⟨ds, hs, h3⟩ := Fin.lift h2
  have s3 := s2.pushD hd
  have ag2 : Ag (B.n + t.length) val (setv val1 (e2.length + (t ++ t1').length) v) := fun i hi => by
    rw [setv_lt (by rw [s2.ln]; simp; omega)]
    exact ag_n s1 ag1 i hi
  have tm : TmpAll B.n (t ++ (t1' ++ [.d d])) (setv val1 (e2.length + (t ++ t1').length) v) [v] [d] :=
    ⟨d, [], rfl, ⟨(t ++ t1').length, by rw [← List.append_assoc]; simp, by rw [s2.ln]; exact setv_same⟩, rfl⟩
  rw [List.append_assoc] at s3
  cases d with
  | list xs =>
    cases hs
    cases hd with
    | lst g1 g2 => exact ⟨_, rfl, .inl ⟨⟨_, SqL.mono minus_sub g1⟩, h3 _ _ _ _ _ _ ag2 s3 tm itOk_list⟩⟩
  | tuple xs =>
    cases hs
    cases hd with
    | tup g1 g2 => exact ⟨_, rfl, .inr ⟨⟨_, SqT.mono minus_sub g1⟩, h3 _ _ _ _ _ _ ag2 s3 tm itOk_tup⟩⟩
  | none => cases hs
  | bool _ => cases hs
  | int _ => cases hs
  | str _ => cases hs
  | dict _ => cases hs
def rng1 : List PyData → Option (List PyData)
  | [.int j] => if -(2 ^ 62) ≤ j ∧ j < 2 ^ 62 then some ((List.range j.toNat).map fun (i : Nat) => PyData.int (0 + i)) else none
  | _ => none
def rng2 : List PyData → Option (List PyData)
  | [.int i, .int j] => if -(2 ^ 62) ≤ i ∧ i < 2 ^ 62 ∧ -(2 ^ 62) ≤ j ∧ j < 2 ^ 62 then some ((List.range (j - i).toNat).map fun (k : Nat) => PyData.int (i + k)) else none
  | _ => none
def iRng (f : List PyData → Option (List PyData)) (a : Mo (List Vl)) : Mo (List PyData) := Mo.bnd a fun rs => Mo.bnd (peeks rs) fun ds => Mo.lift (f ds)
theorem pdi_range1 {it : Expr} {ar : Mo (List Vl)} (h : PI X tg it (iRng1 (tA X.K B W ar))) : PI X tg it (tI X.K B W (iRng rng1 ar)) := by
  refine h.imp fun σ H R ⟨e, t, val, s, h⟩ => ?_
  refine ⟨e, t, val, s, (Fin.bnd h).imp fun r e1 _ h1 vs H1 t1 val1 ag1 s1 at1 => ?_⟩
  obtain ⟨d, e2, p, h2⟩ := Fin.peeks (Fin.bnd h1)
  obtain ⟨rfl, k1⟩ := peeks_ok s1 at1.weak p
  obtain ⟨ds, hs, h3⟩ := Fin.lift h2
  unfold rng1 at hs
  split at hs
  · rename_i j
    obtain ⟨hb, rfl⟩ := ite_some hs
    cases vs with
    | nil => cases k1
    | cons v vs =>
      obtain ⟨d, es, e3, q1, q2⟩ := k1
      cases e3
      cases vs with
      | cons v vs => obtain ⟨_, _, e4, _⟩ := q2; cases e4
      | nil =>
        obtain rfl := q1.int
        exact ⟨j, rfl, hb.1, hb.2, h3 _ _ _ _ [] [] (ag_n s1 ag1) s1 rfl itOk_range⟩
  · cases hs
theorem pdi_range2 {it : Expr} {ar : Mo (List Vl)} (h : PI X tg it (iRng2 (tA X.K B W ar))) : PI X tg it (tI X.K B W (iRng rng2 ar)) := by
  refine h.imp fun σ H R ⟨e, t, val, s, h⟩ => ?_
  refine ⟨e, t, val, s, (Fin.bnd h).imp fun r e1 _ h1 vs H1 t1 val1 ag1 s1 at1 => ?_⟩
  obtain ⟨d, e2, p, h2⟩ := Fin.peeks (Fin.bnd h1)
  obtain ⟨rfl, k1⟩ := peeks_ok s1 at1.weak p
  obtain ⟨ds, hs, h3⟩ := Fin.lift h2
  unfold rng2 at hs
  split at hs
  · rename_i i j
    obtain ⟨hb, rfl⟩ := ite_some hs
    cases vs with
    | nil => cases k1
    | cons v vs =>
      obtain ⟨d, es, e3, q1, q2⟩ := k1
      cases e3
      cases vs with
      | nil => cases q2
      | cons v vs =>
        obtain ⟨d, es, e3, q3, q4⟩ := q2
        cases e3
        cases vs with
        | cons v vs => obtain ⟨_, _, e4, _⟩ := q4; cases e4
        | nil =>
          obtain rfl := q1.int
          obtain rfl := q3.int
          exact ⟨i, j, rfl, hb, h3 _ _ _ _ [] [] (ag_n s1 ag1) s1 rfl itOk_range⟩
  · cases hs
def zip2 : List PyData → Option (List PyData)
  | [.list xs, .list ys] => some (pairs xs ys)
  | [.tuple xs, .tuple ys] => some (pairs xs ys)
  | _ => none
def iZips (f : List PyData → Option (List PyData)) (a : Mo (List Vl)) : Mo (List PyData) := Mo.bnd a fun rs => Mo.bnd (freezes rs) fun ds => Mo.lift (f ds)
theorem pdi_zip {it : Expr} {ar : Mo (List Vl)} (h : PI X tg it (iZipA X.K (tA X.K B W ar))) : PI X tg it (tI X.K B W (iZips zip2 ar)) := by
  refine h.imp fun σ H R ⟨e, t, val, s, h⟩ => ?_
  refine ⟨e, t, val, s, (Fin.bnd h).imp fun r e1 _ h1 vs H1 t1 val1 ag1 s1 at1 => ?_⟩
  obtain ⟨d, e2, p, h2⟩ := Fin.freezes (Fin.bnd h1)
  obtain ⟨t1', l1, l2, s2, _, hd⟩ := freezes_ok s1 at1.weak p
  obtain ⟨ds, hs, h3⟩ := Fin.lift h2
  obtain ⟨val', ag, s3, tm⟩ := s2.pushAll hd
  have ag2 : Ag (B.n + t.length) val val' := Ag.trans (by simp) (ag_n s1 ag1) ag
  rw [List.append_assoc] at s3 tm
  unfold zip2 at hs
  split at hs
  · cases hs
    cases hd with
    | cons g1 hd =>
      cases hd with
      | cons g2 hd =>
        cases hd
        cases g1 with
        | lst a1 a2 =>
          cases g2 with
          | lst b1 b2 => exact ⟨_, _, _, _, rfl, .inl ⟨SqL.mono minus_sub a1, SqL.mono minus_sub b1, h3 _ _ _ _ _ _ ag2 s3 tm itOk_zipL⟩⟩
  · cases hs
    cases hd with
    | cons g1 hd =>
      cases hd with
      | cons g2 hd =>
        cases hd
        cases g1 with
        | tup a1 a2 =>
          cases g2 with
          | tup b1 b2 => exact ⟨_, _, _, _, rfl, .inr ⟨SqT.mono minus_sub a1, SqT.mono minus_sub b1, h3 _ _ _ _ _ _ ag2 s3 tm itOk_zipT⟩⟩
  · cases hs
/-! ### for -/
def forM (bind : Bd) (body : Mo Fl) : List PyData → Mo Fl
  | [] => Mo.ret .nx
  | x :: xs => Mo.bnd (bind x) fun _ => Mo.bnd body fun fl => match fl with
    | .nx => forM bind body xs
    | .ct => forM bind body xs
    | .bk => Mo.ret .nx
    | .rt w => Mo.ret (.rt w)
def sFor (it : Mo (List PyData)) (bind : Bd) (body : Mo Fl) : Mo Fl := Mo.bnd it fun xs => forM bind body xs
theorem SM.gextG {K : PySem.W.Frag} {σ : St} {e : En} {t : List Md} {val : Nat → V} {H H' : Hp} (s : SM K B σ e t val H) (g : Same H H') : Same (gext (Gh B.Z (e ++ t) val H) H H') (Gh B.Z (e ++ t) val H') := fun a o q => by
  unfold gext at q
  cases e1 : H a with
  | some u =>
    rw [e1] at q
    obtain ⟨h1, h2⟩ := minus_some.mp q
    exact minus_some.mpr ⟨h1, g _ _ h2⟩
  | none =>
    rw [e1] at q
    refine minus_some.mpr ⟨?_, q⟩
    rintro (z | z)
    · obtain ⟨vs, z⟩ := s.sm.own_some z; rw [e1] at z; cases z
    · exact s.sm.zok _ z e1
theorem drop_cons {ds : List PyData} {i : Nat} {d : PyData} (h : ds[i]? = some d) : ds.drop i = d :: ds.drop (i + 1) := by
  have hi := (List.getElem?_eq_some_iff.mp h).1
  rw [List.drop_eq_getElem_cons hi]
  have := (List.getElem?_eq_some_iff.mp h).2
  rw [this]
theorem for_imp {K : PySem.W.Frag} {it : Mo (List PyData)} {bind : Bd} {body : Mo Fl} {ix : List Nat} : ∀ D σ H, tS K B W (sFor it bind body) D σ H → tFor (tI K B W it) (tG K B W ix bind) (tS K B W body) D σ H := by
  rintro D σ H ⟨e, t, val, s, h⟩
  refine ⟨e, t, val, s, (Fin.bnd h).imp fun ds e1 _ h1 J H1 t1 val1 us sd ag1 s1 tm1 ok => ?_⟩
  refine ⟨fun i m σ2 H2 => m = ds.length - i ∧ i ≤ ds.length ∧ ∃ e2 val2, SM K B σ2 e2 (t ++ t1) val2 H2 ∧ AgT B.n (B.n + (t ++ t1).length) val1 val2 ∧ Fin K B W t val (forM bind body (ds.drop i) e2) (FlC K B t val D),
    ⟨ds.length, by simp, Nat.zero_le _, e1, val1, s1, fun _ _ _ => rfl, by simpa using h1⟩, ?_⟩
  rintro i m σ2 H2 ⟨rfl, hi, e2, val2, s2, ag2, h2⟩
  have tm2 := tm1.ag ag2
  have agv : AgT B.n (B.n + t.length) val val2 := (ag1.T (m := B.n)).trans ag2 (by simp)
  obtain ⟨turn, stop⟩ := ok _ _ minus_sub (tm2.dp s2)
  by_cases hlt : i < ds.length
  · have hd : ds[i]? = some ds[i] := List.getElem?_eq_getElem hlt
    obtain ⟨go, step⟩ := turn i _ hd
    refine .inr ⟨go, fun σ3 H3 => i + 1 ≤ ds.length ∧ ∃ e3 val3, SM K B σ3 e3 (t ++ t1) val3 H3 ∧ AgT B.n (B.n + (t ++ t1).length) val1 val3 ∧ Fin K B W t val (forM bind body (ds.drop (i + 1)) e3) (FlC K B t val D), fun σ3 H3 ⟨g1, e3, val3, g2, g3, g4⟩ => ⟨ds.length - (i + 1), by omega, rfl, g1, e3, val3, g2, g3, g4⟩, fun x H' hy => ?_⟩
    obtain ⟨sg, hx⟩ := step x H' hy
    have s3 := s2.grow sg
    rw [drop_cons hd] at h2
    refine ⟨e2, t ++ t1, val2, ds[i], s3, Dp.mono (s2.gextG sg) _ _ hx, (Fin.extT (Fin.bnd h2) agv).imp fun _ e4 _ h4 σ4 H4 val4 ag4 _ s4 => ?_⟩
    refine ⟨e4, t ++ t1, val4, s4, ?_⟩
    have agv4 : AgT B.n (B.n + t.length) val val4 := agv.trans ag4 (by simp)
    refine (Fin.extT (Fin.bnd h4) agv4).imp fun fl e5 _ h5 => ?_
    cases fl with
    | nx => exact fun σ5 H5 val5 ag5 s5 => ⟨hlt, e5, val5, s5, (ag2.trans ag4 (Nat.le_refl _)).trans ag5 (Nat.le_refl _), h5⟩
    | ct => exact fun σ5 H5 val5 ag5 s5 => ⟨hlt, e5, val5, s5, (ag2.trans ag4 (Nat.le_refl _)).trans ag5 (Nat.le_refl _), h5⟩
    | bk => exact fun σ5 H5 val5 ag5 s5 => h5 σ5 H5 val5 (agv4.trans ag5 (by simp)) s5.drop
    | rt w => exact fun v σ5 H5 t5 val5 ag5 s5 at5 => h5 v σ5 H5 (t1 ++ t5) val5 (agv4.trans ag5 (by simp)) (by rw [← List.append_assoc]; exact s5) (by rw [← List.append_assoc]; exact at5.low (by simp))
  · have e6 : i = ds.length := by omega
    subst e6
    refine .inl ⟨stop, ?_⟩
    rw [List.drop_length] at h2
    exact h2 σ2 H2 val2 agv s2.drop
theorem pds_for {iter : Expr} {body : List Stmt} {it : Mo (List PyData)} {bind : Bd} {bd : Mo Fl} {ix : List Nat} (hp : PassesOwn (model X.prog X.w) X.A X.env X.xe) (hc : X.calm = true) (hi : PI X tg iter (tI X.K B W it)) (hg : PG X tg (tG X.K B W ix bind)) (hb : PSs X body (tS X.K B W bd))
    (hs : ∀ x, foldedSetIterable iter X.env x = pure x := by intro _; rfl) : PS X (.For tg iter body [] pos) (tS X.K B W (sFor it bind bd)) := (ps_for hp hc hi hg hb hs).imp for_imp
/-! ### while: fuel by the state at the start -/
def whileM (c : Mo Bool) (body : Mo Fl) : Nat → Mo Fl
  | 0 => Mo.lift none
  | n + 1 => Mo.bnd c fun k => if k = true then Mo.bnd body fun fl => match fl with
      | .nx => whileM c body n
      | .ct => whileM c body n
      | .bk => Mo.ret .nx
      | .rt w => Mo.ret (.rt w)
    else Mo.ret .nx
def sWhile (N : En → Nat) (c : Mo Bool) (body : Mo Fl) : Mo Fl := fun e => whileM c body (N e) e
theorem while_imp {K : PySem.W.Frag} {N : En → Nat} {c : Mo Bool} {body : Mo Fl} : ∀ D σ H, tS K B W (sWhile N c body) D σ H → tWhile (tT K B W c) (tS K B W body) D σ H := by
  rintro D σ H ⟨e, t, val, s, h⟩
  refine ⟨fun m σ2 H2 => ∃ e2 val2, SM K B σ2 e2 t val2 H2 ∧ AgT B.n (B.n + t.length) val val2 ∧ Fin K B W t val (whileM c body m e2) (FlC K B t val D), ⟨N e, e, val, s, fun _ _ _ => rfl, h⟩, ?_⟩
  rintro m σ2 H2 ⟨e2, val2, s2, ag2, h2⟩
  cases m with
  | zero => exact h2.elim
  | succ m =>
    refine ⟨e2, t, val2, s2, (Fin.same (Fin.bnd h2) ag2).imp fun k e3 _ h3 H3 t3 val3 ag3 s3 => ?_⟩
    have agv : AgT B.n (B.n + t.length) val val3 := ag2.trans (by rw [s3.ln] at ag3; exact ag3.T) (Nat.le_refl _)
    cases k with
    | false => exact iteF (h3 σ2 H3 val3 agv s3.drop)
    | true =>
      refine iteT ⟨fun σ4 H4 => ∃ e4 val4, SM K B σ4 e4 t val4 H4 ∧ AgT B.n (B.n + t.length) val val4 ∧ Fin K B W t val (whileM c body m e4) (FlC K B t val D), fun σ4 H4 q => ⟨m, Nat.lt_succ_self _, q⟩, ?_⟩
      refine ⟨e3, t ++ t3, val3, s3, (Fin.extT (Fin.bnd h3) agv).imp fun fl e5 _ h5 => ?_⟩
      cases fl with
      | nx => exact fun σ5 H5 val5 ag5 s5 => ⟨e5, val5, s5.drop, agv.trans ag5 (by simp), h5⟩
      | ct => exact fun σ5 H5 val5 ag5 s5 => ⟨e5, val5, s5.drop, agv.trans ag5 (by simp), h5⟩
      | bk => exact fun σ5 H5 val5 ag5 s5 => h5 σ5 H5 val5 (agv.trans ag5 (by simp)) s5.drop
      | rt w => exact fun v σ5 H5 t5 val5 ag5 s5 at5 => h5 v σ5 H5 (t3 ++ t5) val5 (agv.trans ag5 (by simp)) (by rw [← List.append_assoc]; exact s5) (by rw [← List.append_assoc]; exact at5.low (by simp))
theorem pds_while {N : En → Nat} {c : Expr} {body : List Stmt} {cc : Mo Bool} {bd : Mo Fl} (hp : PassesOwn (model X.prog X.w) X.A X.env X.xe) (hc : PT X c (tT X.K B W cc)) (hb : PSs X body (tS X.K B W bd)) : PS X (.While c body [] pos) (tS X.K B W (sWhile N cc bd)) := (ps_while hp hc hb).imp while_imp
end
end L2.DL

namespace L2.DL
open PySem PySem.Spec PyProof.Rows RZ
/-! ### comprehensions -/
def wipeE (e : En) : List Nat → En
  | [] => e
  | v :: vs => (wipeE e vs).set v .un
def wipeM (vs : List Nat) : Mo Unit := fun e => some (.ok () (wipeE e vs))
def noexc {α : Type} (m : Mo α) : Mo α := fun e => match m e with
  | some (.ok a e') => some (.ok a e')
  | _ => none
def lcM (bind : Bd) (cond : Mo Bool) (elt : Mo Vl) (vs : List Nat) : List PyData → List PyData → Mo (List PyData)
  | [], acc => Mo.bnd (wipeM vs) fun _ => Mo.ret acc
  | x :: xs, acc => Mo.bnd (wipeM vs) fun _ => Mo.bnd (noexc (bind x)) fun _ => Mo.bnd (noexc cond) fun k => if k = true then Mo.bnd (noexc elt) fun r => Mo.bnd (freeze r) fun d => lcM bind cond elt vs xs (acc ++ [d]) else lcM bind cond elt vs xs acc
def eLc (it : Mo (List PyData)) (bind : Bd) (cond : Mo Bool) (elt : Mo Vl) (vs : List Nat) : Mo Vl := Mo.bnd it fun ds => Mo.bnd (Mo.lift (if ds.length < 16777216 then some () else none)) fun _ => Mo.bnd (lcM bind cond elt vs ds []) fun out => Mo.ret (.fr out)
def cYes : Mo Bool := Mo.ret true
theorem wipeE_length (e : En) : ∀ vs, (wipeE e vs).length = e.length
  | [] => rfl
  | v :: vs => by unfold wipeE; rw [List.length_set, wipeE_length e vs]
theorem wipeE_get {e : En} {i : Nat} {m : Md} : ∀ {vs : List Nat}, (wipeE e vs)[i]? = some m → (i ∈ vs ∧ m = .un) ∨ (i ∉ vs ∧ e[i]? = some m)
  | [], h => .inr ⟨by simp, h⟩
  | v :: vs, h => by
    unfold wipeE at h
    rcases getElem?_set_cases h with ⟨rfl, h, _⟩ | ⟨hne, h⟩
    · exact .inl ⟨by simp, h.symm⟩
    · rcases wipeE_get h with ⟨h1, h2⟩ | ⟨h1, h2⟩
      · exact .inl ⟨by simp [h1], h2⟩
      · exact .inr ⟨by simp [h1, Ne.symm hne], h2⟩
section
variable {K : PySem.W.Frag} {B : Bs} {W : XW} {σ σ' : St} {e e' : En} {t t1 : List Md} {val : Nat → V} {H H' : Hp}
theorem SM.wipeTo {σ5 : St} {e6 : En} {T : List Md} {val6 val' : Nat → V} (s : SM K B σ5 e6 T val6 H) (vs : List Nat) (hl : σ.length = B.n) (only : ∀ j, j ∉ vs → σ5[j]? = σ[j]?) (sv : ∀ i v, σ[i]? = some (some v) → val' i = v)
    (mp : ∀ i ∈ B.mp, val' i = B.pv i) (hi : ∀ j, B.n ≤ j → val' j = val6 j) : SM K B σ (wipeE e6 vs) T val' H ∧ Same (Gh B.Z (e6 ++ T) val6 H) (Gh B.Z (wipeE e6 vs ++ T) val' H) := by
  have hl2 := wipeE_length e6 vs
  have hln := s.ln
  have key : ∀ p m, (wipeE e6 vs)[p]? = some m → m ≠ .un → p ∉ vs ∧ e6[p]? = some m ∧ val' p = val6 p := fun p m hp hm => by
    rcases wipeE_get hp with ⟨_, rfl⟩ | ⟨h1, h2⟩
    · exact absurd rfl hm
    · refine ⟨h1, h2, ?_⟩
      have := s.sl p m h2 hm
      rw [only p h1] at this
      exact sv p _ this
  obtain ⟨q1, q2, q3⟩ := s.sm.re (L' := wipeE e6 vs ++ T) (val' := val') id (fun p xs hp => by
      rcases append_cases hp with ⟨hlt, hp⟩ | ⟨hge, hp⟩
      · obtain ⟨_, h2, h3⟩ := key p _ hp (by intro z; cases z)
        exact ⟨by rw [id, List.getElem?_append_left (by omega)]; exact h2, h3⟩
      · rw [hl2] at hge hp
        exact ⟨by rw [id, List.getElem?_append_right hge]; exact hp, hi _ (by omega)⟩) (fun _ _ _ _ _ _ h => h) (fun p y hp => by
      rcases append_cases hp with ⟨hlt, hp⟩ | ⟨hge, hp⟩
      · obtain ⟨_, h2, h3⟩ := key p _ hp (by intro z; cases z)
        rw [h3]
        exact s.at_e h2
      · rw [hl2] at hge hp
        have := s.at_t hp
        rw [Nat.add_sub_cancel' hge] at this
        rw [hi _ (by omega)]
        exact this)
  refine ⟨⟨q1, hl, by rw [hl2]; exact s.ln, fun k m hk' hm => ?_, s.fr, fun a z => s.nw a (q2 a z), mp, fun k hk => by rw [hl2]; exact s.mpl k hk, sv⟩, q3⟩
  obtain ⟨h1, h2, h3⟩ := key k m hk' hm
  rw [h3, ← only k h1]
  exact s.sl k m h2 hm
theorem wipe_get (σ : St) {j : Nat} : ∀ {vs : List Nat}, j ∉ vs → (L2.wipe σ vs)[j]? = σ[j]?
  | [], _ => rfl
  | v :: vs, h => by
    simp only [List.mem_cons, not_or] at h
    unfold L2.wipe
    rw [List.getElem?_set_ne (Ne.symm h.1)]
    exact wipe_get σ h.2
theorem wipe_at (σ : St) {j : Nat} : ∀ {vs : List Nat}, j ∈ vs → j < σ.length → (L2.wipe σ vs)[j]? = some none
  | v :: vs, h, hj => by
    unfold L2.wipe
    by_cases hv : v = j
    · subst hv
      rw [List.getElem?_set]; simp [L2.wipe_length, hj]
    · rw [List.getElem?_set_ne hv]
      rcases List.mem_cons.mp h with h | h
      · exact absurd h.symm hv
      · exact wipe_at σ h hj
theorem wipe_only {vs : List Nat} {σ2 : St} (h : Only vs (L2.wipe σ vs) σ2) (hl : σ2.length = σ.length) : L2.wipe σ2 vs = L2.wipe σ vs := by
  apply List.ext_getElem?
  intro j
  by_cases hv : j ∈ vs
  · by_cases hj : j < σ.length
    · rw [wipe_at σ hv hj, wipe_at σ2 hv (by omega)]
    · rw [List.getElem?_eq_none (by rw [L2.wipe_length]; omega), List.getElem?_eq_none (by rw [L2.wipe_length]; omega)]
  · rw [wipe_get σ2 hv, h j hv]
theorem Fin.noexc {α : Type} {W' : XW} {m : Mo α} {e : En} {C : α → En → Prop} (h : Fin K B W t val (noexc m e) C) : Fin K B W' t val (m e) C := by
  unfold DL.noexc at h
  cases q : m e with
  | none => rw [q] at h; exact h.elim
  | some r =>
    rw [q] at h
    cases r with
    | ok a e' => exact h
    | exc c x e' => exact h.elim
theorem lc_imp {W0 : XW} {it : Mo (List PyData)} {bind : Bd} {cond : Mo Bool} {elt : Mo Vl} {ix vs : List Nat} (hix : ∀ j ∈ ix, j ∈ vs) : ∀ σ H Q, tD K B W (eLc it bind cond elt vs) σ H Q → tLc (tI K B W it) (tG K B W0 ix bind) (tT K B W0 cond) (tD K B W0 elt) vs σ H Q := by
  rintro σ H Q ⟨e, t, val, s, h⟩
  refine ⟨e, t, val, s, (Fin.bnd h).imp fun ds e1 _ h1 J H1 t1 val1 us sd ag1 s1 tm1 ok D hD => ?_⟩
  obtain ⟨_, hz, h1⟩ := Fin.lift (Fin.bnd h1)
  obtain ⟨hz, _⟩ := ite_some hz
  -- the new list
  have sN := s1.pushOwn (xs := []) (vs := []) (Same.updN hD) hD upd_same .nil
  have hl1 := s1.ln
  have base : ∀ j, j < B.n + t.length → val1 j = val j := ag1
  refine ⟨fun i m H2 => m = ds.length - i ∧ i ≤ ds.length ∧ ∃ e2 val2 acc, SM K B σ e2 (t ++ t1 ++ [.own acc]) val2 H2 ∧ Ag (B.n + (t ++ t1).length) val1 val2 ∧ val2 (B.n + (t ++ t1).length) = .ref D ∧ acc.length ≤ i ∧
      Fin K B W t val (lcM bind cond elt vs (ds.drop i) acc e2) fun out e' => Fin K B W t val (Mo.ret (Vl.fr out) e') fun r e' => ∀ v H' t' val', Ag (e'.length + t.length) val val' → SM K B σ e' (t ++ t') val' H' → VlAt e'.length t.length (t ++ t') val' r v → Q v H',
    ⟨ds.length, by simp, Nat.zero_le _, e1, _, [], sN, fun j g => by rw [hl1]; exact setv_lt g, by rw [hl1]; exact setv_same, Nat.le_refl _, by simpa using Fin.bnd h1⟩, ?_⟩
  rintro i m H2 ⟨rfl, hi, e2, val2, acc, s2, ag2, hvD, hacc, h2⟩
  have agn1 : ∀ j, j < B.n + t.length → val2 j = val j := fun j hj => (ag2 j (by simp; omega)).trans (base j hj)
  have agT2 : AgT B.n (B.n + t.length) val val2 := fun j _ hj => agn1 j hj
  have tm2 := (tm1.ag ag2.T).app (t' := [.own acc])
  obtain ⟨turn, stop⟩ := ok _ _ minus_sub (tm2.dp s2)
  by_cases hlt : i < ds.length
  · have hd : ds[i]? = some ds[i] := List.getElem?_eq_getElem hlt
    obtain ⟨go, step⟩ := turn i _ hd
    refine .inr ⟨go, fun H3 => i + 1 ≤ ds.length ∧ ∃ e3 val3 acc3, SM K B σ e3 (t ++ t1 ++ [.own acc3]) val3 H3 ∧ Ag (B.n + (t ++ t1).length) val1 val3 ∧ val3 (B.n + (t ++ t1).length) = .ref D ∧ acc3.length ≤ i + 1 ∧
      Fin K B W t val (lcM bind cond elt vs (ds.drop (i + 1)) acc3 e3) fun out e' => Fin K B W t val (Mo.ret (Vl.fr out) e') fun r e' => ∀ v H' t' val', Ag (e'.length + t.length) val val' → SM K B σ e' (t ++ t') val' H' → VlAt e'.length t.length (t ++ t') val' r v → Q v H',
      fun H3 ⟨g1, e3, val3, acc3, g2, g3, g4, g5, g7⟩ => ⟨ds.length - (i + 1), by omega, rfl, g1, e3, val3, acc3, g2, g3, g4, g5, g7⟩, fun x H' hy => ?_⟩
    obtain ⟨sg, hx⟩ := step x H' hy
    have s3 := s2.grow sg
    rw [drop_cons hd] at h2
    unfold lcM at h2
    have h2 : Fin K B W t val ((noexc (bind ds[i])).bnd _ (wipeE e2 vs)) _ := h2
    have h2 := Fin.bnd h2
    obtain ⟨s4, sg4⟩ := s3.wipeTo (σ := L2.wipe σ vs) (val' := val2) vs (by rw [L2.wipe_length, s2.len]) (fun j hj => (wipe_get σ hj).symm) (fun j v q => s2.sv j v (L2.wipe_some q).1) s2.mp (fun _ _ => rfl)
    refine ⟨wipeE e2 vs, t ++ t1 ++ [.own acc], val2, ds[i], s4, Dp.mono ((s2.gextG sg).trans sg4) _ _ hx, ?_⟩
    have hE : ∀ {α : Type} {val5 : Nat → V} {o : Option (Rs α)} {C}, AgT B.n (B.n + t.length) val val5 → Fin K B W t val o C → Fin K B W (t ++ t1 ++ [.own acc]) val5 o C := fun a h => by
      rw [List.append_assoc]; exact Fin.extT h a
    refine (Fin.noexc (hE agT2 h2)).imp fun _ e5 _ h5 σ5 H5 val5 ag5 o5 s5 => ?_
    refine ⟨wipe_only (fun j hj => o5 j (fun q => hj (hix j q))) (by rw [s5.len, s2.len]), ?_⟩
    have agT5 : AgT B.n (B.n + t.length) val val5 := agT2.trans ag5 (by simp)
    refine ⟨e5, t ++ t1 ++ [.own acc], val5, s5, (Fin.noexc (hE agT5 (Fin.bnd h5))).imp fun k e6 _ h6 H6 t6 val6 ag6 s6 => ?_⟩
    have only6 : ∀ j, j ∉ vs → σ5[j]? = σ[j]? := fun j hj => (o5 j (fun q => hj (hix j q))).trans (wipe_get σ hj)
    have agT6 : AgT B.n (B.n + (t ++ t1 ++ [Md.own acc]).length) val2 val6 := ag5.trans (ag_n s6 ag6).T (Nat.le_refl _)
    -- back to the outer slots
    have leave : ∀ {e7 : En} {t7 : List Md} {val7 : Nat → V} {H7 : Hp} {acc7 : List PyData}, SM K B σ5 e7 (t ++ t1 ++ [.own acc7]) val7 H7 → AgT B.n (B.n + (t ++ t1 ++ [Md.own acc]).length) val2 val7 →
        ∃ val8, SM K B σ (wipeE e7 vs) (t ++ t1 ++ [.own acc7]) val8 H7 ∧ Ag (B.n + (t ++ t1).length) val1 val8 ∧ val8 (B.n + (t ++ t1).length) = .ref D := fun {e7 t7 val7 H7 acc7} s7 ag7 => by
      refine ⟨fun j => if j < B.n then val2 j else val7 j, (s7.wipeTo (σ := σ) vs s2.len only6 (fun j v q => ?_) (fun j hj => ?_) (fun j hj => if_neg (by omega))).1, fun j hj => ?_, ?_⟩
      · have h1 := (List.getElem?_eq_some_iff.mp q).1
        rw [s2.len] at h1
        show (if j < B.n then val2 j else val7 j) = v
        rw [if_pos h1]; exact s2.sv j v q
      · show (if j < B.n then val2 j else val7 j) = _
        rw [if_pos (by have := s2.mpl j hj; rw [s2.ln] at this; exact this)]; exact s2.mp j hj
      · show (if j < B.n then val2 j else val7 j) = _
        by_cases hb : j < B.n
        · rw [if_pos hb]; exact ag2 j hj
        · rw [if_neg hb, ag7 j (by omega) (by simp at hj ⊢; omega)]; exact ag2 j hj
      · show (if B.n + (t ++ t1).length < B.n then _ else val7 _) = _
        rw [if_neg (by omega), ag7 _ (by omega) (by simp)]; exact hvD
    -- the rest does not hang on where it starts but for the wiped names
    have again : ∀ {e7 : En} {acc7 : List PyData} {C}, Fin K B W t val (lcM bind cond elt vs (ds.drop (i + 1)) acc7 e7) C → Fin K B W t val (lcM bind cond elt vs (ds.drop (i + 1)) acc7 (wipeE e7 vs)) C := fun {e7 acc7 C} h => by
      have ww : wipeE (wipeE e7 vs) vs = wipeE e7 vs := by
        apply List.ext_getElem?
        intro j
        cases q : (wipeE e7 vs)[j]? with
        | none =>
          have := List.getElem?_eq_none_iff.mp q
          exact List.getElem?_eq_none (by rw [wipeE_length]; exact this)
        | some m =>
          have hj := (List.getElem?_eq_some_iff.mp q).1
          cases q2 : (wipeE (wipeE e7 vs) vs)[j]? with
          | none => have := List.getElem?_eq_none_iff.mp q2; rw [wipeE_length] at this; omega
          | some m2 =>
            rcases wipeE_get q2 with ⟨h1, rfl⟩ | ⟨h1, h2⟩
            · rcases wipeE_get q with ⟨_, rfl⟩ | ⟨h3, _⟩
              · rfl
              · exact absurd h1 h3
            · rw [q] at h2; exact h2.symm
      cases hds : ds.drop (i + 1) with
      | nil =>
        rw [hds] at h
        unfold lcM at h ⊢
        unfold Mo.bnd wipeM at h ⊢
        simp only [ww] at h ⊢
        exact h
      | cons d' r' =>
        rw [hds] at h
        unfold lcM at h ⊢
        unfold Mo.bnd wipeM at h ⊢
        simp only [ww] at h ⊢
        exact h
    cases k with
    | false =>
      refine iteF ?_
      obtain ⟨val8, s8, a8, d8⟩ := leave (t7 := []) s6.drop agT6
      exact ⟨hlt, _, val8, acc, s8, a8, d8, by omega, again h6⟩
    | true =>
      refine iteT ?_
      have agT6' : AgT B.n (B.n + t.length) val val6 := agT2.trans agT6 (by simp)
      refine ⟨e6, t ++ t1 ++ [.own acc] ++ t6, val6, s6, (Fin.noexc (Fin.extT (t1 := t6) (val1 := val6) (hE agT5 (Fin.bnd h6)) (ag_n s6 ag6).T)).imp fun r e7 _ h7 y H7 t7 val7 ag7 s7 at7 => ?_⟩
      obtain ⟨d, e8, p8, h8⟩ := Fin.freeze (Fin.bnd h7)
      have at7' := at7.weak
      obtain ⟨t7', l7, l8, s8, sg8, hd8, _⟩ := freeze_ok s7 at7' p8
      have agT7 : AgT B.n (B.n + (t ++ t1 ++ [Md.own acc]).length) val2 val7 := agT6.trans (ag_n s7 ag7).T (by simp)
      have ownD : (t ++ t1 ++ [Md.own acc] ++ t6 ++ t7')[(t ++ t1).length]? = some (.own acc) := by
        rw [List.append_assoc, List.append_assoc (t ++ t1), List.getElem?_append_right (Nat.le_refl _)]
        simp
      have vD : val7 (B.n + (t ++ t1).length) = .ref D := by rw [agT7 _ (by omega) (by simp)]; exact hvD
      have entD := s8.at_t ownD
      rw [s8.ln, vD] at entD
      obtain ⟨a, vs8, ea, hH8, hds8⟩ := entD
      cases ea
      refine ⟨vs8, hH8, by rw [hds8.length, sizeLine_eq]; omega, ?_⟩
      have s9 := s8.wrT (H' := upd H7 D (.lst (vs8 ++ [y]))) (ys := acc ++ [d]) (vs := vs8 ++ [y]) ownD vD (fun b o hb q => by rw [upd_ne hb]; exact q) upd_same (by
        have hO : Own (e8 ++ (t ++ t1 ++ [Md.own acc] ++ t6 ++ t7')) val7 D := ⟨B.n + (t ++ t1).length, acc, by rw [List.getElem?_append_right (by rw [s8.ln]; omega), s8.ln, Nat.add_sub_cancel_left]; exact ownD, vD⟩
        have sg9 : Same (Gh B.Z (e8 ++ (t ++ t1 ++ [Md.own acc] ++ t6 ++ t7')) val7 H7) (minus (upd H7 D (.lst (vs8 ++ [y]))) fun b => Own (e8 ++ (t ++ t1 ++ [Md.own acc] ++ t6 ++ t7')) val7 b ∨ B.Z b) := minus_mono fun b o h1 h2 => ⟨h1, by
          rw [upd_ne (fun z => h1 (.inl (by rw [z]; exact hO)))]; exact h2⟩
        exact DpAll.mono sg9 _ _ (hds8.append (.cons hd8 .nil)))
      have hset : (t ++ t1 ++ [Md.own acc] ++ t6 ++ t7').set (t ++ t1).length (.own (acc ++ [d])) = t ++ t1 ++ [Md.own (acc ++ [d])] ++ (t6 ++ t7') := by
        rw [List.append_assoc, List.append_assoc (t ++ t1), List.set_append_right _ _ (Nat.le_refl _)]
        simp
      rw [hset] at s9
      obtain ⟨val8, s10, a8, d8⟩ := leave (t7 := []) s9.drop agT7
      exact ⟨hlt, _, val8, acc ++ [d], s10, a8, d8, by simp; omega, again h8⟩
  · have e6 : i = ds.length := by omega
    subst e6
    refine .inl ⟨stop, ?_⟩
    rw [List.drop_length] at h2
    unfold lcM at h2
    have h3 : ∀ v H' t' val', Ag ((wipeE e2 vs).length + t.length) val val' → SM K B σ (wipeE e2 vs) (t ++ t') val' H' → VlAt (wipeE e2 vs).length t.length (t ++ t') val' (.fr acc) v → Q v H' := h2
    obtain ⟨s4, _⟩ := s2.wipeTo (σ := σ) (val' := val2) vs s2.len (fun _ _ => rfl) s2.sv s2.mp (fun _ _ => rfl)
    refine h3 _ _ (t1 ++ [.own acc]) val2 (by rw [s4.ln]; exact agn1) (by rw [← List.append_assoc]; exact s4) ⟨(t ++ t1).length, by simp, by rw [← List.append_assoc]; simp, by rw [s4.ln]; exact hvD⟩
end
section
variable {X : Cx} {B : Bs} {W : XW} {pos : Pos}
theorem pdts_nil : PTs X [] (tT X.K B W cYes) := ⟨fun pins s σ H Q I ⟨e, t, val, sm, h⟩ => pts_nil.run pins s σ H Q I (h H [] val Ag.refl (by rw [List.append_nil]; exact sm))⟩
theorem pdts_one {c : Expr} {cc : Mo Bool} (h : PT X c (tT X.K B W cc)) : PTs X [c] (tT X.K B W cc) := pts_one h
abbrev W0 : XW := fun _ _ _ _ => False
end
end L2.DL

namespace L2.DL
open PySem PySem.Spec PyProof.Rows RZ
inductive FR where
  | ret (w : Vl)
  | exc (c : Str) (x : PyData)
abbrev XCl := Str → Addr → Prop
/-- the promise of a def that changes nothing: F is its mirror -/
def spP (K : PySem.W.Frag) (XC : XCl) (n : Nat) (F : List PyData → Option FR) : Sp := fun vs H Q E => ∃ G ds, Same G H ∧ DpAll K G vs ds ∧ ds.length = n ∧ match F ds with
  | none => False
  | some (.ret w) => ∀ v H', Res K G H w v H' → Q v H'
  | some (.exc c x) => ∀ C d v H', XC c C → Same H H' → H' d = some (.xd [("value", v)]) → Dp K (gext G H H') v x → E (.ref C) (some d) H'
def callF (F : List PyData → Option FR) (ds : List PyData) : Mo Vl := fun e => match F ds with
  | none => none
  | some (.ret w) => some (.ok w e)
  | some (.exc c x) => some (.exc c x e)
def eFn (n : Nat) (F : List PyData → Option FR) (a : Mo (List Vl)) : Mo Vl := Mo.bnd a fun rs => Mo.bnd (freezes rs) fun ds => Mo.bnd (Mo.lift (if ds.length = n then some () else none)) fun _ => callF F ds
/-- the promise of a def that may change the list in its first argument; it raises nothing -/
abbrev FM := List PyData → List PyData → Option (PyData × List PyData)
def spM (K : PySem.W.Frag) (n : Nat) (F : FM) : Sp := fun vs H Q _ => ∃ G a us vs0 xs ds, vs = .ref a :: us ∧ Same G H ∧ G a = none ∧ H a = some (.lst vs0) ∧ DpAll K G vs0 xs ∧ DpAll K G us ds ∧ ds.length = n ∧ match F xs ds with
  | none => False
  | some (z, ys) => ∀ v H' vs1, (∀ b o, b ≠ a → H b = some o → H' b = some o) → H' a = some (.lst vs1) → DpAll K (gext G H H') vs1 ys → Dp K (gext G H H') v z → Q v H'
def callM (F : FM) (r0 : Vl) (ds : List PyData) : Mo Vl := fun e => match r0 with
  | .pk j => match e[j]? with
    | some (.own xs) => match F xs ds with
      | none => none
      | some (z, ys) => some (.ok (.d z) (e.set j (.own ys)))
    | _ => none
  | _ => none
def eFnM (n : Nat) (F : FM) (a : Mo (List Vl)) : Mo Vl := Mo.bnd a fun rs => match rs with
  | [] => Mo.lift none
  | r0 :: rs => Mo.bnd (freezes rs) fun ds => Mo.bnd (Mo.lift (if ds.length = n then some () else none)) fun _ => callM F r0 ds
section
variable {X : Cx} {B : Bs} {W : XW} {K : PySem.W.Frag} {XC : XCl} {E : XK}
theorem fn_core {σ : St} {t t1 : List Md} {val val1 : Nat → V} {e1 e2 : En} {H1 : Hp} {n : Nat} {F : List PyData → Option FR} {vs : List V} {ds : List PyData} {Q : VK} (hE : ∀ c C d σ H, XC c C → W c d σ H → E (.ref C) (some d) H)
    (ag1 : Ag (e1.length + t.length) val val1) (s1 : SM K B σ e2 (t ++ t1) val1 H1) (l2 : e2.length = e1.length) (hd : DpAll K (Gh B.Z (e2 ++ (t ++ t1)) val1 H1) vs ds) (hn : ds.length = n)
    (h : Fin K B W t val (callF F ds e2) (Got K B σ t val Q)) : spP K XC n F vs H1 Q E := by
  refine ⟨_, ds, minus_sub, hd, hn, ?_⟩
  unfold callF at h
  cases q : F ds with
  | none => rw [q] at h; exact h.elim
  | some r =>
    rw [q] at h
    cases r with
    | ret w => exact fun v H' res => (Got.back (e := e2) h (by rw [l2]; exact ag1) s1).res s1 res
    | exc c x =>
      intro C d v H' hC hs hd' hv
      refine hE c C d σ H' hC (h σ H' d v t1 val1 ?_ (s1.grow hs) hd' (Dp.mono (s1.gextG hs) _ _ hv))
      have := s1.ln
      rw [← l2, this] at ag1
      exact ag1.T
theorem fn_imp {n : Nat} {F : List PyData → Option FR} {fr : Mo (List Vl)} (hE : ∀ c C d σ H, XC c C → W c d σ H → E (.ref C) (some d) H) : ∀ σ H Q, tD K B W (eFn n F fr) σ H Q → tCall (spP K XC n F) [] E (tA K B W fr) σ H Q := by
  rintro σ H Q ⟨e, t, val, s, h⟩
  refine ⟨e, t, val, s, (Fin.bnd h).imp fun rs e1 _ h1 vs H1 t1 val1 ag1 s1 at1 => ?_⟩
  obtain ⟨ds, e2, p, h2⟩ := Fin.freezes (Fin.bnd h1)
  obtain ⟨t1', l1, l2, s2, _, hd⟩ := freezes_ok s1 at1.weak p
  obtain ⟨_, hn, h3⟩ := Fin.lift (Fin.bnd h2)
  obtain ⟨hn, _⟩ := ite_some hn
  rw [List.append_nil]
  exact fn_core hE ag1 s2 l2 hd hn h3
theorem pd_fn {n : Nat} {F : List PyData → Option FR} {fr : Mo (List Vl)} {e0 : Expr} (h : PE X e0 (tCall (spP X.K XC n F) [] E (tA X.K B W fr))) (hE : ∀ c C d σ H, XC c C → W c d σ H → E (.ref C) (some d) H) : PE X e0 (tD X.K B W (eFn n F fr)) := h.imp (fn_imp hE)
theorem gext_mono {G G' H H' : Hp} (s : Same G G') : Same (gext G H H') (gext G' H H') := fun a o q => by
  unfold gext at q ⊢
  cases e : H a with
  | some u => rw [e] at q; exact s a o q
  | none => rw [e] at q; exact q
theorem Fin.callM {t : List Md} {val : Nat → V} {F : FM} {j : Nat} {ds : List PyData} {e : En} {C : Vl → En → Prop} (h : Fin K B W t val (callM F (.pk j) ds e) C) : ∃ xs z ys, e[j]? = some (.own xs) ∧ F xs ds = some (z, ys) ∧ C (.d z) (e.set j (.own ys)) := by
  unfold DL.callM at h
  cases q : e[j]? with
  | none => simp only [q] at h; exact h.elim
  | some md =>
    simp only [q] at h
    cases md with
    | un => exact h.elim
    | d _ => exact h.elim
    | own xs =>
      simp only at h
      cases q2 : F xs ds with
      | none => simp only [q2] at h; exact h.elim
      | some r =>
        obtain ⟨z, ys⟩ := r
        simp only [q2] at h
        exact ⟨xs, z, ys, rfl, q2, h⟩
theorem fnM_imp {n : Nat} {F : FM} {fr : Mo (List Vl)} : ∀ σ H Q, tD K B W (eFnM n F fr) σ H Q → tCall (spM K n F) [] E (tA K B W fr) σ H Q := by
  rintro σ H Q ⟨e, t, val, s, h⟩
  refine ⟨e, t, val, s, (Fin.bnd h).imp fun rs e1 _ h1 vs H1 t1 val1 ag1 s1 at1 => ?_⟩
  cases rs with
  | nil => exact h1.elim
  | cons r0 rs =>
    obtain ⟨v0, us, m, rfl, hm, hm', at0, at1⟩ := at1
    obtain ⟨ds, e2, p, h2⟩ := Fin.freezes (Fin.bnd h1)
    obtain ⟨t1', l1, l2, s2, _, hd⟩ := freezes_ok s1 (VlWs.low hm at1.weak) p
    obtain ⟨_, hn, h3⟩ := Fin.lift (Fin.bnd h2)
    obtain ⟨hn, _⟩ := ite_some hn
    rw [List.append_nil]
    cases r0 with
    | d _ => exact h3.elim
    | fr _ => exact h3.elim
    | pk j =>
      obtain ⟨hj, rfl⟩ := at0
      obtain ⟨xs, z, ys, q, q2, h4⟩ := Fin.callM h3
      obtain ⟨a, vs0, ea, hH, hxs⟩ := s2.at_e q
      have hjl := (List.getElem?_eq_some_iff.mp q).1
      have q' : (e2 ++ (t ++ t1'))[j]? = some (.own xs) := by rw [List.getElem?_append_left hjl]; exact q
      have oa : Own (e2 ++ (t ++ t1')) val1 a := ⟨j, xs, q', ea⟩
      have agE : Ag (B.n + t.length) val val1 := by rw [← l2, s2.ln] at ag1; exact ag1
      refine ⟨_, a, us, vs0, xs, ds, by rw [ea], minus_sub, by unfold minus; rw [if_pos (.inl oa)], hH, hxs, hd, hn, ?_⟩
      rw [q2]
      intro v H' vs1 fr hH' hys hz
      have after : Same (gext (Gh B.Z (e2 ++ (t ++ t1')) val1 H1) H1 H') (minus H' fun b => Own (e2 ++ (t ++ t1')) val1 b ∨ B.Z b) := fun b o hb => by
        unfold gext at hb
        cases e9 : H1 b with
        | some u =>
          rw [e9] at hb
          obtain ⟨g1, g2⟩ := minus_some.mp hb
          exact minus_some.mpr ⟨g1, fr b o (fun z => g1 (.inl (by rw [z]; exact oa))) g2⟩
        | none =>
          rw [e9] at hb
          refine minus_some.mpr ⟨?_, hb⟩
          rintro (z | z)
          · obtain ⟨_, z⟩ := s2.sm.own_some z; rw [e9] at z; cases z
          · exact s2.sm.zok _ z e9
      have s3 := s2.wrE q ea fr hH' (DpAll.mono after _ _ hys)
      have hOwn : ∀ b, Own (e2.set j (.own ys) ++ (t ++ t1')) val1 b → Own (e2 ++ (t ++ t1')) val1 b := fun b hb => by
        rw [← List.set_append_left _ _ hjl] at hb
        exact (Own.set_own q').mp hb
      have s4 := s3.pushD (v := v) (x := z) (Dp.mono (after.trans (minus_mono fun b o g1 g2 => ⟨fun z => g1 (z.imp (hOwn b) id), g2⟩)) _ _ hz)
      refine h4 v H' (t1' ++ [.d z]) _ (fun i hi => ?_) (by rw [← List.append_assoc]; exact s4) ⟨(t ++ t1').length, by simp, by rw [← List.append_assoc]; simp, setv_same⟩
      rw [List.length_set, s2.ln] at hi
      rw [setv_lt (by rw [List.length_set, s2.ln]; simp; omega)]
      exact agE i hi
theorem pd_fnM {n : Nat} {F : FM} {fr : Mo (List Vl)} {e0 : Expr} (h : PE X e0 (tCall (spM X.K n F) [] E (tA X.K B W fr))) : PE X e0 (tD X.K B W (eFnM n F fr)) := h.imp fnM_imp
end

/-! ### a def's body -/
def asRet (f : Option (Rs Fl)) : Option FR := match f with
  | some (.exc c x _) => some (.exc c x)
  | some (.ok .nx _) => some (.ret (.d .none))
  | some (.ok (.rt (.d x)) _) => some (.ret (.d x))
  | some (.ok (.rt (.fr xs)) _) => some (.ret (.fr xs))
  | some (.ok (.rt (.pk i)) e) => (match e[i]? with
    | some (.own xs) => some (.ret (.fr xs))
    | some (.d x) => some (.ret (.d x))
    | _ => none)
  | _ => none
/-- the mirror of a def that changes nothing; k: how many names besides the parameters -/
def runP (k : Nat) (f : Mo Fl) (ds : List PyData) : Option FR := asRet (f (ds.map .d ++ List.replicate k .un))
def asRetM (f : Option (Rs Fl)) : Option (PyData × List PyData) := match f with
  | some (.ok fl e) => (match e with
    | .own ys :: _ => (match fl with
      | .nx => some (.none, ys)
      | .rt (.d x) => some (x, ys)
      | .rt (.fr xs) => some (.list xs, ys)
      | .rt (.pk i) => (match i, e[i]? with
        | 0, _ => none
        | _, some (.own xs) => some (.list xs, ys)
        | _, some (.d x) => some (x, ys)
        | _, _ => none)
      | _ => none)
    | _ => none)
  | _ => none
def runM (k : Nat) (f : Mo Fl) : FM := fun xs ds => asRetM (f (.own xs :: ds.map .d ++ List.replicate k .un))
def bsP (n : Nat) (G H : Hp) : Bs where
  n := n
  H0 := H
  P := fun _ => False
  Z := fun a => G a = none ∧ H a ≠ none
  mp := []
  pv := fun _ => .non
def bsM (n : Nat) (G H : Hp) (a : Addr) : Bs where
  n := n
  H0 := H
  P := fun b => b = a
  Z := fun b => (G b = none ∧ H b ≠ none) ∧ b ≠ a
  mp := [0]
  pv := fun _ => .ref a
theorem start_get {N : List Str} {vs : List V} {i : Nat} {v : V} (h : (start N vs)[i]? = some (some v)) : vs[i]? = some v := by
  unfold start at h
  rcases append_cases h with ⟨_, h⟩ | ⟨_, h⟩
  · rw [List.getElem?_map] at h
    cases q : vs[i]? with
    | none => rw [q] at h; cases h
    | some u => rw [q] at h; cases h; rfl
  · have := List.mem_of_getElem? h
    rw [List.mem_replicate] at this
    cases this.2
theorem start_of {N : List Str} {vs : List V} {i : Nat} {v : V} (h : vs[i]? = some v) : (start N vs)[i]? = some (some v) := by
  unfold start
  have hi := (List.getElem?_eq_some_iff.mp h).1
  rw [List.getElem?_append_left (by simpa using hi), List.getElem?_map, h]
  rfl
theorem body_get {ds : List PyData} {k i : Nat} {m : Md} (h : (ds.map Md.d ++ List.replicate k .un)[i]? = some m) : m = .un ∨ ∃ x, ds[i]? = some x ∧ m = .d x := by
  rcases append_cases h with ⟨_, h⟩ | ⟨_, h⟩
  · rw [List.getElem?_map] at h
    cases q : ds[i]? with
    | none => rw [q] at h; cases h
    | some u => rw [q] at h; cases h; exact .inr ⟨u, rfl, rfl⟩
  · have := List.mem_of_getElem? h
    rw [List.mem_replicate] at this
    exact .inl this.2
section
variable {K : PySem.W.Frag} {XC : XCl}
theorem body_sub {G H H' : Hp} {O : Addr → Prop} (sg : Same G H) (sh : Same H H') : Same (minus H' fun a => O a ∨ (G a = none ∧ H a ≠ none)) (gext G H H') := fun a o q => by
  obtain ⟨h1, h2⟩ := minus_some.mp q
  unfold gext
  cases e : H a with
  | none => exact h2
  | some u =>
    cases g : G a with
    | none => exact absurd (.inr ⟨g, by rw [e]; simp⟩) h1
    | some w =>
      have e2 := sh a w (sg a w g)
      rw [h2] at e2
      exact e2.symm
theorem body_ok {N : List Str} {n k : Nat} {f : Mo Fl} {vs : List V} {H : Hp} {Q : VK} {E : XK} (hN : N.length = n + k) (h : spP K XC n (runP k f) vs H Q E) :
    ∃ G, tS K (bsP (n + k) G H) (fun c d _ H' => ∀ C, XC c C → E (.ref C) (some d) H') f { nx := fun _ H' => Q .non H', rt := Q } (start N vs) H := by
  obtain ⟨G, ds, sg, hd, hn, h⟩ := h
  have hl := hd.length
  have noown : ∀ a, ¬ Own (ds.map Md.d ++ List.replicate k Md.un) (fun i => vs.getD i .non) a := by
    rintro a ⟨i, xs, e, _⟩
    rcases body_get e with z | ⟨_, _, z⟩ <;> cases z
  have gG : Same G (Gh (bsP (n + k) G H).Z (ds.map Md.d ++ List.replicate k Md.un) (fun i => vs.getD i .non) H) := fun a o q => minus_some.mpr ⟨(by
    rintro (z | ⟨z, _⟩)
    · exact noown a z
    · rw [q] at z; cases z), sg a o q⟩
  refine ⟨G, ds.map .d ++ List.replicate k .un, [], fun i => vs.getD i .non, ⟨⟨fun i j xs ys e => ?_, fun i m e => ?_, fun a z => z.2, fun a z => ?_⟩, ?_, ?_, fun i m e hm => ?_, fun a o z _ => z, fun a z => ?_, fun _ z => ?_, fun _ z => ?_, fun i v q => ?_⟩, ?_⟩
  · rw [List.append_nil] at e; rcases body_get e with z | ⟨_, _, z⟩ <;> cases z
  · rw [List.append_nil] at e ⊢
    rcases body_get e with rfl | ⟨x, hx, rfl⟩
    · trivial
    · obtain ⟨v, hv, hx⟩ := hd.get hx
      show Dp K _ (vs.getD i .non) x
      rw [List.getD_eq_getElem?_getD, hv]
      exact Dp.mono gG _ _ hx
  · rw [List.append_nil] at z; exact absurd z (noown a)
  · unfold start; simp; show _ = n + k; omega
  · simp; show _ = n + k; omega
  · rcases body_get e with rfl | ⟨x, hx, rfl⟩
    · exact absurd rfl hm
    · obtain ⟨v, hv, _⟩ := hd.get hx
      rw [start_of hv, List.getD_eq_getElem?_getD, hv]
      rfl
  · rw [List.append_nil] at z; exact absurd z (noown a)
  · cases z
  · cases z
  · show vs.getD i .non = v
    rw [List.getD_eq_getElem?_getD, start_get q]; rfl
  · show Fin K (bsP (n + k) G H) _ [] _ (f (ds.map .d ++ List.replicate k .un)) _
    have h' : match asRet (f (ds.map .d ++ List.replicate k .un)) with
      | none => False
      | some (.ret w) => ∀ v H', Res K G H w v H' → Q v H'
      | some (.exc c x) => ∀ C d v H', XC c C → Same H H' → H' d = some (.xd [("value", v)]) → Dp K (gext G H H') v x → E (.ref C) (some d) H' := h
    have fr : ∀ {σ' e' t' val' H'}, SM K (bsP (n + k) G H) σ' e' t' val' H' → Same H H' := fun s a o q => s.fr a o q (fun z => z)
    have sub : ∀ {σ' e' t' val' H'}, SM K (bsP (n + k) G H) σ' e' t' val' H' → Same (Gh (bsP (n + k) G H).Z (e' ++ t') val' H') (gext G H H') := fun s => body_sub sg (fr s)
    cases q : f (ds.map .d ++ List.replicate k .un) with
    | none => rw [q] at h'; exact h'
    | some r =>
      rw [q] at h'
      cases r with
      | exc c x e' => exact fun σ' H' d v t' val' ag s hd' hv C hC => h' C d v H' hC (fr s) hd' (Dp.mono (sub s) _ _ hv)
      | ok fl e' =>
        cases fl with
        | nx => exact fun σ' H' val' ag s => h' .non H' ⟨fr s, .non⟩
        | bk => exact h'.elim
        | ct => exact h'.elim
        | rt w =>
          intro v σ' H' t' val' ag s at1
          have ownP : ∀ {i xs}, (e' ++ t')[i]? = some (.own xs) → val' i = v → Res K G H (.fr xs) v H' := fun {i xs} hi hv => by
            obtain ⟨a, ws, ea, hH, hws⟩ := s.sm.ok i _ hi
            rw [hv] at ea
            subst ea
            have oa : Own (e' ++ t') val' a := ⟨i, xs, hi, hv⟩
            refine ⟨fr s, a, ws, rfl, ?_, hH, DpAll.mono (fun b o q9 => ?_) _ _ hws⟩
            · rcases s.nw a oa with z | z
              · exact z
              · exact z.elim
            · refine minus_some.mpr ⟨fun z => ?_, sub s b o q9⟩
              subst z
              exact (minus_some.mp q9).1 (.inl oa)
          cases w with
          | d x =>
            obtain ⟨k', _, h2, h3⟩ := at1
            have := s.at_t (t := t') h2
            rw [s.ln, h3] at this
            exact h' v H' ⟨fr s, Dp.mono (sub s) _ _ this⟩
          | fr xs =>
            obtain ⟨k', _, h2, h3⟩ := at1
            exact h' v H' (ownP (i := (bsP (n + k) G H).n + k') (by rw [List.getElem?_append_right (by rw [s.ln]; omega), s.ln, Nat.add_sub_cancel_left]; exact h2) h3)
          | pk i =>
            obtain ⟨h2, h3⟩ := at1
            unfold asRet at h'
            cases q9 : e'[i]? with
            | none => simp only [q9] at h'
            | some m =>
              cases m with
              | un => simp only [q9] at h'
              | d x =>
                simp only [q9] at h'
                have := s.at_e (t := t') q9
                rw [h3] at this
                exact h' v H' ⟨fr s, Dp.mono (sub s) _ _ this⟩
              | own xs =>
                simp only [q9] at h'
                exact h' v H' (ownP (by rw [List.getElem?_append_left (List.getElem?_eq_some_iff.mp q9).1]; exact q9) h3)
end
end L2.DL

namespace L2.DL
open PySem PySem.Spec PyProof.Rows RZ
section
variable {K : PySem.W.Frag} {XC : XCl}
theorem own_cons {xs : List PyData} {ds : List PyData} {k i : Nat} {m : Md} (h : (Md.own xs :: ds.map Md.d ++ List.replicate k .un)[i]? = some m) : (i = 0 ∧ m = .own xs) ∨ (∃ j, i = j + 1 ∧ (m = .un ∨ ∃ x, ds[j]? = some x ∧ m = .d x)) := by
  cases i with
  | zero => simp at h; exact .inl ⟨rfl, h.symm⟩
  | succ j => exact .inr ⟨j, rfl, body_get (k := k) (by simpa using h)⟩
theorem body_subM {G H H' : Hp} {O : Addr → Prop} {a : Addr} (sg : Same G H) (sh : ∀ b o, b ≠ a → H b = some o → H' b = some o) (ha : O a) : Same (minus H' fun b => O b ∨ ((G b = none ∧ H b ≠ none) ∧ b ≠ a)) (gext G H H') := fun b o q => by
  obtain ⟨h1, h2⟩ := minus_some.mp q
  have hb : b ≠ a := fun z => h1 (.inl (by rw [z]; exact ha))
  unfold gext
  cases e : H b with
  | none => exact h2
  | some u =>
    cases g : G b with
    | none => exact absurd (.inr ⟨⟨g, by rw [e]; simp⟩, hb⟩) h1
    | some w =>
      have e2 := sh b w hb (sg b w g)
      rw [h2] at e2
      exact e2.symm
theorem body_okM {N : List Str} {n k : Nat} {f : Mo Fl} {vs : List V} {H : Hp} {Q : VK} {E : XK} {W : XW} (hN : N.length = n + 1 + k) (hW : ∀ c d σ H, W c d σ H) (h : spM K n (runM k f) vs H Q E) :
    ∃ G a, tS K (bsM (n + 1 + k) G H a) W f { nx := fun _ H' => Q .non H', rt := Q } (start N vs) H := by
  obtain ⟨G, a, us, vs0, xs, ds, rfl, sg, hGa, hH, hxs, hd, hn, h⟩ := h
  have hl := hd.length
  have own1 : ∀ b, Own (Md.own xs :: ds.map Md.d ++ List.replicate k Md.un) (fun i => (V.ref a :: us).getD i .non) b → b = a := by
    rintro b ⟨i, ys, e, ev⟩
    rcases own_cons e with ⟨rfl, _⟩ | ⟨j, rfl, z | ⟨_, _, z⟩⟩
    · simp at ev; exact ev.symm
    · cases z
    · cases z
  have gG : Same G (Gh (bsM (n + 1 + k) G H a).Z (Md.own xs :: ds.map Md.d ++ List.replicate k Md.un) (fun i => (V.ref a :: us).getD i .non) H) := fun b o q => minus_some.mpr ⟨(by
    rintro (z | ⟨⟨z, _⟩, _⟩)
    · rw [own1 b z, hGa] at q; cases q
    · rw [q] at z; cases z), sg b o q⟩
  refine ⟨G, a, Md.own xs :: ds.map .d ++ List.replicate k .un, [], fun i => (V.ref a :: us).getD i .non, ⟨⟨fun i j ys zs e1 e2 _ => ?_, fun i m e => ?_, fun b z => z.1.2, fun b z hz => ?_⟩, ?_, ?_, fun i m e hm => ?_, fun b o z hb => z, fun b z => ?_, fun i z => ?_, fun i z => ?_, fun i v q => ?_⟩, ?_⟩
  · rw [List.append_nil] at e1 e2
    rcases own_cons e1 with ⟨rfl, _⟩ | ⟨j, rfl, z | ⟨_, _, z⟩⟩
    · rcases own_cons e2 with ⟨rfl, _⟩ | ⟨j, rfl, z | ⟨_, _, z⟩⟩
      · rfl
      · cases z
      · cases z
    · cases z
    · cases z
  · rw [List.append_nil] at e ⊢
    rcases own_cons e with ⟨rfl, rfl⟩ | ⟨j, rfl, rfl | ⟨x, hx, rfl⟩⟩
    · exact ⟨a, vs0, by simp, hH, DpAll.mono gG _ _ hxs⟩
    · trivial
    · obtain ⟨v, hv, hx⟩ := hd.get hx
      show Dp K _ ((V.ref a :: us).getD (j + 1) .non) x
      rw [List.getD_eq_getElem?_getD, List.getElem?_cons_succ, hv]
      exact Dp.mono gG _ _ hx
  · rw [List.append_nil] at z
    exact hz.2 (own1 b z)
  · unfold start; simp; show _ = n + 1 + k; omega
  · simp; show _ = n + 1 + k; omega
  · rcases own_cons e with ⟨rfl, rfl⟩ | ⟨j, rfl, rfl | ⟨x, hx, rfl⟩⟩
    · rw [start_of (v := .ref a) (by simp)]; simp
    · exact absurd rfl hm
    · obtain ⟨v, hv, _⟩ := hd.get hx
      rw [start_of (v := v) (by simpa using hv), List.getD_eq_getElem?_getD, List.getElem?_cons_succ, hv]
      rfl
  · rw [List.append_nil] at z; exact .inr (own1 b z)
  · have : i = 0 := by simpa [bsM] using z
    subst this
    simp [bsM]
  · have : i = 0 := by simpa [bsM] using z
    subst this
    simp
  · show (V.ref a :: us).getD i .non = v
    rw [List.getD_eq_getElem?_getD, start_get q]; rfl
  · show Fin K (bsM (n + 1 + k) G H a) _ [] _ (f (Md.own xs :: ds.map .d ++ List.replicate k .un)) _
    have h' : match asRetM (f (Md.own xs :: ds.map .d ++ List.replicate k .un)) with
      | none => False
      | some (z, ys) => ∀ v H' vs1, (∀ b o, b ≠ a → H b = some o → H' b = some o) → H' a = some (.lst vs1) → DpAll K (gext G H H') vs1 ys → Dp K (gext G H H') v z → Q v H' := h
    -- the end's state, where the list is still one's own
    have fin : ∀ {σ' e' t' val' H' ys r}, SM K (bsM (n + 1 + k) G H a) σ' e' t' val' H' → e' = .own ys :: r → (∀ b o, b ≠ a → H b = some o → H' b = some o) ∧ ∃ vs1, H' a = some (.lst vs1) ∧ DpAll K (gext G H H') vs1 ys ∧ Same (Gh (bsM (n + 1 + k) G H a).Z (e' ++ t') val' H') (gext G H H') ∧ val' 0 = .ref a := fun {σ' e' t' val' H' ys r} s e => by
      have h0 : e'[0]? = some (.own ys) := by rw [e]; rfl
      have v0 : val' 0 = .ref a := s.mp 0 (by simp [bsM])
      have frm : ∀ b o, b ≠ a → H b = some o → H' b = some o := fun b o hb q => s.fr b o q hb
      obtain ⟨a', vs1, ea, hH1, hd1⟩ := s.at_e h0
      rw [v0] at ea
      cases ea
      have oa : Own (e' ++ t') val' a := ⟨0, ys, by rw [List.getElem?_append_left (List.getElem?_eq_some_iff.mp h0).1]; exact h0, v0⟩
      have sub : Same (Gh (bsM (n + 1 + k) G H a).Z (e' ++ t') val' H') (gext G H H') := body_subM sg frm oa
      exact ⟨frm, vs1, hH1, DpAll.mono sub _ _ hd1, sub, v0⟩
    cases q : f (Md.own xs :: ds.map .d ++ List.replicate k .un) with
    | none => rw [q] at h'; exact h'
    | some r =>
      rw [q] at h'
      cases r with
      | exc c x e' => exact fun _ _ _ _ _ _ _ _ _ _ => hW _ _ _ _
      | ok fl e' =>
        cases e' with
        | nil => exact h'.elim
        | cons m0 r0 =>
          cases m0 with
          | un => exact h'.elim
          | d _ => exact h'.elim
          | own ys =>
            cases fl with
            | nx =>
              intro σ' H' val' ag s
              obtain ⟨frm, vs1, h1, h2, h3, _⟩ := fin s rfl
              exact h' .non H' vs1 frm h1 h2 .non
            | bk => exact h'.elim
            | ct => exact h'.elim
            | rt w =>
              intro v σ' H' t' val' ag s at1
              obtain ⟨frm, vs1, h1, h2, h3, v0⟩ := fin (t' := [] ++ t') s rfl
              have ownP : ∀ {i zs}, i ≠ 0 → ((Md.own ys :: r0) ++ ([] ++ t'))[i]? = some (.own zs) → val' i = v → Dp K (gext G H H') v (.list zs) := fun {i zs} hi0 hi hv => by
                obtain ⟨b, ws, eb, hHb, hws⟩ := s.sm.ok i _ hi
                rw [hv] at eb
                subst eb
                have hba : b ≠ a := fun z => hi0 (s.sm.inj i 0 zs ys hi rfl (by rw [hv, v0, z]))
                have hn : H b = none := by
                  rcases s.nw b ⟨i, zs, hi, hv⟩ with z | z
                  · exact z
                  · exact absurd z hba
                refine .lst (SqL.of ?_) (DpAll.mono h3 _ _ hws)
                unfold gext
                rw [hn]
                exact hHb
              cases w with
              | d x =>
                obtain ⟨k', _, h4, h5⟩ := at1
                have := s.at_t h4
                rw [s.ln, h5] at this
                exact h' v H' vs1 frm h1 h2 (Dp.mono h3 _ _ this)
              | fr zs =>
                obtain ⟨k', _, h4, h5⟩ := at1
                exact h' v H' vs1 frm h1 h2 (ownP (i := (bsM (n + 1 + k) G H a).n + k') (by show n + 1 + k + k' ≠ 0; omega) (by rw [List.getElem?_append_right (by rw [s.ln]; omega), s.ln, Nat.add_sub_cancel_left]; exact h4) h5)
              | pk i =>
                obtain ⟨h4, h5⟩ := at1
                cases i with
                | zero => exact h'.elim
                | succ i =>
                  unfold asRetM at h'
                  cases q9 : (Md.own ys :: r0)[i + 1]? with
                  | none => simp only [q9] at h'
                  | some m =>
                    cases m with
                    | un => simp only [q9] at h'
                    | d x =>
                      simp only [q9] at h'
                      have := s.at_e q9
                      rw [h5] at this
                      exact h' v H' vs1 frm h1 h2 (Dp.mono h3 _ _ this)
                    | own zs =>
                      simp only [q9] at h'
                      exact h' v H' vs1 frm h1 h2 (ownP (by omega) (by rw [List.getElem?_append_left (List.getElem?_eq_some_iff.mp q9).1]; exact q9) h5)
end

/-! ### an owned list, changed by a method or by place -/
def MutD (K : PySem.W.Frag) (r : V → List V → Hp → VK → Prop) (g : FM) : Prop := ∀ (G H : Hp) (a : Addr) (us vs0 : List V) (xs ds : List PyData) (z : PyData) (ys : List PyData) (Q : VK), Same G H → G a = none → H a = some (.lst vs0) → DpAll K G vs0 xs → DpAll K G us ds → g xs ds = some (z, ys) →
  (∀ v vs1, DpAll K G vs1 ys → Dp K G v z → Q v (upd H a (.lst vs1))) → r (.ref a) us H Q
def isOwn (r0 : Vl) : Mo Unit := fun e => match r0 with
  | .pk j => (match e[j]? with
    | some (.own _) => some (.ok () e)
    | _ => none)
  | _ => none
def eMut (g : FM) (o : Mo Vl) (a : Mo (List Vl)) : Mo Vl := Mo.bnd o fun r0 => Mo.bnd (isOwn r0) fun _ => Mo.bnd a fun rs => Mo.bnd (freezes rs) fun ds => callM g r0 ds
def bSub (g : FM) (o i : Mo Vl) : Bd := fun x => Mo.bnd o fun r0 => Mo.bnd i fun ri => Mo.bnd (peek ri) fun di => Mo.bnd (callM g r0 [di, x]) fun _ => Mo.ret ()
section
variable {X : Cx} {B : Bs} {W : XW} {K : PySem.W.Frag} {pos : Pos}
/-- the state behind a change -/
theorem SM.changed {σ : St} {e : En} {t : List Md} {val : Nat → V} {H : Hp} (s : SM K B σ e t val H) {j : Nat} {xs ys : List PyData} {a : Addr} {vs1 : List V} (q : e[j]? = some (.own xs)) (ea : val j = .ref a) (hys : DpAll K (Gh B.Z (e ++ t) val H) vs1 ys) :
    SM K B σ (e.set j (.own ys)) t val (upd H a (.lst vs1)) ∧ Same (Gh B.Z (e ++ t) val H) (Gh B.Z (e.set j (.own ys) ++ t) val (upd H a (.lst vs1))) := by
  have hjl := (List.getElem?_eq_some_iff.mp q).1
  have q' : (e ++ t)[j]? = some (.own xs) := by rw [List.getElem?_append_left hjl]; exact q
  have oa : Own (e ++ t) val a := ⟨j, xs, q', ea⟩
  have fr : ∀ b o, b ≠ a → H b = some o → upd H a (.lst vs1) b = some o := fun b o hb h => by rw [upd_ne hb]; exact h
  have hOwn : ∀ b, Own (e.set j (.own ys) ++ t) val b ↔ Own (e ++ t) val b := fun b => by
    rw [← List.set_append_left _ _ hjl]
    exact Own.set_own q'
  have sg : Same (Gh B.Z (e ++ t) val H) (minus (upd H a (.lst vs1)) fun b => Own (e ++ t) val b ∨ B.Z b) := minus_mono fun b o h1 h2 => ⟨h1, fr b o (fun z => h1 (.inl (by rw [z]; exact oa))) h2⟩
  exact ⟨s.wrE q ea fr upd_same (DpAll.mono sg _ _ hys), sg.trans (minus_mono fun b o h1 h2 => ⟨fun z => h1 (z.imp (hOwn b).mp id), h2⟩)⟩
theorem Fin.isOwn {t : List Md} {val : Nat → V} {r0 : Vl} {e : En} {C : Unit → En → Prop} (h : Fin K B W t val (isOwn r0 e) C) : ∃ j xs, r0 = .pk j ∧ e[j]? = some (.own xs) ∧ C () e := by
  unfold DL.isOwn at h
  cases r0 with
  | d _ => exact h.elim
  | fr _ => exact h.elim
  | pk j =>
    simp only at h
    cases q : e[j]? with
    | none => simp only [q] at h; exact h.elim
    | some m =>
      simp only [q] at h
      cases m with
      | un => exact h.elim
      | d _ => exact h.elim
      | own xs => exact ⟨j, xs, rfl, q, h⟩
/-- the change itself -/
theorem mut_core {r : V → List V → Hp → VK → Prop} {g : FM} (hm : MutD K r g) {σ : St} {t t1 : List Md} {val val1 : Nat → V} {e2 : En} {H1 : Hp} {j : Nat} {us : List V} {ds : List PyData} {Q : VK} (ag : Ag (B.n + t.length) val val1) (s : SM K B σ e2 (t ++ t1) val1 H1)
    (hd : DpAll K (Gh B.Z (e2 ++ (t ++ t1)) val1 H1) us ds) (h : Fin K B W t val (callM g (.pk j) ds e2) (Got K B σ t val Q)) : r (val1 j) us H1 Q := by
  obtain ⟨xs, z, ys, q, q2, h4⟩ := Fin.callM h
  obtain ⟨a, vs0, ea, hH, hxs⟩ := s.at_e q
  have oa : Own (e2 ++ (t ++ t1)) val1 a := ⟨j, xs, by rw [List.getElem?_append_left (List.getElem?_eq_some_iff.mp q).1]; exact q, ea⟩
  rw [ea]
  refine hm _ H1 a us vs0 xs ds z ys Q minus_sub (by unfold minus; rw [if_pos (.inl oa)]) hH hxs hd q2 fun v vs1 hys hz => ?_
  obtain ⟨s3, sg⟩ := s.changed q ea hys
  have s4 := s3.pushD (v := v) (x := z) (Dp.mono sg _ _ hz)
  refine h4 v _ (t1 ++ [.d z]) _ (fun i hi => ?_) (by rw [← List.append_assoc]; exact s4) ⟨(t ++ t1).length, by simp, by rw [← List.append_assoc]; simp, setv_same⟩
  rw [s3.ln] at hi
  rw [setv_lt (by rw [s3.ln]; simp; omega)]
  exact ag i hi
theorem mut_imp {r : V → List V → Hp → VK → Prop} {g : FM} (hm : MutD K r g) {fo : Mo Vl} {fr : Mo (List Vl)} : ∀ σ H Q, tD K B W (eMut g fo fr) σ H Q → tBM K "list" r (tD K B W fo) (tA K B W fr) σ H Q := by
  rintro σ H Q ⟨e, t, val, s, h⟩
  refine ⟨e, t, val, s, (Fin.bnd h).imp fun r0 e1 _ h1 v0 H1 t1 val1 ag1 s1 at0 => ?_⟩
  obtain ⟨j, xs, rfl, q, h1⟩ := Fin.isOwn (Fin.bnd h1)
  obtain ⟨hj, rfl⟩ := at0
  obtain ⟨a, vs0, ea, hH, _⟩ := s1.at_e q
  refine ⟨by rw [ea]; exact .inl ⟨rfl, vs0, SqL.of hH⟩, e1, t ++ t1, val1, s1, (Fin.bnd (Fin.next h1 ag1 s1)).imp fun rs e2 _ h2 us H2 t2 val2 ag2 s2 at2 => ?_⟩
  obtain ⟨ds, e3, p, h3⟩ := Fin.freezes (Fin.bnd h2)
  obtain ⟨t2', l1, l2, s3, _, hd⟩ := freezes_ok s2 at2.weak p
  have hv : val1 j = val2 j := (ag2 j (by rw [s2.ln, ← s1.ln]; omega)).symm
  rw [hv]
  have ag1' : Ag (B.n + t.length) val val1 := ag_n s1 ag1
  have ag2' : Ag (B.n + (t ++ t1).length) val1 val2 := ag_n s2 ag2
  have l3 : e3.length = e1.length := by rw [s3.ln, s1.ln]
  have h4 : Fin K B W (t ++ t1) val1 (callM g (.pk j) ds e3) (Got K B σ (t ++ t1) val1 Q) := h3.imp fun w e' _ g1 => Got.back (e := e1) g1 ag1 s1
  exact mut_core hm ag2' s3 hd h4
theorem mut0_imp {r : V → List V → Hp → VK → Prop} {g : FM} (hm : MutD K r g) {fo : Mo Vl} : ∀ σ H Q, tD K B W (eMut g fo aNil) σ H Q → tBM0 K "list" r (tD K B W fo) σ H Q := by
  rintro σ H Q ⟨e, t, val, s, h⟩
  refine ⟨e, t, val, s, (Fin.bnd h).imp fun r0 e1 _ h1 v0 H1 t1 val1 ag1 s1 at0 => ?_⟩
  obtain ⟨j, xs, rfl, q, h1⟩ := Fin.isOwn (Fin.bnd h1)
  obtain ⟨hj, rfl⟩ := at0
  obtain ⟨a, vs0, ea, hH, _⟩ := s1.at_e q
  refine ⟨by rw [ea]; exact .inl ⟨rfl, vs0, SqL.of hH⟩, ?_⟩
  exact mut_core hm (ag_n s1 ag1) s1 (us := []) (ds := []) .nil h1
theorem pd_mut {r : V → List V → Hp → VK → Prop} {g : FM} {fo : Mo Vl} {fr : Mo (List Vl)} {e0 : Expr} (h : PE X e0 (tBM X.K "list" r (tD X.K B W fo) (tA X.K B W fr))) (hm : MutD X.K r g) : PE X e0 (tD X.K B W (eMut g fo fr)) := h.imp (mut_imp hm)
theorem pd_mut0 {r : V → List V → Hp → VK → Prop} {g : FM} {fo : Mo Vl} {e0 : Expr} (h : PE X e0 (tBM0 X.K "list" r (tD X.K B W fo))) (hm : MutD X.K r g) : PE X e0 (tD X.K B W (eMut g fo aNil)) := h.imp (mut0_imp hm)
/-! o[i] = x -/
def SetD (K : PySem.W.Frag) (r : TSet) (g : FM) : Prop := ∀ (G H : Hp) (a : Addr) (i v : V) (vs0 : List V) (xs : List PyData) (di x z : PyData) (ys : List PyData) (Q : Hp → Prop), Same G H → G a = none → H a = some (.lst vs0) → DpAll K G vs0 xs → Pk K G H i di → Dp K G v x → g xs [di, x] = some (z, ys) →
  (∀ vs1, DpAll K G vs1 ys → Q (upd H a (.lst vs1))) → r (.ref a) i v H Q
theorem pdg_sub {r : TSet} {g : FM} {fo fi : Mo Vl} {e0 : Expr} (h : PG X e0 (gSub (tD X.K B W fo) (tD X.K B W fi) r)) (hm : SetD X.K r g) : PG X e0 (tG X.K B W [] (bSub g fo fi)) := ⟨fun pins s σ H v u Q I rl ⟨e, t, val, x, sm, hd, hq⟩ => by
  refine h.run pins s σ H v u Q I rl ?_
  have s0 := sm.pushD hd
  have ag0 : Ag (B.n + t.length) val (setv val (e.length + t.length) v) := fun i hi => setv_lt (by rw [sm.ln]; exact hi)
  refine ⟨e, t ++ [.d x], _, s0, (Fin.extT (Fin.bnd hq) ag0.T).imp fun r0 e1 _ h1 o H1 t1 val1 ag1 s1 at0 => ?_⟩
  have ag1' := ag_n s1 ag1
  have agA : Ag (B.n + t.length) val val1 := Ag.trans (by simp) ag0 ag1'
  refine ⟨e1, t ++ [.d x] ++ t1, val1, s1, ?_⟩
  have h1' : Fin X.K B W (t ++ ([.d x] ++ t1)) val1 _ _ := Fin.extT (Fin.bnd h1) agA.T
  rw [← List.append_assoc] at h1'
  refine h1'.imp fun ri e2 _ h2 iv H2 t2 val2 ag2 s2 at2 => ?_
  have ag2' := ag_n s2 ag2
  obtain ⟨di, e3, p, h3⟩ := Fin.peek (Fin.bnd h2)
  obtain ⟨rfl, ki⟩ := peek_ok s2 at2.weak p
  have h4 := Fin.bnd h3
  cases r0 with
  | d _ => exact h4.elim
  | fr _ => exact h4.elim
  | pk j =>
    obtain ⟨xs, z, ys, q, q2, h5⟩ := Fin.callM h4
    obtain ⟨hj, rfl⟩ := at0
    obtain ⟨a, vs0, ea, hH, hxs⟩ := s2.at_e q
    have hv : val2 j = val1 j := ag2' j (by have := s1.ln; rw [this] at hj; omega)
    rw [← hv, ea]
    have oa : Own (e3 ++ (t ++ [.d x] ++ t1 ++ t2)) val2 a := ⟨j, xs, by rw [List.getElem?_append_left (List.getElem?_eq_some_iff.mp q).1]; exact q, ea⟩
    -- the value still lies as a temp
    have hx : Dp X.K (Gh B.Z (e3 ++ (t ++ [.d x] ++ t1 ++ t2)) val2 H2) v x := by
      have hk : (t ++ [.d x] ++ t1 ++ t2)[t.length]? = some (.d x) := by simp
      have := s2.at_t hk
      rw [s2.ln] at this
      have e9 : val2 (B.n + t.length) = v := by
        rw [ag2' _ (by simp), ag1' _ (by simp), ← sm.ln]
        exact setv_same
      rw [e9] at this
      exact this
    refine hm _ H2 a iv v vs0 xs di x z ys _ minus_sub (by unfold minus; rw [if_pos (.inl oa)]) hH hxs ki hx q2 fun vs1 hys => ?_
    obtain ⟨s3, sg⟩ := s2.changed q ea hys
    refine h5 σ _ val2 (fun i g1 g2 => ?_) (fun _ _ => rfl) (by rw [List.append_assoc, List.append_assoc] at s3; exact s3.drop)
    rw [ag2' i (by simp; omega)]
    exact agA i g2⟩
end
end L2.DL

namespace L2.DL
open PySem PySem.Spec PyProof.Rows RZ
/-! ### defs called where no repr is under way (so that repr may be asked) -/
structure FnG (P : Program) (w : World) (K : PySem.W.Frag) (mg : Str → Option Value) (base : Heap) (CX : CXT) (k : Nat) (f : Addr) (fd : FuncData) (ps : List Str) (sp : Sp) : Prop where
  len : ∀ {vs H Q E}, sp vs H Q E → vs.length = ps.length
  go : ∀ {A : Around} {fr : List Env} {s : Shared} {H : Hp} {ar : Args} {us : List Value} {vs : List V} {Q : VK} {E : XK}, A.guards = some [] → Room k A → Env0 P w K mg base A fr s H → BindsTo s fd ar (ps.zip us) → Vals vs us → sp vs H Q E →
    codeAny (model P w) A (.call (.ref f) ar) (CR CX fr P w H s Q E) s
theorem FnG.up {P : Program} {w : World} {K : PySem.W.Frag} {mg : Str → Option Value} {base : Heap} {CX : CXT} {j k : Nat} {f : Addr} {fd : FuncData} {ps : List Str} {sp : Sp} (F : FnG P w K mg base CX j f fd ps sp) (h : j ≤ k) : FnG P w K mg base CX k f fd ps sp :=
  ⟨F.len, fun g r => F.go g (r.mono h)⟩
theorem FnG.weak {P : Program} {w : World} {K : PySem.W.Frag} {mg : Str → Option Value} {base : Heap} {CX : CXT} {k : Nat} {f : Addr} {fd : FuncData} {ps : List Str} {sp sp' : Sp} (F : FnG P w K mg base CX k f fd ps sp) (h : ∀ {vs H Q E}, sp' vs H Q E → sp vs H Q E) : FnG P w K mg base CX k f fd ps sp' :=
  ⟨fun q => F.len (h q), fun g r e b v q => F.go g r e b v (h q)⟩
theorem deeper_guards {A : Around} {env : Env} (h : A.guards = some []) : (A.deeper env).guards = some [] := h
section
variable {P : Program} {w : World} {K : PySem.W.Frag} {mg : Str → Option Value} {base : Heap} {CX : CXT}
theorem fnG_of {k : Nat} {x qual : Str} {st : Stmt} {f : Addr} {fd : FuncData} {N ps : List Str} {sp : Sp} (F : Fun K x qual st f fd) (S : FnScope N ps (defScope st)) (len : ∀ {vs H Q E}, sp vs H Q E → vs.length = ps.length)
    (body : ∀ (cdv : Value) (A : Around) (fr : List Env) (s : Shared) (H : Hp) (vs : List V) (Q : VK) (E : XK), A.guards = some [] → Room k (A.deeper (envOfC qual (defScope st) s.heap.objs.size f cdv)) → sp vs H Q E →
      ∃ t, PSs (cxOf CX P w K mg base N qual (defScope st) f cdv A fr s H E) (defBody st) t ∧ t { nx := fun _ H' => Q .non H', rt := Q } (start N vs) H) : FnG P w K mg base CX (k + 1) f fd ps sp := by
  obtain ⟨oc, od, kV, doc, pm, an, cdv, ct, osl, rfl, lk, hcd⟩ := F.ex
  refine ⟨len, @fun A fr s H ar us vs Q E hg hr e0 hb rv hsp => ?_⟩
  have hK : K.In s.heap := e0.mod.kin.keeps fun b o e => (e0.bs b o e).1
  have hL : s.heap.NoLimit := e0.mod.nolimit.keeps fun b o e => (e0.bs b o e).1
  have kinds : ∀ y ∈ ps.zip us, (defScope st).names.lookup y.1 = some .local ∨ ((defScope st).names.lookup y.1 = some .cell ∧ ((cellsFrom (s.heap.objs.size + 1) (defScope st).names []).lookup y.1).isSome = true) := by
    rintro ⟨n, v⟩ hy
    exact (S.par n (List.of_mem_zip hy).1).imp id fun q => ⟨q, PySem.W.cellsFrom_some _ _ _ (.inl q)⟩
  refine codeAny_call_function hr.depth (hK _ _ lk) rfl S.co S.gen rfl (PySem.W.codeRec_of hK hcd) (hb _ _ _ _ (wpAny_newFunctionEnv_cells S.kind kinds fun env he s1 x1 => ?_))
  subst he
  refine ⟨hL.keeps x1.toInCall.keep, codeAny_func ?_⟩
  obtain ⟨t, ht, hq⟩ := body cdv A fr s H vs Q E hg (hr.deeper _) hsp
  refine wpAny_mono (ht.run [] s1 (start N vs) H _ (inv_start S hr.hd e0 (len hsp) rv x1) hq) (fun fl s2 hs => ?_) fun _ _ hs => hs
  cases fl with
  | ret u => obtain ⟨v, _, H2, J, r2, q2⟩ := hs; exact ⟨v, H2, J.os, J.bare, J.base, J.hok, r2, q2⟩
  | next => obtain ⟨_, H2, J, q2⟩ := hs; exact ⟨.non, H2, J.os, J.bare, J.base, J.hok, rfl, q2⟩
  | brk => obtain ⟨_, _, _, q2⟩ := hs; exact q2.elim
  | cont => obtain ⟨_, _, _, q2⟩ := hs; exact q2.elim
end
section
variable {X : Cx} {CX : CXT} {k : Nat} {f : Addr} {fd : FuncData} {ps ks : List Str} {sp : Sp} {E : XK} {x : Str} {p pos : Pos} {e : Expr} {es : List Expr} {kws : List Keyword} {t tk : TA} {g : List Value → List Value → List Value} {gV : List V → List V → List V}
theorem goG {pins : List (Addr × Obj)} {σ : St} {H : Hp} {s : Shared} {Q : VK} {ar : Args} {us : List Value} {vs : List V} (F : FnG X.prog X.w X.K X.mg X.base CX k f fd ps sp) (hG : X.A.guards = some []) (hr : Room k X.A) (hx : Passes CX X E)
    (I : Inv X pins σ H s) (hb : us.length = ps.length → BindsTo s fd ar (ps.zip us)) (r : Vals vs us) (h : sp vs H Q E) : codeAny (model X.prog X.w) X.A (.call (.ref f) ar) (fun r s' => match r with
      | .ok (.ret u) => EP X pins σ Q u s'
      | .ok _ => False
      | .error e => X.xe e s') s := by
  refine codeAny_mono (F.go hG hr I.env0 (hb (by rw [← r.length]; exact F.len h)) r h) fun rs s2 hq => ?_
  match rs, hq with
  | .error e, hq => exact hx pins σ H s e s2 I hq
  | .ok (.ret u), hq => exact I.after hq
theorem peG_call (F : FnG X.prog X.w X.K X.mg X.base CX k f fd ps sp) (hG : X.A.guards = some []) (hr : Room k X.A) (hg : Gl X x) (hm : X.mg x = some (.ref f)) (hk : PySem.W.keepIn X.K (.ref f) = true) (hb : Binds X.K fd ps []) (hx : Passes CX X E)
    (ha : PA X (e :: es) t) (hdb : (x == ("__debug__" : Str)) = false := by decide) (he : starEach (e :: es) X.env = (false, eval e X.env) :: starEach es X.env := by rfl) (hpl : (backTo pos (starEach es X.env)).any (·.1) = false := by rfl) :
    PE X (.Call (.Name x p) (e :: es) [] pos) (tCall sp [] E t) := by
  refine ⟨fun pins s σ H Q I h => wpAny_Call_Name_kw (ld_glob I hg hm ?_ hdb)⟩
  refine PySem.W.callWith_K (h₀ := X.base) I.ok.mod.kin hk (thn (ha.run pos pins s σ H _ I h) fun us s1 hh => ?_) he hpl
  obtain ⟨vs, H1, I1, r1, q1⟩ := hh
  rw [List.append_nil] at q1
  refine ⟨I1.kIn, wpAny_call (codeAny_mono (goG F hG hr hx I1 (fun hl => ?_) r1 q1) fun rs s2 hq => ?_)⟩
  · have := hb s1 us I1.kIn (by rw [List.append_nil]; exact hl)
    rw [List.append_nil] at this
    exact this
  · match rs, hq with
    | .error e, hq => exact hq
    | .ok (.ret u), hq => exact hq
theorem peG_call0 (F : FnG X.prog X.w X.K X.mg X.base CX k f fd ps sp) (hG : X.A.guards = some []) (hr : Room k X.A) (hg : Gl X x) (hm : X.mg x = some (.ref f)) (hk : PySem.W.keepIn X.K (.ref f) = true) (hb : Binds X.K fd ps []) (hx : Passes CX X E)
    (hdb : (x == ("__debug__" : Str)) = false := by decide) : PE X (.Call (.Name x p) [] [] pos) (tCall sp [] E tNil) := by
  refine ⟨fun pins s σ H Q I h => wpAny_Call_Name_kw (ld_glob I hg hm ?_ hdb)⟩
  refine PySem.W.callWith_K0 I.kIn hk (wpAny_call (codeAny_mono (goG F hG hr hx I (us := []) (vs := []) (fun hl => ?_) .nil h) fun rs s2 hq => ?_))
  · exact hb s [] I.kIn hl
  · match rs, hq with
    | .error e, hq => exact hq
    | .ok (.ret u), hq => exact hq
/-- f(e, .., k = v, ..), f(k = v, ..) -/
theorem peG_callK (F : FnG X.prog X.w X.K X.mg X.base CX k f fd ps sp) (hG : X.A.guards = some []) (hr : Room k X.A) (hg : Gl X x) (hm : X.mg x = some (.ref f)) (hk : PySem.W.keepIn X.K (.ref f) = true) (hb : KBinds X.K fd ps ks g gV) (hx : Passes CX X E)
    (ha : PA X (e :: es) t) (hkw : PK X kws tk) (hall : (backToKw pos (keywordEach kws X.env)).all (·.1.isSome) = true := by rfl) (hks : (backToKw pos (keywordEach kws X.env)).filterMap (·.1) = ks := by rfl)
    (hdb : (x == ("__debug__" : Str)) = false := by decide) (he : starEach (e :: es) X.env = (false, eval e X.env) :: starEach es X.env := by rfl)
    (hpl : ((backTo pos (starEach (e :: es) X.env)).any (·.1) || (backToKw pos (keywordEach kws X.env)).any (·.1.isNone)) = false := by rfl) :
    PE X (.Call (.Name x p) (e :: es) kws pos) (tCallK sp gV E t tk) := by
  refine ⟨fun pins s σ H Q I h => wpAny_Call_Name_kw (ld_glob I hg hm ?_ hdb)⟩
  refine PySem.W.callWith_KW (h₀ := X.base) I.ok.mod.kin hk hall (thn (ha.run pos pins s σ H _ I h) fun us s1 hh => ?_) hpl he
  obtain ⟨vs, H1, I1, r1, q1⟩ := hh
  refine thn (hkw.run pos pins s1 σ H1 _ I1 q1) fun ws s2 hh => ?_
  obtain ⟨zs, H2, I2, r2, q2⟩ := hh
  rw [hks]
  refine ⟨I2.kIn, wpAny_call (codeAny_mono (goG F hG hr hx I2 (us := g us ws) (fun hl => hb.to s2 us ws I2.kIn hl) (hb.rel r1 r2) q2) fun rs s3 hq => ?_)⟩
  match rs, hq with
  | .error e, hq => exact hq
  | .ok (.ret u), hq => exact hq
theorem peG_callK0 (F : FnG X.prog X.w X.K X.mg X.base CX k f fd ps sp) (hG : X.A.guards = some []) (hr : Room k X.A) (hg : Gl X x) (hm : X.mg x = some (.ref f)) (hk : PySem.W.keepIn X.K (.ref f) = true) (hb : KBinds X.K fd ps ks g gV) (hx : Passes CX X E)
    (hkw : PK X kws tk) (hall : (backToKw pos (keywordEach kws X.env)).all (·.1.isSome) = true := by rfl) (hks : (backToKw pos (keywordEach kws X.env)).filterMap (·.1) = ks := by rfl)
    (hdb : (x == ("__debug__" : Str)) = false := by decide) (hpl : ((backTo pos (starEach [] X.env)).any (·.1) || (backToKw pos (keywordEach kws X.env)).any (·.1.isNone)) = false := by rfl) :
    PE X (.Call (.Name x p) [] kws pos) (tCallK sp gV E tNil tk) := by
  refine ⟨fun pins s σ H Q I h => wpAny_Call_Name_kw (ld_glob I hg hm ?_ hdb)⟩
  refine PySem.W.callWith_KW0 (h₀ := X.base) I.ok.mod.kin hk hall (thn (hkw.run pos pins s σ H _ I h) fun ws s2 hh => ?_) hpl
  obtain ⟨zs, H2, I2, r2, q2⟩ := hh
  rw [hks]
  refine ⟨I2.kIn, wpAny_call (codeAny_mono (goG F hG hr hx I2 (us := g [] ws) (fun hl => hb.to s2 [] ws I2.kIn hl) (hb.rel .nil r2) q2) fun rs s3 hq => ?_)⟩
  match rs, hq with
  | .error e, hq => exact hq
  | .ok (.ret u), hq => exact hq
end
/-! ### keywords, by data -/
def KPerm (gV : List V → List V → List V) (gD : List PyData → List PyData → List PyData) : Prop := ∀ (K : PySem.W.Frag) (G : Hp) (vs zs : List V) (ds es : List PyData), DpAll K G vs ds → DpAll K G zs es → DpAll K G (gV vs zs) (gD ds es)
def eFnK (n : Nat) (F : List PyData → Option FR) (gD : List PyData → List PyData → List PyData) (a b : Mo (List Vl)) : Mo Vl := Mo.bnd a fun rs => Mo.bnd (freezes rs) fun ds => Mo.bnd b fun rs' => Mo.bnd (freezes rs') fun es => Mo.bnd (Mo.lift (if (gD ds es).length = n then some () else none)) fun _ => callF F (gD ds es)
section
variable {X : Cx} {B : Bs} {W : XW} {K : PySem.W.Frag} {XC : XCl} {E : XK}
theorem pdk_nil : PK X [] (tA X.K B W aNil) := ⟨fun pos pins s σ H Q I q => by
  obtain ⟨e, t, val, sm, h⟩ := q
  exact pk_nil.run pos pins s σ H Q I (h [] H [] val Ag.refl (by rw [List.append_nil]; exact sm) rfl)⟩
theorem pdk_cons {a : Expr} {fa : Mo Vl} {kws : List Keyword} {nm : Option Str} {kpos : Pos} {fr : Mo (List Vl)} (ha : PE X a (tD X.K B W fa)) (hr : PK X kws (tA X.K B W fr)) : PK X (⟨nm, a, kpos⟩ :: kws) (tA X.K B W (aCons fa fr)) := ⟨fun pos pins s σ H Q I q => by
  refine (pk_cons ha hr).run pos pins s σ H Q I ?_
  exact cons_imp σ H Q q⟩
theorem fnK_imp {n : Nat} {F : List PyData → Option FR} {gV : List V → List V → List V} {gD : List PyData → List PyData → List PyData} {fa fb : Mo (List Vl)} (hg : KPerm gV gD) (hE : ∀ c C d σ H, XC c C → W c d σ H → E (.ref C) (some d) H) :
    ∀ σ H Q, tD K B W (eFnK n F gD fa fb) σ H Q → tCallK (spP K XC n F) gV E (tA K B W fa) (tA K B W fb) σ H Q := by
  rintro σ H Q ⟨e, t, val, s, h⟩
  refine ⟨e, t, val, s, (Fin.bnd h).imp fun rs e1 _ h1 vs H1 t1 val1 ag1 s1 at1 => ?_⟩
  obtain ⟨ds, e2, p, h2⟩ := Fin.freezes (Fin.bnd h1)
  obtain ⟨t1', l1, l2, s2, _, hd⟩ := freezes_ok s1 at1.weak p
  obtain ⟨val2, ag2, s3, tm⟩ := s2.pushAll hd
  have agA : Ag (B.n + t.length) val val1 := by rw [← l2, s2.ln] at ag1; exact ag1
  have agB : Ag (B.n + t.length) val val2 := agA.trans (by simp) ag2
  have h2' : Fin K B W (t ++ (t1' ++ ds.map .d)) val2 _ _ := Fin.extT (Fin.bnd h2) agB.T
  rw [← List.append_assoc] at h2'
  refine ⟨e2, t ++ t1' ++ ds.map .d, val2, s3, h2'.imp fun rs' e3 _ h3 zs H3 t3 val3 ag3 s4 at3 => ?_⟩
  obtain ⟨es, e4, p4, h4⟩ := Fin.freezes (Fin.bnd h3)
  obtain ⟨t3', l3, l4, s5, _, hd2⟩ := freezes_ok s4 at3.weak p4
  have ag3' := ag_n s4 ag3
  have hd1 := ((tm.ag ag3'.T).app (t' := t3')).dp s5
  obtain ⟨_, hn, h5⟩ := Fin.lift (Fin.bnd h4)
  obtain ⟨hn, _⟩ := ite_some hn
  have s5' : SM K B σ e4 (t ++ (t1' ++ ds.map .d ++ t3')) val3 H3 := by
    have q := s5
    rw [List.append_assoc, List.append_assoc] at q
    rw [List.append_assoc]
    exact q
  have hd3 := hg K _ _ _ _ _ hd1 hd2
  have hs : t ++ t1' ++ ds.map Md.d ++ t3' = t ++ (t1' ++ ds.map .d ++ t3') := by simp
  rw [hs] at hd3
  exact fn_core (e1 := e4) hE (by rw [s5.ln]; exact agB.trans (by simp) ag3') s5' rfl hd3 hn h5
theorem pd_fnK {n : Nat} {F : List PyData → Option FR} {gV : List V → List V → List V} {gD : List PyData → List PyData → List PyData} {fa fb : Mo (List Vl)} {e0 : Expr} (h : PE X e0 (tCallK (spP X.K XC n F) gV E (tA X.K B W fa) (tA X.K B W fb))) (hg : KPerm gV gD) (hE : ∀ c C d σ H, XC c C → W c d σ H → E (.ref C) (some d) H) :
    PE X e0 (tD X.K B W (eFnK n F gD fa fb)) := h.imp (fnK_imp hg hE)
/-- no positional argument -/
theorem pd_fnK0 {n : Nat} {F : List PyData → Option FR} {gV : List V → List V → List V} {gD : List PyData → List PyData → List PyData} {fb : Mo (List Vl)} {e0 : Expr} (h : PE X e0 (tCallK (spP X.K XC n F) gV E tNil (tA X.K B W fb))) (hg : KPerm gV gD) (hE : ∀ c C d σ H, XC c C → W c d σ H → E (.ref C) (some d) H) :
    PE X e0 (tD X.K B W (eFnK n F gD aNil fb)) := h.imp fun σ H Q q => by
  obtain ⟨e, t, val, s, h⟩ := fnK_imp hg hE σ H Q q
  exact h [] H [] val Ag.refl (by rw [List.append_nil]; exact s) rfl
end
end L2.DL

namespace L2.DL
open PySem PySem.Spec PyProof.Rows RZ
/-! ### the operations by data -/
def big (n : Nat) : Bool := decide (n ≤ 16777216)
theorem big_line {n : Nat} (h : big n = true) : n ≤ sizeLine := by rw [sizeLine_eq]; exact of_decide_eq_true h
def addF : PyData → PyData → Option Vl
  | .int a, .int b => some (.d (.int (a + b)))
  | .str a, .str b => if big (a.length + b.length) then some (.d (.str (a ++ b))) else none
  | .tuple xs, .tuple ys => if big (xs.length + ys.length) then some (.d (.tuple (xs ++ ys))) else none
  | .list xs, .list ys => if big (xs.length + ys.length) then some (.fr (xs ++ ys)) else none
  | _, _ => none
def subF : PyData → PyData → Option Vl
  | .int a, .int b => some (.d (.int (a - b)))
  | _, _ => none
def smallI (i : Int) : Bool := decide (-(2 ^ 64) < i ∧ i < 2 ^ 64)
def mulF : PyData → PyData → Option Vl
  | .int a, .int b => if smallI a || smallI b then some (.d (.int (a * b))) else none
  | _, _ => none
def fdivF : PyData → PyData → Option Vl
  | .int a, .int b => if decide (b ≠ 0) && decide (b.natAbs < 1073741824) then some (.d (.int (a.fdiv b))) else none
  | _, _ => none
def modF : PyData → PyData → Option Vl
  | .int a, .int b => if decide (b ≠ 0) then some (.d (.int (a.fmod b))) else none
  | _, _ => none
def powF : PyData → PyData → Option Vl
  | .int a, .int b => if decide (0 ≤ b) && decide (b ≤ 1000000) && decide (a.natAbs < 2 ^ 64) then some (.d (.int (a ^ b.toNat))) else none
  | _, _ => none
def cmpF (r : Int → Int → Bool) : PyData → PyData → Option Vl
  | .int a, .int b => some (.d (.bool (r a b)))
  | _, _ => none
def ltF := cmpF fun a b => decide (a < b)
def leF := cmpF fun a b => decide (a ≤ b)
def gtF := cmpF fun a b => decide (b < a)
def geF := cmpF fun a b => decide (b ≤ a)
def eqF (a b : PyData) : Option Vl := if SeqAt.shaped a && SeqAt.shaped b then some (.d (.bool (PyData.eqv a b))) else none
def neF (a b : PyData) : Option Vl := if SeqAt.shaped a && SeqAt.shaped b then some (.d (.bool (!PyData.eqv a b))) else none
def isNonD : PyData → Bool
  | .none => true
  | _ => false
def isF : PyData → PyData → Option Vl
  | a, .none => some (.d (.bool (isNonD a)))
  | .bool a, .bool b => some (.d (.bool (decide (a = b))))
  | _, _ => none
def isntF : PyData → PyData → Option Vl
  | a, .none => some (.d (.bool (!isNonD a)))
  | .bool a, .bool b => some (.d (.bool (!decide (a = b))))
  | _, _ => none
def flatD : PyData → Bool
  | .none | .bool _ | .int _ | .str _ => true
  | _ => false
def inF : PyData → PyData → Option Vl
  | x, .list ys => if SeqAt.shaped x && SeqAt.shaped (.list ys) then some (.d (.bool (ys.any fun z => PyData.eqv z x))) else none
  | x, .tuple ys => if flatD x && ys.all flatD then some (.d (.bool (ys.any fun z => PyData.eqv z x))) else none
  | _, _ => none
def ninF : PyData → PyData → Option Vl
  | x, .list ys => if SeqAt.shaped x && SeqAt.shaped (.list ys) then some (.d (.bool (!ys.any fun z => PyData.eqv z x))) else none
  | x, .tuple ys => if flatD x && ys.all flatD then some (.d (.bool (!ys.any fun z => PyData.eqv z x))) else none
  | _, _ => none
def ixF : PyData → PyData → Option Vl
  | .list xs, .int i => (atI xs i).map .d
  | .tuple xs, .int i => (atI xs i).map .d
  | _, _ => none
def negF : PyData → Option Vl
  | .int a => some (.d (.int (-a)))
  | _ => none
def lenF : List PyData → Option Vl
  | [.list xs] => some (.d (.int xs.length))
  | [.tuple xs] => some (.d (.int xs.length))
  | _ => none
def absF : List PyData → Option Vl
  | [.int a] => some (.d (.int (if a < 0 then -a else a)))
  | _ => none
def intF : List PyData → Option Vl
  | [.int a] => some (.d (.int a))
  | [.bool k] => some (.d (.int (if k then 1 else 0)))
  | _ => none
def intsOf : List PyData → Option (List Int)
  | [] => some []
  | .int i :: r => (intsOf r).map (i :: ·)
  | _ :: _ => none
def boolsOf : List PyData → Option (List Bool)
  | [] => some []
  | .bool i :: r => (boolsOf r).map (i :: ·)
  | _ :: _ => none
def sumF : List PyData → Option Vl
  | [.list xs] => (intsOf xs).map fun ns => .d (.int ns.sum)
  | _ => none
def allF : List PyData → Option Vl
  | [.list xs] => (boolsOf xs).map fun bs => .d (.bool (bs.all id))
  | _ => none
def anyF : List PyData → Option Vl
  | [.list xs] => (boolsOf xs).map fun bs => .d (.bool (bs.any id))
  | _ => none
def tupF : List PyData → Option Vl
  | [.list xs] => some (.d (.tuple xs))
  | [.tuple xs] => some (.d (.tuple xs))
  | _ => none
def lstF : List PyData → Option Vl
  | [.list xs] => some (.fr xs)
  | [.tuple xs] => some (.fr xs)
  | _ => none
def tyNm : PyData → String
  | .none => "NoneType"
  | .bool _ => "bool"
  | .int _ => "int"
  | .str _ => "str"
  | .list _ => "list"
  | .tuple _ => "tuple"
  | .dict _ => "dict"
def isiF (T : String) (d : PyData) : Option Vl := (kitB (tyNm d) T).map fun b => .d (.bool b)
def appendF : FM := fun xs ds => match ds with
  | [d] => if xs.length < 16777216 then some (.none, xs ++ [d]) else none
  | _ => none
def popF : FM := fun xs ds => match ds with
  | [] => (match xs[xs.length - 1]? with
    | some z => some (z, xs.dropLast)
    | none => none)
  | _ => none
def setF : FM := fun xs ds => match ds with
  | [.int i, x] => (match ixN xs.length i with
    | some j => some (.none, xs.set j x)
    | none => none)
  | _ => none
section
variable {X : Cx} {K : PySem.W.Frag}
theorem dpInt {G : Hp} {i : Int} : Dp K G (.int i) (.int i) := .int i
/-! a list added to another one, whatever is known of where they stand -/
def rCatL (K : PySem.W.Frag) : R2 := fun x y H Q => ∃ l b xs zs, x = .ref l ∧ y = .ref b ∧ SqL K H l xs ∧ SqL K H b zs ∧ xs.length + zs.length ≤ sizeLine ∧ ∀ p, H p = none → Q (.ref p) (upd H p (.lst (xs ++ zs)))
theorem op_catL : OpR X (binaryOp .Add) (rCatL X.K) := by
  rintro pins s σ H _ _ v u Q I rx ry ⟨l, b, xs, zs, rfl, rfl, h1, h2, hz, q⟩
  cases rx
  cases ry
  obtain ⟨its, r1, ⟨⟨cls, dd, data, sl⟩, n, ho, hc, hdn, hd⟩, hl1⟩ := I.list h1
  obtain ⟨its2, r2, ⟨⟨cls2, dd2, data2, sl2⟩, n2, ho2, hc2, hdn2, hd2⟩, hl2⟩ := I.list h2
  simp only at hc hd hc2 hd2
  subst hc hd hc2 hd2
  have e1 := r1.length
  have e2 := r2.length
  refine concat_meets ⟨_, ho, rfl⟩ ⟨_, ho2, rfl⟩ noFill_list_add seq_list_add PySem.F.slot_list_add PySem.F.entry_list_add (PySem.F.args_list_add_2 _ _) (list_addW l b its.toArray its2.toArray n n2 dd dd2 sl sl2 (by simp; omega)) ⟨ho, ho2, ?_⟩
  have ea : its.toArray ++ its2.toArray = (its ++ its2).toArray := by simp
  rw [ea]
  exact ⟨.ref _, _, I.lnew (t' := s.toks) (r1.append r2) (by rw [List.length_append]; omega), rfl, q _ I.fresh⟩
def rAddA (K : PySem.W.Frag) : R2 := fun x y H Q => rI0 (fun i j => .int (i + j)) x y H Q ∨ (∃ i j, x = .str i ∧ y = .str j ∧ i.length + j.length ≤ sizeLine ∧ Q (.str (i ++ j)) H) ∨ rCatA K x y H Q ∨ rCatL K x y H Q
theorem op_addA : OpR X (binaryOp .Add) (rAddA X.K) := op_add.or (op_add_str.or (op_catA.or op_catL))
theorem addD : OpD K (rAddA K) addF := by
  intro G H x y dx dy w Q sg hx hy hf q
  unfold addF at hf
  split at hf
  · cases hf; exact .inl ⟨_, _, hx.int, hy.int, q _ _ (Res.same sg (.int _))⟩
  · obtain ⟨h1, rfl⟩ := ite_some hf; exact .inr (.inl ⟨_, _, hx.str, hy.str, big_line h1, q _ _ (Res.same sg (.str _))⟩)
  · rename_i xs ys
    obtain ⟨h1, rfl⟩ := ite_some hf
    obtain ⟨a, vs, rfl, s1, d1⟩ := hx.tup sg
    obtain ⟨b, ws, rfl, s2, d2⟩ := hy.tup sg
    have e1 := d1.length
    have e2 := d2.length
    refine .inr (.inr (.inl ⟨a, b, vs, ws, rfl, rfl, s1, s2, by rw [e1, e2]; exact big_line h1, fun z => ?_, fun _ z => ?_, fun _ _ p hp => q _ _ (Res.tup sg hp (d1.append d2))⟩))
    · subst z
      have : xs = [] := by cases xs with | nil => rfl | cons _ _ => cases d1
      subst this
      rcases hy with hy | ⟨_, _, _, _, e, _⟩
      · exact q _ _ (Res.same sg hy)
      · cases e
    · subst z
      have : ys = [] := by cases ys with | nil => rfl | cons _ _ => cases d2
      subst this
      rw [List.append_nil] at q
      rcases hx with hx | ⟨_, _, _, _, e, _⟩
      · exact q _ _ (Res.same sg hx)
      · cases e
  · obtain ⟨h1, rfl⟩ := ite_some hf
    obtain ⟨a, vs, rfl, s1, d1⟩ := hx.lst sg
    obtain ⟨b, ws, rfl, s2, d2⟩ := hy.lst sg
    exact .inr (.inr (.inr ⟨a, b, vs, ws, rfl, rfl, s1, s2, by rw [d1.length, d2.length]; exact big_line h1, fun p hp => q _ _ (Res.lst sg hp (d1.append d2))⟩))
  · cases hf
theorem subD : OpD K (rI0 fun i j => .int (i - j)) subF := by
  intro G H x y dx dy w Q sg hx hy hf q
  unfold subF at hf
  split at hf
  · cases hf; exact ⟨_, _, hx.int, hy.int, q _ _ (Res.same sg (.int _))⟩
  · cases hf
theorem mulD : OpD K (rI CMul fun i j => .int (i * j)) mulF := by
  intro G H x y dx dy w Q sg hx hy hf q
  unfold mulF at hf
  split at hf
  · obtain ⟨h, rfl⟩ := ite_some hf
    refine ⟨_, _, hx.int, hy.int, ?_, q _ _ (Res.same sg (.int _))⟩
    rw [Bool.or_eq_true] at h
    exact h.imp of_decide_eq_true of_decide_eq_true
  · cases hf
theorem fdivD : OpD K (rI CDivN fun i j => .int (i.fdiv j)) fdivF := by
  intro G H x y dx dy w Q sg hx hy hf q
  unfold fdivF at hf
  split at hf
  · obtain ⟨h, rfl⟩ := ite_some hf
    simp only [Bool.and_eq_true, decide_eq_true_eq] at h
    exact ⟨_, _, hx.int, hy.int, h, q _ _ (Res.same sg (.int _))⟩
  · cases hf
theorem modD : OpD K (rI (fun _ j => j ≠ 0) fun i j => .int (i.fmod j)) modF := by
  intro G H x y dx dy w Q sg hx hy hf q
  unfold modF at hf
  split at hf
  · obtain ⟨h, rfl⟩ := ite_some hf
    exact ⟨_, _, hx.int, hy.int, of_decide_eq_true h, q _ _ (Res.same sg (.int _))⟩
  · cases hf
theorem powD : OpD K (rI CPow fun i j => .int (i ^ j.toNat)) powF := by
  intro G H x y dx dy w Q sg hx hy hf q
  unfold powF at hf
  split at hf
  · obtain ⟨h, rfl⟩ := ite_some hf
    simp only [Bool.and_eq_true, decide_eq_true_eq] at h
    exact ⟨_, _, hx.int, hy.int, ⟨h.1.1, h.1.2, h.2⟩, q _ _ (Res.same sg (.int _))⟩
  · cases hf
theorem cmpD {r : Int → Int → Bool} : OpD K (rI0 fun i j => .bl (r i j)) (cmpF r) := by
  intro G H x y dx dy w Q sg hx hy hf q
  unfold cmpF at hf
  split at hf
  · cases hf; exact ⟨_, _, hx.int, hy.int, q _ _ (Res.same sg (.bl _))⟩
  · cases hf
theorem eqD : OpD K (rEqD K) eqF := by
  intro G H x y dx dy w Q sg hx hy hf q
  obtain ⟨h, rfl⟩ := ite_some hf
  rw [Bool.and_eq_true] at h
  exact ⟨dx, dy, hx.full sg, hy.full sg, h.1, h.2, q _ _ (Res.same sg (.bl _))⟩
theorem neD : OpD K (rNeD K) neF := by
  intro G H x y dx dy w Q sg hx hy hf q
  obtain ⟨h, rfl⟩ := ite_some hf
  rw [Bool.and_eq_true] at h
  exact ⟨dx, dy, hx.full sg, hy.full sg, h.1, h.2, q _ _ (Res.same sg (.bl _))⟩
theorem isNon_iff {G H : Hp} {x : V} {dx : PyData} (h : Pk K G H x dx) : decide (x = .non) = isNonD dx := by
  rcases h with h | ⟨_, _, _, rfl, rfl, _⟩
  · cases h <;> rfl
  · rfl
def rIsA : R2 := fun x y H Q => (y = .non ∧ Q (.bl (decide (x = .non))) H) ∨ rIsB x y H Q
def rNotA : R2 := fun x y H Q => (y = .non ∧ Q (.bl (!decide (x = .non))) H) ∨ rNotB x y H Q
theorem op_isA : OpR X (compareOp .Is) rIsA := op_isN.or op_isBl
theorem op_notA : OpR X (compareOp .IsNot) rNotA := op_notN.or op_notBl
theorem isD : OpD K rIsA isF := by
  intro G H x y dx dy w Q sg hx hy hf q
  unfold isF at hf
  split at hf
  · cases hf; exact .inl ⟨hy.non, by rw [isNon_iff hx]; exact q _ _ (Res.same sg (.bl _))⟩
  · cases hf; exact .inr ⟨_, _, hx.bl, hy.bl, q _ _ (Res.same sg (.bl _))⟩
  · cases hf
theorem isntD : OpD K rNotA isntF := by
  intro G H x y dx dy w Q sg hx hy hf q
  unfold isntF at hf
  split at hf
  · cases hf; exact .inl ⟨hy.non, by rw [isNon_iff hx]; exact q _ _ (Res.same sg (.bl _))⟩
  · cases hf; exact .inr ⟨_, _, hx.bl, hy.bl, q _ _ (Res.same sg (.bl _))⟩
  · cases hf
theorem flat_dp {G H : Hp} {x : V} {d : PyData} (h : Dp K H x d) (hf : flatD d = true) : flatV x = true := by
  cases h <;> first | rfl | cases hf
theorem flats_dp {H : Hp} : ∀ {xs : List V} {ds : List PyData}, DpAll K H xs ds → ds.all flatD = true → xs.all flatV = true
  | [], _, _, _ => rfl
  | x :: xs, _, h, hf => by
    cases h with
    | cons h1 h2 =>
      rw [List.all_cons, Bool.and_eq_true] at hf
      rw [List.all_cons, Bool.and_eq_true]
      exact ⟨flat_dp (G := H) h1 hf.1, flats_dp h2 hf.2⟩
theorem eqV_dp {H : Hp} {x y : V} {d e : PyData} (h1 : Dp K H x d) (h2 : Dp K H y e) (f1 : flatD d = true) (f2 : flatD e = true) : eqV x y = PyData.eqv d e := by
  cases h1 <;> cases h2 <;> first | rfl | cases f1 | cases f2 | simp [eqV, PyData.eqv]
theorem inV_dp {H : Hp} {x : V} {d : PyData} (h : Dp K H x d) (f : flatD d = true) : ∀ {ys : List V} {ds : List PyData}, DpAll K H ys ds → ds.all flatD = true → inV x ys = ds.any fun z => PyData.eqv z d
  | [], _, h2, _ => by cases h2; rfl
  | y :: ys, _, h2, hf => by
    cases h2 with
    | cons g1 g2 =>
      rw [List.all_cons, Bool.and_eq_true] at hf
      have ih := inV_dp h f g2 hf.2
      unfold inV at ih ⊢
      rw [List.any_cons, List.any_cons, eqV_dp g1 h hf.1 f, ih]
def rInA (K : PySem.W.Frag) : R2 := fun x y H Q => rInD K x y H Q ∨ rIn K false x y H Q
def rNinA (K : PySem.W.Frag) : R2 := fun x y H Q => rNotInD K x y H Q ∨ rIn K true x y H Q
theorem op_inA (hu : X.A.units + 65 < cLine) : OpR X (compareOp .In) (rInA X.K) := (op_inD hu).or op_in_seq
theorem op_ninA (hu : X.A.units + 65 < cLine) : OpR X (compareOp .NotIn) (rNinA X.K) := (op_notInD hu).or op_notIn_seq
theorem inD : OpD K (rInA K) inF := by
  intro G H x y dx dy w Q sg hx hy hf q
  unfold inF at hf
  split at hf
  · obtain ⟨h, rfl⟩ := ite_some hf
    rw [Bool.and_eq_true] at h
    exact .inl ⟨_, _, hx.full sg, hy.full sg, h.1, h.2, q _ _ (Res.same sg (.bl _))⟩
  · obtain ⟨h, rfl⟩ := ite_some hf
    rw [Bool.and_eq_true] at h
    obtain ⟨a, vs, rfl, s1, d1⟩ := hy.tup sg
    have d1' := DpAll.mono sg _ _ d1
    refine .inr ⟨a, vs, rfl, .inr s1, flat_dp (G := G) (hx.full sg) h.1, flats_dp d1' h.2, ?_⟩
    rw [inV_dp (hx.full sg) h.1 d1' h.2]
    exact q _ _ (Res.same sg (.bl _))
  · cases hf
theorem ninD : OpD K (rNinA K) ninF := by
  intro G H x y dx dy w Q sg hx hy hf q
  unfold ninF at hf
  split at hf
  · obtain ⟨h, rfl⟩ := ite_some hf
    rw [Bool.and_eq_true] at h
    exact .inl ⟨_, _, hx.full sg, hy.full sg, h.1, h.2, q _ _ (Res.same sg (.bl _))⟩
  · obtain ⟨h, rfl⟩ := ite_some hf
    rw [Bool.and_eq_true] at h
    obtain ⟨a, vs, rfl, s1, d1⟩ := hy.tup sg
    have d1' := DpAll.mono sg _ _ d1
    refine .inr ⟨a, vs, rfl, .inr s1, flat_dp (G := G) (hx.full sg) h.1, flats_dp d1' h.2, ?_⟩
    rw [inV_dp (hx.full sg) h.1 d1' h.2]
    exact q _ _ (Res.same sg (.bl _))
  · cases hf
theorem atI_map {α β : Type} {xs : List α} {ys : List β} (hl : xs.length = ys.length) {i : Int} {d : β} (h : atI ys i = some d) : ∃ j, ixN xs.length i = some j ∧ ys[j]? = some d := by
  unfold atI at h
  rw [← hl] at h
  obtain ⟨j, h1, h2⟩ := Option.bind_eq_some_iff.mp h
  exact ⟨j, h1, h2⟩
def rIxA (K : PySem.W.Frag) : R2 := fun x y H Q => rIxL K x y H Q ∨ rIxT K x y H Q
theorem ix_A : IxR X (rIxA X.K) := ix_list.or ix_tup
theorem ixD : OpD K (rIxA K) ixF := by
  intro G H x y dx dy w Q sg hx hy hf q
  unfold ixF at hf
  split at hf
  · rename_i xs i
    obtain ⟨d, h1, rfl⟩ := Option.map_eq_some_iff.mp hf
    obtain ⟨a, vs, rfl, s1, d1⟩ := hx.lst sg
    obtain ⟨j, h2, h3⟩ := atI_map d1.length h1
    obtain ⟨v, hv, hd⟩ := d1.get h3
    exact .inl ⟨a, vs, i, v, rfl, hy.int, s1, by unfold atI; rw [h2]; exact hv, q _ _ (Res.same sg hd)⟩
  · rename_i xs i
    obtain ⟨d, h1, rfl⟩ := Option.map_eq_some_iff.mp hf
    obtain ⟨a, vs, rfl, s1, d1⟩ := hx.tup sg
    obtain ⟨j, h2, h3⟩ := atI_map d1.length h1
    obtain ⟨v, hv, hd⟩ := d1.get h3
    exact .inr ⟨a, vs, i, v, rfl, hy.int, s1, by unfold atI; rw [h2]; exact hv, q _ _ (Res.same sg hd)⟩
  · cases hf
theorem negD : UnD K (rU fun i => .int (-i)) negF := by
  intro G H x dx w Q sg hx hf q
  unfold negF at hf
  split at hf
  · cases hf; exact ⟨_, hx.int, q _ _ (Res.same sg (.int _))⟩
  · cases hf
/-! calls of built-ins -/
theorem pk1 {G H : Hp} {vs : List V} {d : PyData} (h : PkAll K G H vs [d]) : ∃ v, vs = [v] ∧ Pk K G H v d := by
  cases vs with
  | nil => cases h
  | cons v vs =>
    obtain ⟨d', es, e, h1, h2⟩ := h
    cases e
    cases vs with
    | nil => exact ⟨v, rfl, h1⟩
    | cons _ _ => obtain ⟨_, _, e, _⟩ := h2; cases e
theorem lenD : CallD K (fun xs H Q => ∃ p ys, xs = [.ref p] ∧ (SqL K H p ys ∨ SqT K H p ys) ∧ Q (.int ys.length) H) lenF := by
  intro G H vs ds w Q sg hv hf q
  unfold lenF at hf
  split at hf
  · cases hf
    obtain ⟨v, rfl, h⟩ := pk1 hv
    obtain ⟨a, us, rfl, s1, d1⟩ := h.lst sg
    exact ⟨a, us, rfl, .inl s1, by rw [d1.length]; exact q _ _ (Res.same sg (.int _))⟩
  · cases hf
    obtain ⟨v, rfl, h⟩ := pk1 hv
    obtain ⟨a, us, rfl, s1, d1⟩ := h.tup sg
    exact ⟨a, us, rfl, .inr s1, by rw [d1.length]; exact q _ _ (Res.same sg (.int _))⟩
  · cases hf
theorem absD : CallD K (fun xs H Q => ∃ i, xs = [.int i] ∧ Q (.int (if i < 0 then -i else i)) H) absF := by
  intro G H vs ds w Q sg hv hf q
  unfold absF at hf
  split at hf
  · cases hf
    obtain ⟨v, rfl, h⟩ := pk1 hv
    exact ⟨_, by rw [h.int], q _ _ (Res.same sg (.int _))⟩
  · cases hf
theorem intD : CallD K (fun xs H Q => (∃ i, xs = [.int i] ∧ Q (.int i) H) ∨ ∃ k, xs = [.bl k] ∧ Q (.int (if k then 1 else 0)) H) intF := by
  intro G H vs ds w Q sg hv hf q
  unfold intF at hf
  split at hf
  · cases hf
    obtain ⟨v, rfl, h⟩ := pk1 hv
    exact .inl ⟨_, by rw [h.int], q _ _ (Res.same sg (.int _))⟩
  · cases hf
    obtain ⟨v, rfl, h⟩ := pk1 hv
    exact .inr ⟨_, by rw [h.bl], q _ _ (Res.same sg (.int _))⟩
  · cases hf
theorem ints_dp {G : Hp} : ∀ {vs : List V} {xs : List PyData} {ns : List Int}, DpAll K G vs xs → intsOf xs = some ns → vs = ns.map V.int
  | [], _, _, h, e => by cases h; cases e; rfl
  | v :: vs, _, ns, h, e => by
    cases h with
    | cons h1 h2 =>
      rename_i d ds
      cases d <;> simp [intsOf] at e
      obtain ⟨m, e1, rfl⟩ := e
      cases h1
      rw [ints_dp h2 e1]
      rfl
theorem bools_dp {G : Hp} : ∀ {vs : List V} {xs : List PyData} {ns : List Bool}, DpAll K G vs xs → boolsOf xs = some ns → vs = ns.map V.bl
  | [], _, _, h, e => by cases h; cases e; rfl
  | v :: vs, _, ns, h, e => by
    cases h with
    | cons h1 h2 =>
      rename_i d ds
      cases d <;> simp [boolsOf] at e
      obtain ⟨m, e1, rfl⟩ := e
      cases h1
      rw [bools_dp h2 e1]
      rfl
theorem sumD : CallD K (rSum K) sumF := by
  intro G H vs ds w Q sg hv hf q
  unfold sumF at hf
  split at hf
  · obtain ⟨ns, h1, rfl⟩ := Option.map_eq_some_iff.mp hf
    obtain ⟨v, rfl, h⟩ := pk1 hv
    obtain ⟨a, us, rfl, s1, d1⟩ := h.lst sg
    exact ⟨a, ns, rfl, by rw [← ints_dp d1 h1]; exact s1, q _ _ (Res.same sg (.int _))⟩
  · cases hf
theorem allD : CallD K (rAll K) allF := by
  intro G H vs ds w Q sg hv hf q
  unfold allF at hf
  split at hf
  · obtain ⟨ns, h1, rfl⟩ := Option.map_eq_some_iff.mp hf
    obtain ⟨v, rfl, h⟩ := pk1 hv
    obtain ⟨a, us, rfl, s1, d1⟩ := h.lst sg
    exact ⟨a, ns, rfl, by rw [← bools_dp d1 h1]; exact s1, q _ _ (Res.same sg (.bl _))⟩
  · cases hf
theorem anyD : CallD K (rAny K) anyF := by
  intro G H vs ds w Q sg hv hf q
  unfold anyF at hf
  split at hf
  · obtain ⟨ns, h1, rfl⟩ := Option.map_eq_some_iff.mp hf
    obtain ⟨v, rfl, h⟩ := pk1 hv
    obtain ⟨a, us, rfl, s1, d1⟩ := h.lst sg
    exact ⟨a, ns, rfl, by rw [← bools_dp d1 h1]; exact s1, q _ _ (Res.same sg (.bl _))⟩
  · cases hf
theorem tupD : CallD K (fun xs H Q => ∃ p ys, xs = [.ref p] ∧ ((SqL K H p ys ∧ ∀ l, H l = none → Q (.ref l) (upd H l (.tup ys))) ∨ (SqT K H p ys ∧ Q (.ref p) H))) tupF := by
  intro G H vs ds w Q sg hv hf q
  unfold tupF at hf
  split at hf
  · cases hf
    obtain ⟨v, rfl, h⟩ := pk1 hv
    obtain ⟨a, us, rfl, s1, d1⟩ := h.lst sg
    exact ⟨a, us, rfl, .inl ⟨s1, fun l hl => q _ _ (Res.tup sg hl d1)⟩⟩
  · cases hf
    obtain ⟨v, rfl, h⟩ := pk1 hv
    have h' := h
    obtain ⟨a, us, rfl, s1, d1⟩ := h.tup sg
    rcases h' with h' | ⟨_, _, _, _, e, _⟩
    · exact ⟨a, us, rfl, .inr ⟨s1, q _ _ (Res.same sg h')⟩⟩
    · cases e
  · cases hf
theorem lstD : CallD K (fun xs H Q => ∃ p ys, xs = [.ref p] ∧ (SqL K H p ys ∨ SqT K H p ys) ∧ ∀ l, H l = none → Q (.ref l) (upd H l (.lst ys))) lstF := by
  intro G H vs ds w Q sg hv hf q
  unfold lstF at hf
  split at hf
  · cases hf
    obtain ⟨v, rfl, h⟩ := pk1 hv
    obtain ⟨a, us, rfl, s1, d1⟩ := h.lst sg
    exact ⟨a, us, rfl, .inl s1, fun l hl => q _ _ (Res.lst sg hl d1)⟩
  · cases hf
    obtain ⟨v, rfl, h⟩ := pk1 hv
    obtain ⟨a, us, rfl, s1, d1⟩ := h.tup sg
    exact ⟨a, us, rfl, .inr s1, fun l hl => q _ _ (Res.lst sg hl d1)⟩
  · cases hf
theorem tyX_dp {H : Hp} {v : V} {d : PyData} (h : Dp K H v d) : TyX K H v (.type (tyNm d)) := by
  cases h with
  | non => exact .base .non
  | bl b => exact .base (.bl b)
  | int i => exact .base (.int i)
  | str x => exact .base (.str x)
  | lst h1 h2 =>
    rcases h1 with (h1 | ⟨o, h1⟩) | ⟨o, its, n, h1, h3, _⟩
    · exact .base (.lst h1)
    · exact .base (.frz h1)
    · exact .kList h1 h3
  | tup h1 h2 =>
    rcases h1 with (h1 | ⟨o, h1⟩) | ⟨o, its, n, h1, h3, _⟩
    · exact .base (.tup h1)
    · exact .fTuple h1
    · exact .kTuple h1 h3
theorem pd_isi {B : Bs} {W : XW} {fa : Mo Vl} {T : String} {e0 : Expr} (h : PE X e0 (tCB (rIsi X.K) (tCons (tD X.K B W fa) (tCons (tC (.ty T)) tNil)))) : PE X e0 (tD X.K B W (eUn (isiF T) fa)) := by
  refine h.imp fun σ H Q ⟨e, t, val, s, h⟩ => ?_
  refine ⟨e, t, val, s, (Fin.bnd h).imp fun r1 e1 _ h1 v1 H1 t1 val1 ag1 s1 at1 => ?_⟩
  obtain ⟨d1, e3, p1, h3⟩ := Fin.peek (Fin.bnd h1)
  obtain ⟨rfl, k1⟩ := peek_ok s1 at1.weak p1
  obtain ⟨w, hw, h5⟩ := Fin.lift h3
  obtain ⟨b, hb, rfl⟩ := Option.map_eq_some_iff.mp hw
  exact ⟨v1, .ty T, _, _, b, rfl, .ty T, tyX_dp (k1.full minus_sub), kit_ty hb, Got.scal (Got.back (e := e3) h5 ag1 s1) s1 fun _ => .bl b⟩
/-! lists changed -/
theorem appendM : MutD K rAppend appendF := by
  intro G H a us vs0 xs ds z ys Q sg ha hH hx hd hf q
  unfold appendF at hf
  split at hf
  · obtain ⟨h1, h2⟩ := ite_some hf
    cases h2
    cases hd with
    | cons h3 h4 =>
      cases h4
      exact ⟨a, vs0, _, rfl, rfl, hH, by rw [hx.length, sizeLine_eq]; exact h1, q _ _ (hx.append (.cons h3 .nil)) .non⟩
  · cases hf
theorem popM : MutD K rPop popF := by
  intro G H a us vs0 xs ds z ys Q sg ha hH hx hd hf q
  unfold popF at hf
  split at hf
  · cases hd
    cases e : xs[xs.length - 1]? with
    | none => simp only [e] at hf; cases hf
    | some d =>
      simp only [e] at hf
      cases hf
      obtain ⟨v, hv, hvd⟩ := hx.get e
      exact ⟨a, vs0, v, rfl, rfl, hH, by rw [hx.length]; exact hv, q _ _ hx.dropLast hvd⟩
  · cases hf
theorem setM : SetD K rSetL setF := by
  intro G H a i v vs0 xs di x z ys Q sg ha hH hx hi hv hf q
  unfold setF at hf
  split at hf
  · rename_i k x' he
    cases he
    cases e : ixN xs.length k with
    | none => simp only [e] at hf; cases hf
    | some j =>
      simp only [e] at hf
      cases hf
      exact ⟨a, vs0, k, j, rfl, hi.int, hH, by rw [hx.length]; exact e, q _ (hx.set hv j)⟩
  · cases hf
end
end L2.DL

namespace L2.DL
open PySem PySem.Spec PyProof.Rows RZ
/-! ### short words -/
section
variable {X : Cx} {B : Bs} {W : XW} {a b c : Expr} {pos : Pos} {fa fb fc : Mo Vl} {es : List Expr} {ar : Mo (List Vl)} {p : Pos}
theorem d_var (i : Nat) {x : Str} (hN : X.N[i]? = some x := by rfl) (hv : Vis X.env.scope x := by first | exact Or.inl rfl | exact Or.inr (Or.inl rfl) | exact Or.inr (Or.inr rfl)) (hd : (x == ("__debug__" : Str)) = false := by decide)
    (hcd : (x == ("__classdict__" : Str)) = false := by decide) : PE X (.Name x pos) (tD X.K B W (eVar i)) := pd_var (pe_var hN hv hd hcd)
theorem d_int {i : Int} {j : Nat} : PE X (.Constant (.int i) j pos) (tD X.K B W (eC (.int i))) := pd_c pe_int fun _ => .int i
theorem d_bl {k : Bool} {j : Nat} : PE X (.Constant (.bool k) j pos) (tD X.K B W (eC (.bool k))) := pd_c pe_bl fun _ => .bl k
theorem d_non {j : Nat} : PE X (.Constant .none j pos) (tD X.K B W (eC .none)) := pd_c pe_non fun _ => .non
theorem d_str {x : Str} {j : Nat} : PE X (.Constant (.str x) j pos) (tD X.K B W (eC (.str x))) := pd_c pe_str fun _ => .str x
theorem d_gint {x : Str} {i : Int} {t : Tok} (hm : X.mg x = some (.int i t)) (hg : Gl X x := by rfl) (hd : (x == ("__debug__" : Str)) = false := by decide) : PE X (.Name x pos) (tD X.K B W (eC (.int i))) := pd_c (v := .int i) (pe_glob hg hm ⟨t, rfl⟩ hd) fun _ => .int i
variable (ha : PE X a (tD X.K B W fa)) (hb : PE X b (tD X.K B W fb)) (hc : PE X c (tD X.K B W fc)) (har : PA X es (tA X.K B W ar))
include ha hb
theorem d_add : PE X (.BinOp a .Add b pos) (tD X.K B W (eBin addF fa fb)) := pd_op (pe_op op_addA ha hb) addD
theorem d_sub : PE X (.BinOp a .Sub b pos) (tD X.K B W (eBin subF fa fb)) := pd_op (pe_op op_sub ha hb) subD
theorem d_mul : PE X (.BinOp a .Mult b pos) (tD X.K B W (eBin mulF fa fb)) := pd_op (pe_op op_mul ha hb) mulD
theorem d_fdiv : PE X (.BinOp a .FloorDiv b pos) (tD X.K B W (eBin fdivF fa fb)) := pd_op (pe_op op_fdivN ha hb) fdivD
theorem d_mod : PE X (.BinOp a .Mod b pos) (tD X.K B W (eBin modF fa fb)) := pd_op (pe_op op_modN ha hb) modD
theorem d_pow : PE X (.BinOp a .Pow b pos) (tD X.K B W (eBin powF fa fb)) := pd_op (pe_op op_pow ha hb) powD
theorem d_lt : PE X (.Compare a [.Lt] [b] pos) (tD X.K B W (eBin ltF fa fb)) := pd_op (pe_cmpR op_lt ha hb (nomark _)) cmpD
theorem d_le : PE X (.Compare a [.LtE] [b] pos) (tD X.K B W (eBin leF fa fb)) := pd_op (pe_cmpR op_le ha hb (nomark _)) cmpD
theorem d_gt : PE X (.Compare a [.Gt] [b] pos) (tD X.K B W (eBin gtF fa fb)) := pd_op (pe_cmpR op_gt ha hb (nomark _)) cmpD
theorem d_ge : PE X (.Compare a [.GtE] [b] pos) (tD X.K B W (eBin geF fa fb)) := pd_op (pe_cmpR op_ge ha hb (nomark _)) cmpD
theorem d_is : PE X (.Compare a [.Is] [b] pos) (tD X.K B W (eBin isF fa fb)) := pd_op (pe_cmpR op_isA ha hb (nomark _)) isD
theorem d_isnt : PE X (.Compare a [.IsNot] [b] pos) (tD X.K B W (eBin isntF fa fb)) := pd_op (pe_cmpR op_notA ha hb (nomark _)) isntD
theorem d_eq (hu : X.A.units + 64 < cLine) : PE X (.Compare a [.Eq] [b] pos) (tD X.K B W (eBin eqF fa fb)) := pd_op (pe_cmpR (op_eqD hu) ha hb (nomark _)) eqD
theorem d_ne (hu : X.A.units + 64 < cLine) : PE X (.Compare a [.NotEq] [b] pos) (tD X.K B W (eBin neF fa fb)) := pd_op (pe_cmpR (op_neD hu) ha hb (nomark _)) neD
theorem d_isin (hu : X.A.units + 65 < cLine) (hm : behindInMarks .In b = false := by rfl) : PE X (.Compare a [.In] [b] pos) (tD X.K B W (eBin inF fa fb)) := pd_op (pe_cmpR (op_inA hu) ha hb hm) inD
theorem d_notin (hu : X.A.units + 65 < cLine) (hm : behindInMarks .NotIn b = false := by rfl) : PE X (.Compare a [.NotIn] [b] pos) (tD X.K B W (eBin ninF fa fb)) := pd_op (pe_cmpR (op_ninA hu) ha hb hm) ninD
theorem t_lt : PT X (.Compare a [.Lt] [b] pos) (tT X.K B W (cV (eBin ltF fa fb))) := pdt_val (pt_cmpR op_lt ha hb (nomark _)) (op_imp cmpD)
theorem t_le : PT X (.Compare a [.LtE] [b] pos) (tT X.K B W (cV (eBin leF fa fb))) := pdt_val (pt_cmpR op_le ha hb (nomark _)) (op_imp cmpD)
theorem t_gt : PT X (.Compare a [.Gt] [b] pos) (tT X.K B W (cV (eBin gtF fa fb))) := pdt_val (pt_cmpR op_gt ha hb (nomark _)) (op_imp cmpD)
theorem t_ge : PT X (.Compare a [.GtE] [b] pos) (tT X.K B W (cV (eBin geF fa fb))) := pdt_val (pt_cmpR op_ge ha hb (nomark _)) (op_imp cmpD)
theorem t_is : PT X (.Compare a [.Is] [b] pos) (tT X.K B W (cV (eBin isF fa fb))) := pdt_val (pt_cmpR op_isA ha hb (nomark _)) (op_imp isD)
theorem t_isnt : PT X (.Compare a [.IsNot] [b] pos) (tT X.K B W (cV (eBin isntF fa fb))) := pdt_val (pt_cmpR op_notA ha hb (nomark _)) (op_imp isntD)
theorem t_eq (hu : X.A.units + 64 < cLine) : PT X (.Compare a [.Eq] [b] pos) (tT X.K B W (cV (eBin eqF fa fb))) := pdt_val (pt_cmpR (op_eqD hu) ha hb (nomark _)) (op_imp eqD)
theorem t_ne (hu : X.A.units + 64 < cLine) : PT X (.Compare a [.NotEq] [b] pos) (tT X.K B W (cV (eBin neF fa fb))) := pdt_val (pt_cmpR (op_neD hu) ha hb (nomark _)) (op_imp neD)
theorem t_isin (hu : X.A.units + 65 < cLine) (hm : behindInMarks .In b = false := by rfl) : PT X (.Compare a [.In] [b] pos) (tT X.K B W (cV (eBin inF fa fb))) := pdt_val (pt_cmpR (op_inA hu) ha hb hm) (op_imp inD)
theorem t_notin (hu : X.A.units + 65 < cLine) (hm : behindInMarks .NotIn b = false := by rfl) : PT X (.Compare a [.NotIn] [b] pos) (tT X.K B W (cV (eBin ninF fa fb))) := pdt_val (pt_cmpR (op_ninA hu) ha hb hm) (op_imp ninD)
theorem d_ix (hs : PlainIx b := by exact fun _ _ => rfl) : PE X (.Subscript a b pos) (tD X.K B W (eBin ixF fa fb)) := pd_op (pe_ix ix_A ha hb hs) ixD
include hc
theorem d_lele (hm : lastMarks [.LtE, .LtE] [b, c] = false := by with_unfolding_all rfl) : PE X (.Compare a [.LtE, .LtE] [b, c] pos) (tD X.K B W (eChain leF leF fa fb fc)) := (pe_chain op_le op_le ha hb hc hm).imp (chain_imp cmpD cmpD)
theorem d_lelt (hm : lastMarks [.LtE, .Lt] [b, c] = false := by with_unfolding_all rfl) : PE X (.Compare a [.LtE, .Lt] [b, c] pos) (tD X.K B W (eChain leF ltF fa fb fc)) := (pe_chain op_le op_lt ha hb hc hm).imp (chain_imp cmpD cmpD)
theorem t_lele (hm : lastMarks [.LtE, .LtE] [b, c] = false := by with_unfolding_all rfl) : PT X (.Compare a [.LtE, .LtE] [b, c] pos) (tT X.K B W (cV (eChain leF leF fa fb fc))) := pdt_val (pt_chain op_le op_le ha hb hc hm) (chain_imp cmpD cmpD)
theorem t_lelt (hm : lastMarks [.LtE, .Lt] [b, c] = false := by with_unfolding_all rfl) : PT X (.Compare a [.LtE, .Lt] [b, c] pos) (tT X.K B W (cV (eChain leF ltF fa fb fc))) := pdt_val (pt_chain op_le op_lt ha hb hc hm) (chain_imp cmpD cmpD)
omit hc hb
theorem d_neg : PE X (.UnaryOp .USub a pos) (tD X.K B W (eUn negF fa)) := pd_un (pe_un un_neg ha) negD
theorem d_not : PE X (.UnaryOp .Not a pos) (tD X.K B W (eUn notF fa)) := pd_not ha
theorem t_val (he : ∀ whole, isTrue a X.env whole = (do let v ← whole; standAt a.pos; holding [v] (truthy v)) := by intro _; rfl) : PT X a (tT X.K B W (cV fa)) := pdt_val (pt_val ha he) fun _ _ _ h => h
theorem d_isi {x : Str} {n : String} {q : Pos} (hi : X.mg "isinstance" = none) (hT : PE X (.Name x q) (tC (.ty n))) (hg : Gl X "isinstance" := by rfl) (he1 : starEach [a, .Name x q] X.env = (false, eval a X.env) :: starEach [.Name x q] X.env := by rfl)
    (he2 : starEach [Expr.Name x q] X.env = (false, eval (.Name x q) X.env) :: starEach [] X.env := by rfl) (hpl : (backTo pos (starEach [Expr.Name x q] X.env)).any (·.1) = false := by rfl) : PE X (.Call (.Name "isinstance" p) [a, .Name x q] [] pos) (tD X.K B W (eUn (isiF n) fa)) :=
  pd_isi (pe_callB call_isi hg hi (by decide +kernel) (pa_cons ha (pa_cons hT pa_nil he2) he1) (he := he1) (hpl := hpl))
end
/-- a built-in type as a value -/
theorem ty_int {X : Cx} {q : Pos} (hm : X.mg "int" = none) (hg : Gl X "int" := by rfl) : PE X (.Name "int" q) (tC (.ty "int")) := pe_bltn hg hm (by decide +kernel) rfl
theorem ty_bool {X : Cx} {q : Pos} (hm : X.mg "bool" = none) (hg : Gl X "bool" := by rfl) : PE X (.Name "bool" q) (tC (.ty "bool")) := pe_bltn hg hm (by decide +kernel) rfl
theorem ty_tuple {X : Cx} {q : Pos} (hm : X.mg "tuple" = none) (hg : Gl X "tuple" := by rfl) : PE X (.Name "tuple" q) (tC (.ty "tuple")) := pe_bltn hg hm (by decide +kernel) rfl
theorem ty_list {X : Cx} {q : Pos} (hm : X.mg "list" = none) (hg : Gl X "list" := by rfl) : PE X (.Name "list" q) (tC (.ty "list")) := pe_bltn hg hm (by decide +kernel) rfl
theorem ty_str {X : Cx} {q : Pos} (hm : X.mg "str" = none) (hg : Gl X "str" := by rfl) : PE X (.Name "str" q) (tC (.ty "str")) := pe_bltn hg hm (by decide +kernel) rfl
end L2.DL
namespace L2.DL
open PySem PySem.Spec PyProof.Rows RZ
/-! ### defs by name -/
structure Cal (P : Program) (w : World) (K : PySem.W.Frag) (mg : Str → Option Value) (base : Heap) (x : Str) (st : Stmt) (k : Nat) (ps : List Str) (sp : Sp) : Prop where
  ex : ∃ f fd, Fun K x x st f fd ∧ FnG P w K mg base (L2.CX P w) k f fd ps sp ∧ mg x = some (.ref f) ∧ Binds K fd ps []
section
variable {X : Cx} {B : Bs} {W : XW} {pos p : Pos} {x : Str} {st : Stmt} {k n : Nat} {ps : List Str} {XC : XCl} {F : List PyData → Option FR} {FM : FM} {E : XK} {e : Expr} {es : List Expr} {ar br : Mo (List Vl)} {kws : List Keyword}
theorem d_call (C : Cal X.prog X.w X.K X.mg X.base x st k ps (spP X.K XC n F)) (hG : X.A.guards = some []) (hr : Room k X.A) (hx : Passes (L2.CX X.prog X.w) X E) (hE : ∀ c C d σ H, XC c C → W c d σ H → E (.ref C) (some d) H) (har : PA X (e :: es) (tA X.K B W ar))
    (hg : Gl X x := by rfl) (hdb : (x == ("__debug__" : Str)) = false := by decide) (he : starEach (e :: es) X.env = (false, eval e X.env) :: starEach es X.env := by rfl) (hpl : (backTo pos (starEach es X.env)).any (·.1) = false := by rfl) :
    PE X (.Call (.Name x p) (e :: es) [] pos) (tD X.K B W (eFn n F ar)) := by
  obtain ⟨f, fd, Ff, G, hm, hb⟩ := C.ex
  exact pd_fn (peG_call G hG hr hg hm Ff.kp hb hx har hdb he hpl) hE
theorem d_callM (C : Cal X.prog X.w X.K X.mg X.base x st k ps (spM X.K n FM)) (hG : X.A.guards = some []) (hr : Room k X.A) (hx : Passes (L2.CX X.prog X.w) X E) (har : PA X (e :: es) (tA X.K B W ar))
    (hg : Gl X x := by rfl) (hdb : (x == ("__debug__" : Str)) = false := by decide) (he : starEach (e :: es) X.env = (false, eval e X.env) :: starEach es X.env := by rfl) (hpl : (backTo pos (starEach es X.env)).any (·.1) = false := by rfl) :
    PE X (.Call (.Name x p) (e :: es) [] pos) (tD X.K B W (eFnM n FM ar)) := by
  obtain ⟨f, fd, Ff, G, hm, hb⟩ := C.ex
  exact pd_fnM (peG_call G hG hr hg hm Ff.kp hb hx har hdb he hpl)
/-- how the keywords ks bind to the parameters ps of the def st called x -/
structure KwOk (x : Str) (st : Stmt) (ps ks : List Str) (g : List Value → List Value → List Value) (gV : List V → List V → List V) (gD : List PyData → List PyData → List PyData) : Prop where
  to : ∀ (kV doc pm : Value) (an : Option Addr) (cdv ct : Value) (us ws : List Value), (g us ws).length = ps.length → bindArgs (PySem.W.fnOf x x (defArgs st) (defBody st) (defScope st) .none kV doc pm an cdv ct) ⟨us, ks.zip ws⟩ = pure (ps.zip (g us ws))
  rel : ∀ {vs : List V} {us : List Value} {zs : List V} {ws : List Value}, Vals vs us → Vals zs ws → Vals (gV vs zs) (g us ws)
  perm : KPerm gV gD
theorem KwOk.binds {K : PySem.W.Frag} {f : Addr} {fd : FuncData} {ks : List Str} {g gV gD} (h : KwOk x st ps ks g gV gD) (F : Fun K x x st f fd) : KBinds K fd ps ks g gV := by
  obtain ⟨oc, od, kV, doc, pm, an, cdv, ct, osl, rfl, lk, hcd⟩ := F.ex
  exact ⟨fun s us ws _ hl => .of_eq (h.to kV doc pm an cdv ct us ws hl), h.rel⟩
theorem d_callK {ks : List Str} {g gV gD} (C : Cal X.prog X.w X.K X.mg X.base x st k ps (spP X.K XC n F)) (kw : KwOk x st ps ks g gV gD) (hG : X.A.guards = some []) (hr : Room k X.A) (hx : Passes (L2.CX X.prog X.w) X E) (hE : ∀ c C d σ H, XC c C → W c d σ H → E (.ref C) (some d) H)
    (har : PA X (e :: es) (tA X.K B W ar)) (hkw : PK X kws (tA X.K B W br)) (hg : Gl X x := by rfl) (hall : (backToKw pos (keywordEach kws X.env)).all (·.1.isSome) = true := by rfl) (hks : (backToKw pos (keywordEach kws X.env)).filterMap (·.1) = ks := by rfl)
    (hdb : (x == ("__debug__" : Str)) = false := by decide) (he : starEach (e :: es) X.env = (false, eval e X.env) :: starEach es X.env := by rfl)
    (hpl : ((backTo pos (starEach (e :: es) X.env)).any (·.1) || (backToKw pos (keywordEach kws X.env)).any (·.1.isNone)) = false := by rfl) : PE X (.Call (.Name x p) (e :: es) kws pos) (tD X.K B W (eFnK n F gD ar br)) := by
  obtain ⟨f, fd, Ff, G, hm, hb⟩ := C.ex
  exact pd_fnK (peG_callK G hG hr hg hm Ff.kp (kw.binds Ff) hx har hkw hall hks hdb he hpl) kw.perm hE
theorem d_callK0 {ks : List Str} {g gV gD} (C : Cal X.prog X.w X.K X.mg X.base x st k ps (spP X.K XC n F)) (kw : KwOk x st ps ks g gV gD) (hG : X.A.guards = some []) (hr : Room k X.A) (hx : Passes (L2.CX X.prog X.w) X E) (hE : ∀ c C d σ H, XC c C → W c d σ H → E (.ref C) (some d) H)
    (hkw : PK X kws (tA X.K B W br)) (hg : Gl X x := by rfl) (hall : (backToKw pos (keywordEach kws X.env)).all (·.1.isSome) = true := by rfl) (hks : (backToKw pos (keywordEach kws X.env)).filterMap (·.1) = ks := by rfl)
    (hdb : (x == ("__debug__" : Str)) = false := by decide) (hpl : ((backTo pos (starEach [] X.env)).any (·.1) || (backToKw pos (keywordEach kws X.env)).any (·.1.isNone)) = false := by rfl) : PE X (.Call (.Name x p) [] kws pos) (tD X.K B W (eFnK n F gD aNil br)) := by
  obtain ⟨f, fd, Ff, G, hm, hb⟩ := C.ex
  exact pd_fnK0 (peG_callK0 G hG hr hg hm Ff.kp (kw.binds Ff) hx hkw hall hks hdb hpl) kw.perm hE
theorem hE0 : ∀ (c : Str) (C d : Addr) (σ : St) (H : Hp), XC c C → (W0 : XW) c d σ H → E0 (.ref C) (some d) H := fun _ _ _ _ _ _ h => h.elim
/-- comprehensions -/
theorem d_lc {elt tg iter : Expr} {ifs : List Expr} {scope : Scope} {own : List (Str × Nat)} {it : Mo (List PyData)} {bind : Bd} {cond : Mo Bool} {fe : Mo Vl} {ix : List Nat} (hc : X.calm = true) (hN : X.N.Nodup) (ok : BlkOk X.N X.env.scope scope own) (hi : PI X tg iter (tI X.K B W it))
    (hg : ∀ (s : Shared) (H : Hp) (C : Addr) (cl : List (Str × Addr)) (fp : List Addr), PG (X.blk s H scope (compEnvC scope cl C X.env) fp) tg (tG X.K B W0 ix bind)) (ht : ∀ (s : Shared) (H : Hp) (C : Addr) (cl : List (Str × Addr)) (fp : List Addr), PTs (X.blk s H scope (compEnvC scope cl C X.env) fp) ifs (tT X.K B W0 cond))
    (he : ∀ (s : Shared) (H : Hp) (C : Addr) (cl : List (Str × Addr)) (fp : List Addr), PE (X.blk s H scope (compEnvC scope cl C X.env) fp) elt (tD X.K B W0 fe)) (hix : ∀ j ∈ ix, j ∈ own.map (·.2)) (hs : ∀ x, foldedSetIterable iter X.env x = pure x := by intro _; rfl) :
    PE X (.ListComp elt [⟨tg, iter, ifs, 0⟩] scope pos) (tD X.K B W (eLc it bind cond fe (own.map (·.2)))) := (pe_lc hc hN hi ok hg ht he hs).imp (lc_imp hix)
theorem s_setLc {i : Nat} {y : Str} {py spos : Pos} {elt tg iter : Expr} {ifs : List Expr} {scope : Scope} {own : List (Str × Nat)} {it : Mo (List PyData)} {bind : Bd} {cond : Mo Bool} {fe : Mo Vl} {ix : List Nat} (hc : X.calm = true) (hN : X.N.Nodup) (hy : X.N[i]? = some y) (hyl : X.env.scope.names.lookup y = some .local)
    (hsw : swapsWith (.ListComp elt [⟨tg, iter, ifs, 0⟩] scope pos) (some (.Name y py)) spos.line X.env = pure true) (ok : BlkOk X.N X.env.scope scope own) (hi : PI X tg iter (tI X.K B W it))
    (hg : ∀ (s : Shared) (H : Hp) (C : Addr) (cl : List (Str × Addr)) (fp : List Addr), PG (X.blk s H scope (compEnvC scope cl C X.env) fp) tg (tG X.K B W0 ix bind)) (ht : ∀ (s : Shared) (H : Hp) (C : Addr) (cl : List (Str × Addr)) (fp : List Addr), PTs (X.blk s H scope (compEnvC scope cl C X.env) fp) ifs (tT X.K B W0 cond))
    (he : ∀ (s : Shared) (H : Hp) (C : Addr) (cl : List (Str × Addr)) (fp : List Addr), PE (X.blk s H scope (compEnvC scope cl C X.env) fp) elt (tD X.K B W0 fe)) (hix : ∀ j ∈ ix, j ∈ own.map (·.2)) (h1 : i < B.n) (h2 : i ∉ B.mp) (hs : ∀ x, foldedSetIterable iter X.env x = pure x := by intro _; rfl) :
    PS X (.Assign [.Name y py] (.ListComp elt [⟨tg, iter, ifs, 0⟩] scope pos) spos) (tS X.K B W (sSet i (eLc it bind cond fe (own.map (·.2))))) := pds_set (ps_setLc hc hN hy hyl hsw hi ok hg ht he hs) (lc_imp hix) h1 h2
end
/-! ### the wrappers of whole defs -/
section
variable {P : Program} {w : World} {K : PySem.W.Frag} {mg : Str → Option Value} {base : Heap} {XC : XCl}
abbrev WE (XC : XCl) (E : XK) : XW := fun c d _ H' => ∀ C, XC c C → E (.ref C) (some d) H'
theorem passE {N : List Str} {qual : Str} {scope : Scope} {f : Addr} {cd : Value} {A : Around} {outer : List Env} {s : Shared} {H : Hp} {E : XK} : Passes (L2.CX P w) (cxOf (L2.CX P w) P w K mg base N qual scope f cd A outer s H E) E :=
  fun pins σ H' s' e s'' I c => passes_call (W := fun c d _ H => E c d H) (takes_of rfl rfl rfl rfl) (fun _ _ _ _ h => h) pins σ H' s' e s'' I c
theorem hEW {E : XK} : ∀ (c : Str) (C d : Addr) (σ : St) (H : Hp), XC c C → WE XC E c d σ H → E (.ref C) (some d) H := fun _ C _ _ _ h w => w C h
theorem passOwn {N : List Str} {qual : Str} {scope : Scope} {f : Addr} {cd : Value} {A : Around} {outer : List Env} {s : Shared} {H : Hp} {E : XK} : PassesOwn (model P w) (A.deeper (envOfC qual scope s.heap.objs.size f cd)) (envOfC qual scope s.heap.objs.size f cd) (cxOf (L2.CX P w) P w K mg base N qual scope f cd A outer s H E).xe :=
  passes_of (X := cxOf (L2.CX P w) P w K mg base N qual scope f cd A outer s H E) rfl
theorem defP {k n kk : Nat} {x : Str} {st : Stmt} {f : Addr} {fd : FuncData} {N ps : List Str} {m : Mo Fl} (F : Fun K x x st f fd) (S : FnScope N ps (defScope st)) (hps : ps.length = n) (hN : N.length = n + kk)
    (body : ∀ (cdv : Value) (A : Around) (fr : List Env) (s : Shared) (H : Hp) (E : XK) (B : Bs), B.n = n + kk → B.mp = [] → A.guards = some [] → Room k (A.deeper (envOfC x (defScope st) s.heap.objs.size f cdv)) →
      PSs (cxOf (L2.CX P w) P w K mg base N x (defScope st) f cdv A fr s H E) (defBody st) (tS K B (WE XC E) m)) : FnG P w K mg base (L2.CX P w) (k + 1) f fd ps (spP K XC n (runP kk m)) := by
  refine fnG_of F S (fun {vs H Q E} h => ?_) fun cdv A fr s H vs Q E hg hr h => ?_
  · obtain ⟨G, ds, _, hd, hn, _⟩ := h
    rw [hd.length, hn, hps]
  · obtain ⟨G, t⟩ := body_ok hN h
    exact ⟨_, body cdv A fr s H E _ rfl rfl hg hr, t⟩
theorem defM {k n kk : Nat} {x : Str} {st : Stmt} {f : Addr} {fd : FuncData} {N ps : List Str} {m : Mo Fl} (F : Fun K x x st f fd) (S : FnScope N ps (defScope st)) (hps : ps.length = n + 1) (hN : N.length = n + 1 + kk)
    (body : ∀ (cdv : Value) (A : Around) (fr : List Env) (s : Shared) (H : Hp) (E : XK) (B : Bs), B.n = n + 1 + kk → B.mp = [0] → A.guards = some [] → Room k (A.deeper (envOfC x (defScope st) s.heap.objs.size f cdv)) →
      PSs (cxOf (L2.CX P w) P w K mg base N x (defScope st) f cdv A fr s H E) (defBody st) (tS K B (fun _ _ _ _ => True) m)) : FnG P w K mg base (L2.CX P w) (k + 1) f fd ps (spM K n (runM kk m)) := by
  refine fnG_of F S (fun {vs H Q E} h => ?_) fun cdv A fr s H vs Q E hg hr h => ?_
  · obtain ⟨G, a, us, vs0, xs, ds, rfl, _, _, _, _, hd, hn, _⟩ := h
    rw [List.length_cons, hd.length, hn, hps]
  · obtain ⟨G, a, t⟩ := body_okM hN (fun _ _ _ _ => trivial) h
    exact ⟨_, body cdv A fr s H E _ rfl rfl hg hr, t⟩
end
end L2.DL
namespace L2.DL
open PySem PySem.Spec PyProof.Rows RZ
theorem room65 {k : Nat} {A : PySem.Around} (r : Room k A) : A.units + 65 < cLine := by have := r.un; omega
end L2.DL

namespace L2.DL
open PySem PySem.Spec PyProof.Rows RZ
/-! ### slices -/
def tO (K : PySem.W.Frag) (B : Bs) (W : XW) (f : Mo (Option Int)) : TO := fun σ H Q => ∃ e t val, SM K B σ e t val H ∧
  Fin K B W t val (f e) fun r e' => ∀ H' t' val', Ag (e'.length + t.length) val val' → SM K B σ e' (t ++ t') val' H' → Q r H'
def asInt : PyData → Option Int
  | .int i => some i
  | _ => none
def partN : Mo (Option Int) := Mo.ret none
def partS (f : Mo Vl) : Mo (Option Int) := Mo.bnd f fun r => Mo.bnd (peek r) fun d => Mo.lift ((asInt d).map some)
def cutG {α : Type} (xs : List α) (lo hi : Option Int) : List α := (xs.drop (HT.sIx xs.length 0 lo)).take (HT.sIx xs.length xs.length hi - HT.sIx xs.length 0 lo)
def slF : PyData → Option Int → Option Int → Option Vl
  | .list xs, lo, hi => some (.fr (cutG xs lo hi))
  | .tuple xs, lo, hi => some (.d (.tuple (cutG xs lo hi)))
  | _, _, _ => none
def eSl (a : Mo Vl) (lo hi : Mo (Option Int)) : Mo Vl := Mo.bnd a fun x => Mo.bnd lo fun l => Mo.bnd hi fun h => Mo.bnd (peek x) fun dx => Mo.lift (slF dx l h)
def revF : PyData → Option Vl
  | .list xs => some (.fr xs.reverse)
  | _ => none
theorem asInt_some {d : PyData} {i : Int} (h : asInt d = some i) : d = .int i := by
  cases d <;> simp [asInt] at h
  subst h; rfl
section
variable {X : Cx} {B : Bs} {W : XW} {K : PySem.W.Frag} {pos : Pos}
theorem pdo_none : PO X none (tO X.K B W partN) := ⟨fun pins s σ H Q I q => by
  obtain ⟨e, t, val, sm, h⟩ := q
  exact po_none.run pins s σ H Q I (h H [] val Ag.refl (by rw [List.append_nil]; exact sm))⟩
theorem pdo_some {a : Expr} {fa : Mo Vl} (ha : PE X a (tD X.K B W fa)) : PO X (some a) (tO X.K B W (partS fa)) := ⟨fun pins s σ H Q I q => by
  refine (po_some ha).run pins s σ H Q I ?_
  obtain ⟨e, t, val, s, h⟩ := q
  refine ⟨e, t, val, s, (Fin.bnd h).imp fun r1 e1 _ h1 v1 H1 t1 val1 ag1 s1 at1 => ?_⟩
  obtain ⟨d1, e3, p1, h3⟩ := Fin.peek (Fin.bnd h1)
  obtain ⟨rfl, k1⟩ := peek_ok s1 at1.weak p1
  obtain ⟨o, ho, h5⟩ := Fin.lift h3
  obtain ⟨i, hi, rfl⟩ := Option.map_eq_some_iff.mp ho
  have := asInt_some hi
  subst this
  exact ⟨i, k1.int, h5 H1 t1 val1 ag1 s1⟩⟩
def rSlD (K : PySem.W.Frag) : V → Option Int → Option Int → Hp → VK → Prop := fun x lo hi H Q => rSlL K x lo hi H Q ∨ rSlA K x lo hi H Q
theorem sl_D : SlR X (rSlD X.K) := sl_list.or sl_tupA
theorem cutG_dp {G : Hp} {vs : List V} {xs : List PyData} (h : DpAll K G vs xs) (lo hi : Option Int) : DpAll K G (cutV vs lo hi) (cutG xs lo hi) := by
  have e := h.length
  unfold cutV cutG
  rw [e]
  exact (h.drop _).take _
theorem cutG_whole {xs : List PyData} {lo hi : Option Int} (h : HT.sIx xs.length 0 lo = 0 ∧ HT.sIx xs.length xs.length hi = xs.length) : cutG xs lo hi = xs := by
  unfold cutG
  rw [h.1, h.2]
  simp
theorem slD {G H : Hp} {x : V} {dx : PyData} {lo hi : Option Int} {w : Vl} {Q : VK} (sg : Same G H) (hx : Pk K G H x dx) (hf : slF dx lo hi = some w) (q : ∀ v H', Res K G H w v H' → Q v H') : rSlD K x lo hi H Q := by
  unfold slF at hf
  split at hf
  · cases hf
    obtain ⟨a, vs, rfl, s1, d1⟩ := hx.lst sg
    exact .inl ⟨a, vs, rfl, s1, fun p hp => q _ _ (Res.lst sg hp (cutG_dp d1 _ _))⟩
  · cases hf
    have hx' := hx
    obtain ⟨a, vs, rfl, s1, d1⟩ := hx.tup sg
    refine .inr ⟨a, vs, rfl, s1, fun hw => ?_, fun _ p hp => q _ _ (Res.tup sg hp (cutG_dp d1 _ _))⟩
    rw [d1.length] at hw
    rw [cutG_whole hw] at q
    rcases hx' with hx' | ⟨_, _, _, _, e, _⟩
    · exact q _ _ (Res.same sg hx')
    · cases e
  · cases hf
theorem d_slice {a : Expr} {fa : Mo Vl} {lo hi : Option Expr} {fl fh : Mo (Option Int)} {p2 : Pos} (ha : PE X a (tD X.K B W fa)) (hl : PO X lo (tO X.K B W fl)) (hh : PO X hi (tO X.K B W fh)) :
    PE X (.Subscript a (.Slice lo hi none p2) pos) (tD X.K B W (eSl fa fl fh)) := by
  refine (pe_slice sl_D ha hl hh).imp fun σ H Q ⟨e, t, val, s, h⟩ => ?_
  refine ⟨e, t, val, s, (Fin.bnd h).imp fun r1 e1 _ h1 v1 H1 t1 val1 ag1 s1 at1 => ?_⟩
  refine ⟨e1, t ++ t1, val1, s1, (Fin.bnd (Fin.next h1 ag1 s1)).imp fun o2 e2 _ h2 H2 t2 val2 ag2 s2 => ?_⟩
  have el : e2.length = e1.length := by rw [s1.ln, s2.ln]
  refine ⟨e2, t ++ t1 ++ t2, val2, s2, (Fin.bnd (Fin.next h2 ag2 s2)).imp fun o3 e3 _ h3 H3 t3 val3 ag3 s3 => ?_⟩
  have el3 : e3.length = e2.length := by rw [s3.ln, s2.ln]
  have at2 := at1.ext (t' := t2) (by rw [← el]; exact ag2)
  have at3 := (at2.ext (t' := t3) (by rw [← el, ← el3]; exact ag3)).weak
  rw [← el, ← el3] at at3
  obtain ⟨d1, e4, p1, h4⟩ := Fin.peek (Fin.bnd h3)
  obtain ⟨rfl, k1⟩ := peek_ok s3 at3 p1
  obtain ⟨w, hw, h5⟩ := Fin.lift h4
  refine slD minus_sub k1 hw fun v H' res => ?_
  exact (Got.back (e := e4) (Got.back (e := e2) (Got.back (e := e1) h5 ag1 s1) ag2 s2) ag3 s3).res s3 res
theorem revD : UnD K (fun x H Q => ∃ a xs, x = .ref a ∧ SqL K H a xs ∧ ∀ p, H p = none → Q (.ref p) (upd H p (.lst xs.reverse))) revF := by
  intro G H x dx w Q sg hx hf q
  unfold revF at hf
  split at hf
  · cases hf
    obtain ⟨a, vs, rfl, s1, d1⟩ := hx.lst sg
    exact ⟨a, vs, rfl, s1, fun p hp => q _ _ (Res.lst sg hp d1.reverse)⟩
  · cases hf
theorem d_rev {a : Expr} {fa : Mo Vl} {k : Nat} {p1 p2 p3 : Pos} (ha : PE X a (tD X.K B W fa)) : PE X (.Subscript a (.Slice none none (some (.UnaryOp .USub (.Constant (.int 1) k p1) p2)) p3) pos) (tD X.K B W (eUn revF fa)) :=
  pd_un (r := fun x H Q => ∃ a xs, x = .ref a ∧ SqL X.K H a xs ∧ ∀ p, H p = none → Q (.ref p) (upd H p (.lst xs.reverse))) (pe_revL ha) revD
/-! ### extend by a list just made -/
def extM (r0 r : Vl) : Mo Vl := fun e => match r0, r with
  | .pk j, .fr zs => (match e[j]? with
    | some (.own xs) => if big (xs.length + zs.length) then some (.ok (.d .none) (e.set j (.own (xs ++ zs)))) else none
    | _ => none)
  | _, _ => none
def eExt (o a : Mo Vl) : Mo Vl := Mo.bnd o fun r0 => Mo.bnd (isOwn r0) fun _ => Mo.bnd a fun r => extM r0 r
theorem Fin.extM {t : List Md} {val : Nat → V} {j : Nat} {r : Vl} {e : En} {C : Vl → En → Prop} (h : Fin K B W t val (extM (.pk j) r e) C) : ∃ xs zs, r = .fr zs ∧ e[j]? = some (.own xs) ∧ big (xs.length + zs.length) = true ∧ C (.d .none) (e.set j (.own (xs ++ zs))) := by
  unfold DL.extM at h
  cases r with
  | d _ => exact h.elim
  | pk _ => exact h.elim
  | fr zs =>
    simp only at h
    cases q : e[j]? with
    | none => simp only [q] at h; exact h.elim
    | some m =>
      simp only [q] at h
      cases m with
      | un => exact h.elim
      | d _ => exact h.elim
      | own xs =>
        simp only at h
        by_cases hb : big (xs.length + zs.length) = true
        · rw [if_pos hb] at h; exact ⟨xs, zs, rfl, rfl, hb, h⟩
        · rw [if_neg hb] at h; exact h.elim
theorem ext_imp {fo fa : Mo Vl} : ∀ σ H Q, tD K B W (eExt fo fa) σ H Q → tBM K "list" rExtend (tD K B W fo) (tCons (tD K B W fa) tNil) σ H Q := by
  rintro σ H Q ⟨e, t, val, s, h⟩
  refine ⟨e, t, val, s, (Fin.bnd h).imp fun r0 e1 _ h1 v0 H1 t1 val1 ag1 s1 at0 => ?_⟩
  obtain ⟨j, xs, rfl, q, h1⟩ := Fin.isOwn (Fin.bnd h1)
  obtain ⟨hj, rfl⟩ := at0
  obtain ⟨a, vs0, ea, hH, _⟩ := s1.at_e q
  refine ⟨by rw [ea]; exact .inl ⟨rfl, vs0, SqL.of hH⟩, e1, t ++ t1, val1, s1, (Fin.bnd (Fin.next h1 ag1 s1)).imp fun r e2 _ h2 v H2 t2 val2 ag2 s2 at2 => ?_⟩
  obtain ⟨xs2, zs, rfl, q2, hb, h3⟩ := Fin.extM h2
  have hv : val2 j = val1 j := ag2 j (by rw [s2.ln, ← s1.ln]; omega)
  obtain ⟨a2, vs2, ea2, hH2, hd2⟩ := s2.at_e q2
  obtain ⟨k, _, hk, hkv⟩ := at2
  have ok := s2.at_t hk
  rw [hkv] at ok
  obtain ⟨b, ws, rfl, hHb, hws⟩ := ok
  have ag1' : Ag (B.n + t.length) val val1 := ag_n s1 ag1
  have ag2' : Ag (B.n + (t ++ t1).length) val1 val2 := ag_n s2 ag2
  refine ⟨a2, b, vs2, ws, by rw [← hv]; exact ea2, rfl, hH2, hHb, by rw [hd2.length, hws.length]; exact big_line hb, ?_⟩
  obtain ⟨s3, sg⟩ := s2.changed q2 ea2 (hd2.append hws)
  have s4 := s3.pushD (v := .non) (x := .none) .non
  refine h3 _ _ (t1 ++ t2 ++ [.d .none]) _ (fun i hi => ?_) (by rw [← List.append_assoc, ← List.append_assoc]; exact s4) ⟨(t ++ t1 ++ t2).length, by simp, by rw [← List.append_assoc, ← List.append_assoc]; simp, setv_same⟩
  rw [s3.ln] at hi
  rw [setv_lt (by rw [s3.ln]; simp; omega), ag2' i (by simp; omega)]
  exact ag1' i hi
end
section
variable {X : Cx} {B : Bs} {W : XW} {o a : Expr} {apos pos : Pos} {fo fa : Mo Vl}
theorem d_lextend (ho : PE X o (tD X.K B W fo)) (ha : PE X a (tD X.K B W fa)) {pl : Sem Bool} {e0 : Expr} (h : PE X e0 (tBM X.K "list" rExtend (tD X.K B W fo) (tCons (tD X.K B W fa) tNil))) : PE X e0 (tD X.K B W (eExt fo fa)) := h.imp ext_imp
end
/-! ### enumerate -/
def enumL (xs : List PyData) : List PyData := (xs.zip (List.range xs.length)).map fun p => .tuple [.int p.2, p.1]
theorem itOk_enum {K : PySem.W.Frag} {a : Addr} {ds : List PyData} : ItOk K (Ite K a) [.ref a] [.list ds] (enumL ds) := fun G H sg hd => by
  cases hd with
  | cons h1 _ =>
    cases h1 with
    | lst h2 h3 =>
      rename_i vs
      have hs := SqL.mono sg h2
      have hl := h3.length
      refine ⟨fun i d hi => ?_, vs, hs, by simp [enumL]; omega⟩
      unfold enumL at hi
      rw [List.getElem?_map] at hi
      cases q : (ds.zip (List.range ds.length))[i]? with
      | none => rw [q] at hi; cases hi
      | some p =>
        obtain ⟨d0, n⟩ := p
        rw [q] at hi
        rw [List.getElem?_zip_eq_some] at q
        have hn : n = i := by
          have := q.2
          rw [List.getElem?_range (List.getElem?_eq_some_iff.mp q.1).1] at this
          exact (Option.some.inj this).symm
        subst hn
        simp at hi
        subst hi
        obtain ⟨v, hv, hd⟩ := h3.get q.1
        refine ⟨⟨vs, v, hs, hv⟩, ?_⟩
        rintro z H' ⟨T, x', rfl, hT, rfl, q1⟩
        have e1 := q1 vs hs
        rw [hv] at e1
        cases e1
        exact ⟨Same.updN hT, dp_pair sg hT (.int _) hd⟩
/-! ### sorted, repr -/
def alikeL : List PyData → Bool
  | [] => true
  | d :: ds => ds.all (fun e => PySem.W.alike d e && PySem.W.alike e d) && PySem.W.alike d d && alikeL ds
end L2.DL

namespace L2.DL
open PySem PySem.Spec PyProof.Rows RZ
open PySem.W (TotalLe sameRank sort_unique sort_maps AllAlike Sortable alike dataLe dataLt EachIs sortLe_total)
/-! ### a stable sort that the kernel can run -/
def ins {α : Type} (le : α → α → Bool) (x : α) : List α → List α
  | [] => [x]
  | y :: ys => if le x y then x :: y :: ys else y :: ins le x ys
def isort {α : Type} (le : α → α → Bool) : List α → List α
  | [] => []
  | x :: xs => ins le x (isort le xs)
section
variable {α : Type} {le : α → α → Bool}
theorem ins_mem {x z : α} : ∀ {ys : List α}, z ∈ ins le x ys → z = x ∨ z ∈ ys
  | [], h => by simp [ins] at h; exact .inl h
  | y :: ys, h => by
    unfold ins at h
    split at h
    · rcases List.mem_cons.mp h with h | h
      · exact .inl h
      · exact .inr h
    · rcases List.mem_cons.mp h with h | h
      · exact .inr (by simp [h])
      · exact (ins_mem h).imp id (List.mem_cons_of_mem _)
theorem ins_sorted (h : TotalLe le) {x : α} : ∀ {ys : List α}, ys.Pairwise (fun a b => le a b = true) → (ins le x ys).Pairwise (fun a b => le a b = true)
  | [], _ => by simp [ins]
  | y :: ys, hs => by
    unfold ins
    split
    · rename_i hx
      refine List.Pairwise.cons (fun z hz => ?_) hs
      rcases List.mem_cons.mp hz with rfl | hz
      · exact hx
      · exact h.trans _ _ _ hx (List.rel_of_pairwise_cons hs hz)
    · rename_i hx
      refine List.Pairwise.cons (fun z hz => ?_) (ins_sorted h (List.Pairwise.of_cons hs))
      rcases ins_mem hz with rfl | hz
      · exact (h.total z y).elim (fun q => absurd q hx) id
      · exact List.rel_of_pairwise_cons hs hz
theorem ins_filter (h : TotalLe le) {x c : α} : ∀ {ys : List α}, ys.Pairwise (fun a b => le a b = true) → (ins le x ys).filter (sameRank le c) = (x :: ys).filter (sameRank le c)
  | [], _ => rfl
  | y :: ys, hs => by
    unfold ins
    split
    · rfl
    · rename_i hx
      have ih := ins_filter h (x := x) (c := c) (List.Pairwise.of_cons hs)
      rw [List.filter_cons, ih, List.filter_cons, List.filter_cons (x := x) (xs := y :: ys), List.filter_cons]
      by_cases hcx : sameRank le c x = true
      · have hcy : ¬ sameRank le c y = true := fun hcy => hx (by
          unfold sameRank at hcx hcy
          rw [Bool.and_eq_true] at hcx hcy
          exact h.trans _ _ _ hcx.2 hcy.1)
        rw [if_pos hcx, if_neg hcy]
        simp [hcy, hcx]
      · simp [hcx]
theorem isort_sorted (h : TotalLe le) : ∀ xs : List α, (isort le xs).Pairwise (fun a b => le a b = true)
  | [] => .nil
  | _ :: xs => ins_sorted h (isort_sorted h xs)
theorem isort_filter (h : TotalLe le) (c : α) : ∀ xs : List α, (isort le xs).filter (sameRank le c) = xs.filter (sameRank le c)
  | [] => rfl
  | x :: xs => by
    show (ins le x (isort le xs)).filter _ = _
    rw [ins_filter h (isort_sorted h xs), List.filter_cons, List.filter_cons, isort_filter h c xs]
theorem isort_eq (h : TotalLe le) (xs : List α) : isort le xs = xs.mergeSort le := sort_unique h (isort_sorted h xs) fun c => isort_filter h c xs
end
def dLe (a b : PyData) : Bool := !dataLt b a
theorem dLe_eq : dataLe false (fun d : PyData => d) = dLe := by
  rw [PySem.W.dataLe_eq]
  rfl
theorem dLe_total : TotalLe dLe := by rw [← dLe_eq]; exact sortLe_total _ _ _
/-! ### sorted -/
def alikeB (ds : List PyData) : Bool := ds.all fun d => ds.all fun e => alike d e
def tupB : PyData → Bool
  | .tuple (_ :: _) => true
  | _ => false
def noTupB : PyData → Bool
  | .none => false
  | .tuple _ => false
  | _ => true
def okSort (ds : List PyData) : Bool := alikeB ds && (ds.all tupB || ds.all noTupB) && ds.all (fun d => decide (d.depth ≤ 40)) && big ds.length
def sortF : List PyData → Option Vl
  | [.list ds] => if okSort ds then some (.fr (isort dLe ds)) else none
  | _ => none
theorem allAlike_of {ds : List PyData} (h : alikeB ds = true) : AllAlike ds := fun d hd e he => by
  unfold alikeB at h
  rw [List.all_eq_true] at h
  have := h d hd
  rw [List.all_eq_true] at this
  exact this e he
theorem sortable_of {ds : List PyData} (h : (ds.all tupB || ds.all noTupB) = true) : Sortable ds := by
  rw [Bool.or_eq_true, List.all_eq_true, List.all_eq_true] at h
  rcases h with h | h
  · refine .inl fun d hd => ?_
    have := h d hd
    cases d with
    | tuple xs =>
      cases xs with
      | nil => cases this
      | cons x r => exact ⟨x, r, rfl⟩
    | _ => cases this
  · refine .inr fun d hd => ?_
    have := h d hd
    refine ⟨fun e => ?_, fun xs e => ?_⟩
    · subst e; cases this
    · subst e; cases this
section
variable {X : Cx} {K : PySem.W.Frag}
theorem vals_each : ∀ {vs : List V} {us : List Value} {ds : List PyData}, Vals vs us → vs.length = ds.length → EachIs (fun (u : Value) (b : V × PyData) => RelV b.1 u) us (vs.zip ds)
  | [], _, [], r, _ => by cases r; exact .nil
  | _ :: _, _, _ :: _, r, h => by
    cases r with
    | cons r1 r2 => exact .cons r1 (vals_each r2 (by simpa using h))
theorem each_vals : ∀ {us : List Value} {bs : List (V × PyData)}, EachIs (fun (u : Value) (b : V × PyData) => RelV b.1 u) us bs → Vals (bs.map Prod.fst) us
  | _, _, .nil => .nil
  | _, _, .cons h t => .cons h (each_vals t)
theorem reads_each {pins : List (Addr × Obj)} {σ : St} {H : Hp} {s : Shared} (I : Inv X pins σ H s) : ∀ {vs : List V} {us : List Value} {ds : List PyData}, Vals vs us → DpAll X.K H vs ds → EachIs (fun (u : Value) (b : V × PyData) => ∃ as, Reads s.heap u b.2 as) us (vs.zip ds)
  | [], _, _, r, h => by cases r; cases h; exact .nil
  | _ :: _, _, _, r, h => by
    cases r with
    | cons r1 r2 =>
      cases h with
      | cons h1 h2 => exact .cons (Dp.reads I _ _ _ h1 r1) (reads_each I r2 h2)
def sortedP (vs : List V) (ds : List PyData) : List (V × PyData) := (vs.zip ds).mergeSort (dataLe false Prod.snd)
def rSortD (K : PySem.W.Frag) : List V → Hp → VK → Prop := fun xs H Q => ∃ a vs ds, xs = [.ref a] ∧ SqL K H a vs ∧ DpAll K H vs ds ∧ okSort ds = true ∧ ∀ p, H p = none → Q (.ref p) (upd H p (.lst ((sortedP vs ds).map Prod.fst)))
theorem call_sortedD (hu : X.A.units + 65 < cLine) : CallR X (.builtin "sorted") (rSortD X.K) := by
  rintro pins s σ H xs us Q I r ⟨a, vs, ds, rfl, hs, hd, ho, q⟩
  obtain ⟨u, rfl, rx⟩ := vals1 r
  cases rx
  obtain ⟨its, rv, pl, hz⟩ := I.list hs
  have hl := hd.length
  unfold okSort at ho
  simp only [Bool.and_eq_true] at ho
  obtain ⟨⟨⟨h1, h2⟩, h3⟩, h4⟩ := ho
  have hsnd : (vs.zip ds).map Prod.snd = ds := List.map_snd_zip (by omega)
  refine PySem.W.sorted_data (enc := Prod.snd) (bs := vs.zip ds) pl.isList (vals_each rv hl) (reads_each I rv hd) (by rw [hsnd]; exact allAlike_of h1) (by rw [hsnd]; exact sortable_of h2) (by simp; omega) (fun b hb => ?_) fun out hol he => ?_
  · have hm : b.2 ∈ ds := by rw [← hsnd]; exact List.mem_map_of_mem hb
    have := of_decide_eq_true (List.all_eq_true.mp h3 _ hm)
    omega
  · have hv : Vals ((sortedP vs ds).map Prod.fst) out := each_vals he
    obtain ⟨n, hat⟩ := sortedAll_at s.heap its out.toArray
    have hn : H (s.heap.objs.size + 1) = none := I.hok.fresh (Nat.le_succ _)
    refine ⟨.ref (s.heap.objs.size + 1), _, I.laid (t' := s.toks) (o := .lst ((sortedP vs ds).map Prod.fst)) (fun b o e => sortedAll_old e) (Nat.le_succ _) ⟨?_, out, n, hv, hat⟩, rfl, q _ hn⟩
    have e1 := hv.length
    simp only [List.length_zip] at hol
    omega
theorem sortedP_snd {vs : List V} {ds : List PyData} (hl : vs.length = ds.length) : (sortedP vs ds).map Prod.snd = isort dLe ds := by
  have h := sort_maps (r := dataLe false (Prod.snd : V × PyData → PyData)) (s := dataLe false (fun d : PyData => d)) Prod.snd (l := vs.zip ds) (fun _ _ _ _ => rfl)
  unfold sortedP
  rw [h, List.map_snd_zip (by omega), dLe_eq, isort_eq dLe_total]
theorem pairs_dp {G : Hp} : ∀ {bs : List (V × PyData)}, (∀ p ∈ bs, Dp K G p.1 p.2) → DpAll K G (bs.map Prod.fst) (bs.map Prod.snd)
  | [], _ => .nil
  | p :: bs, h => .cons (h p (by simp)) (pairs_dp fun q hq => h q (by simp [hq]))
theorem zip_dp {G : Hp} : ∀ {vs : List V} {ds : List PyData}, DpAll K G vs ds → ∀ p ∈ vs.zip ds, Dp K G p.1 p.2
  | [], _, h, p, hp => by simp at hp
  | v :: vs, _, h, p, hp => by
    cases h with
    | cons h1 h2 =>
      rw [List.zip_cons_cons] at hp
      rcases List.mem_cons.mp hp with rfl | hp
      · exact h1
      · exact zip_dp h2 p hp
theorem sortedP_dp {G : Hp} {vs : List V} {ds : List PyData} (h : DpAll K G vs ds) : DpAll K G ((sortedP vs ds).map Prod.fst) (isort dLe ds) := by
  rw [← sortedP_snd h.length]
  exact pairs_dp fun p hp => zip_dp h p ((List.mergeSort_perm _ _).mem_iff.mp hp)
theorem sortD : CallD K (rSortD K) sortF := by
  intro G H vs ds w Q sg hv hf q
  unfold sortF at hf
  split at hf
  · obtain ⟨ho, rfl⟩ := ite_some hf
    obtain ⟨v, rfl, h⟩ := pk1 hv
    obtain ⟨a, us, rfl, s1, d1⟩ := h.lst sg
    exact ⟨a, us, _, rfl, s1, DpAll.mono sg _ _ d1, ho, fun p hp => q _ _ (Res.lst sg hp (sortedP_dp d1))⟩
  · cases hf
/-! ### repr -/
mutual
def wt : PyData → Nat
  | .none => 4
  | .bool _ => 5
  | .int _ => 700
  | .str x => (reprText x).length
  | .list xs => 2 + wtAll xs
  | .tuple xs => 3 + wtAll xs
  | .dict _ => 0
def wtAll : List PyData → Nat
  | [] => 0
  | x :: xs => wt x + 2 + wtAll xs
end
def noDictB (d : PyData) : Bool := !d.hasDict
def okRepr (d : PyData) : Bool := d.showable && noDictB d && decide (d.depth ≤ 40) && decide (d.shown.length ≤ 16777216)
def reprF : List PyData → Option Vl
  | [d] => if okRepr d then some (.d (.str d.shown)) else none
  | _ => none
def rReprD (K : PySem.W.Frag) : List V → Hp → VK → Prop := fun xs H Q => ∃ v d, xs = [v] ∧ Dp K H v d ∧ okRepr d = true ∧ Q (.str d.shown) H
theorem call_reprD (hG : X.A.guards = some []) (hu : X.A.units + 65 < cLine) : CallR X (.builtin "repr") (rReprD X.K) := by
  rintro pins s σ H xs us Q I r ⟨v, d, rfl, hd, ho, q⟩
  obtain ⟨u, rfl, rx⟩ := vals1 r
  unfold okRepr at ho
  simp only [Bool.and_eq_true, decide_eq_true_eq] at ho
  obtain ⟨⟨⟨h1, h2⟩, h3⟩, h4⟩ := ho
  have h5 : d.shown.length ≤ sizeLine := by rw [sizeLine_eq]; exact h4
  have nd : d.hasDict = false := by
    unfold noDictB at h2
    simpa using h2
  obtain ⟨as, rd⟩ := Dp.reads I d v u hd rx
  have ref : ∀ {a : Addr}, Reads s.heap (.ref a) d as → wpAny (model X.prog X.w) X.A (call (.builtin "repr") [.ref a]) (EP X pins σ Q) X.xe s := fun {a} rd =>
    repr_of_reads' rd h1 (PyData.noDict_hsm nd) hG (by omega) (fun _ _ e => e) (fun h' t tk hk => ⟨.str d.shown, H, I.kept (t' := tk) hk, ⟨t, rfl⟩, q⟩) h5
  cases hd with
  | non => cases rx; exact PySem.P.repr_of_none ⟨.str _, H, I.tok _, ⟨_, rfl⟩, q⟩
  | bl b => cases rx; exact PySem.P.repr_of_bool ⟨.str _, H, I.tok _, ⟨_, rfl⟩, q⟩
  | int i =>
    obtain ⟨t, rfl⟩ := rx
    exact PySem.P.repr_of_int (by simpa [PyData.showable] using h1) ⟨.str _, H, I.tok _, ⟨_, rfl⟩, q⟩
  | str x =>
    obtain ⟨t, rfl⟩ := rx
    exact PySem.P.repr_of_str ⟨.str _, H, I.tok _, ⟨_, rfl⟩, q⟩ (by simpa only [PyData.shown] using h5)
  | lst _ _ => cases rx; exact ref rd
  | tup _ _ => cases rx; exact ref rd
theorem reprD : CallD K (rReprD K) reprF := by
  intro G H vs ds w Q sg hv hf q
  unfold reprF at hf
  split at hf
  · obtain ⟨ho, rfl⟩ := ite_some hf
    obtain ⟨v, rfl, h⟩ := pk1 hv
    exact ⟨v, _, rfl, h.full sg, ho, q _ _ (Res.same sg (.str _))⟩
  · cases hf
end
end L2.DL

/-! zip of a list and a tuple: after the library's own for two tuples, the first iterator a list's -/
namespace L2.DL
open PySem PySem.Spec PyProof.Rows RZ
section
variable {prog : Program} {w : World} {A : Around} {E : Value → Shared → Prop} {s : Shared}
theorem zipM_next_item {z TI TO i1 i2 l1 l2 : Addr} {k1 k2 : Nat} {xs ys : Array Value} {x y a b : Value} {Q : Value → Shared → Prop} (D : ZipApart z TI TO i1 i2 l1 l2)
    (hz : IsZip s.heap z TI TO .none) (hTI : IsPair s.heap TI (.ref i1) (.ref i2)) (hTO : IsPair s.heap TO a b)
    (h1 : s.heap.IsListIter i1 l1 k1) (h2 : s.heap.IsTupleIter i2 l2 k2) (hl1 : s.heap.IsList l1 xs) (hl2 : s.heap.IsTuple l2 ys) (hx : xs[k1]? = some x) (hy : ys[k2]? = some y)
    (hQ : ∀ h', IsZip h' z TI TO (rawInt s.heap.objs.size) → IsPair h' TO x y → h'.IsListIter i1 l1 (k1 + 1) → h'.IsTupleIter i2 l2 (k2 + 1) → IsPair h' s.heap.objs.size x y → h'.objs.size = s.heap.objs.size + 1 →
      (∀ c o, c ≠ z → c ≠ TO → c ≠ i1 → c ≠ i2 → s.heap.get? c = some o → h'.get? c = some o) → Q (.ref s.heap.objs.size) { s with heap := h' }) :
    wpAny (model prog w) A (Builtin.«zip.__next__» ⟨[.ref z], []⟩) (fun fin s' => ∃ v, fin = .done (.ret v) ∧ Q v s') E s := by
  show wpAny _ _ (field (.ref z) 2 >>= _) _ _ _
  refine wpAny_bind (wpAny_field hz rfl (x := .bool false) rfl ?_)
  show wpAny _ _ (field (.ref z) 3 >>= _) _ _ _
  refine wpAny_bind (wpAny_field hz rfl (x := .ref TI) rfl ?_)
  refine wpAny_bind (wpAny_seqItems hTI rfl ?_)
  show wpAny _ _ (Builtin.SmallTypes.ownedTupleIsFree (.ref z) >>= _) _ _ _
  refine wpAny_bind ?_
  unfold Builtin.SmallTypes.ownedTupleIsFree
  refine wpAny_bind (wpAny_field hz rfl (x := .none) rfl (wpAny_pure ?_))
  simp only [if_true]
  refine wpAny_bind (wpAny_rule ?_)
  refine wpAny_bind (wpAny_field hz rfl (x := .ref TO) rfl ?_)
  refine wpAny_bind (wpAny_setField_rec hz (by simp) fun h₁ hz₁ hs₁ => ?_)
  replace hz₁ : IsZip h₁ z TI TO .ellipsis := hz₁
  refine wpAny_bind ?_
  simp only [List.zipIdx_cons, List.zipIdx_nil, List.forIn_cons, List.forIn_nil]

  refine wpAny_bind (wpAny_bind (wpAny_onRaise ?_))
  show wpAny _ _ (Builtin.SmallTypes.nextOf (.ref i1) >>= _) _ _ _
  refine wpAny_bind (wpAny_nextOf_list_item (h1.extBut hs₁.extBut D.i1z) (hl1.extBut hs₁.extBut D.l1z) hx fun h₂ h1₂ hs₂ => wpAny_pure ?_)
  have hTO₂ : IsPair h₂ TO a b := hs₂.extBut _ _ D.TOi1 (hs₁.extBut _ _ D.TOz hTO)
  refine wpAny_bind (wpAny_seqItems hTO₂ rfl ?_)
  refine wpAny_bind (wpAny_updateSeq_pair hTO₂ fun h₃ hTO₃ hs₃ => ?_)
  replace hTO₃ : IsPair h₃ TO x b := hTO₃
  refine wpAny_bind (wpAny_letGo (wpAny_pure ?_))

  refine wpAny_bind (wpAny_bind (wpAny_onRaise ?_))
  show wpAny _ _ (Builtin.SmallTypes.nextOf (.ref i2) >>= _) _ _ _
  refine wpAny_bind (nextOf_tuple_item (((h2.extBut hs₁.extBut D.i2z).extBut hs₂.extBut D.i12.symm).extBut hs₃.extBut D.TOi2.symm)
    (((hl2.extBut hs₁.extBut D.l2z).extBut hs₂.extBut D.l2i1).extBut hs₃.extBut D.l2TO) hy fun h₄ h2₄ hs₄ => wpAny_pure ?_)
  have hTO₄ : IsPair h₄ TO x b := hs₄.extBut _ _ D.TOi2 hTO₃
  refine wpAny_bind (wpAny_seqItems hTO₄ rfl ?_)
  refine wpAny_bind (wpAny_updateSeq_pair hTO₄ fun h₅ hTO₅ hs₅ => ?_)
  replace hTO₅ : IsPair h₅ TO x y := hTO₅
  refine wpAny_bind (wpAny_letGo (wpAny_pure (wpAny_pure ?_)))

  refine wpAny_bind (wpAny_seqItems hTO₅ rfl ?_)
  refine wpAny_bind (wpAny_newTuple ?_)
  have hsz : h₅.objs.size = s.heap.objs.size := by rw [hs₅.1, hs₄.1, hs₃.1, hs₂.1, hs₁.1]
  have hz₅ : IsZip h₅ z TI TO .ellipsis := hs₅.extBut _ _ D.TOz.symm (hs₄.extBut _ _ D.i2z.symm (hs₃.extBut _ _ D.TOz.symm (hs₂.extBut _ _ D.i1z.symm hz₁)))
  have hk₅ : ∀ c o, c ≠ z → c ≠ TO → c ≠ i1 → c ≠ i2 → s.heap.get? c = some o → h₅.get? c = some o := fun c o c1 c2 c3 c4 e =>
    hs₅.extBut _ _ c2 (hs₄.extBut _ _ c4 (hs₃.extBut _ _ c2 (hs₂.extBut _ _ c3 (hs₁.extBut _ _ c1 e))))
  have h1₅ : h₅.IsListIter i1 l1 (k1 + 1) := ((h1₂.extBut hs₃.extBut D.TOi1.symm).extBut hs₄.extBut D.i12).extBut hs₅.extBut D.TOi1.symm
  have h2₅ : h₅.IsTupleIter i2 l2 (k2 + 1) := h2₄.extBut hs₅.extBut D.TOi2.symm
  have hzlt : z < h₅.objs.size := Heap.lt_size hz₅
  have hTOlt : TO < h₅.objs.size := Heap.lt_size hTO₅
  have hi1lt : i1 < h₅.objs.size := by obtain ⟨_, e, _⟩ := h1₅; exact Heap.lt_size e
  have hi2lt : i2 < h₅.objs.size := by obtain ⟨_, e, _⟩ := h2₅; exact Heap.lt_size e
  show wpAny _ _ (Builtin.SmallTypes.ownedTupleHandOut (.ref z) (.ref h₅.objs.size) >>= _) _ _ _
  refine wpAny_bind ?_
  unfold Builtin.SmallTypes.ownedTupleHandOut
  have hz₆ : IsZip (h₅.push { cls := .type "tuple", data := .seq #[x, y] }) z TI TO .ellipsis := Heap.get?_push_of_some _ hz₅
  refine wpAny_bind (wpAny_setField_rec hz₆ (by simp) fun h₇ hz₇ hs₇ => ?_)
  replace hz₇ : IsZip h₇ z TI TO (rawInt h₅.objs.size) := hz₇
  refine wpAny_setField_rec hz₇ (by simp) fun h₈ hz₈ hs₈ => ?_
  replace hz₈ : IsZip h₈ z TI TO (rawInt h₅.objs.size) := hz₈
  have up : ∀ c o, c ≠ z → h₅.get? c = some o → h₈.get? c = some o := fun c o c1 e => hs₈.extBut _ _ c1 (hs₇.extBut _ _ c1 (Heap.get?_push_of_some _ e))
  have hT₈ : IsPair h₈ h₅.objs.size x y := hs₈.extBut _ _ (Nat.ne_of_gt hzlt) (hs₇.extBut _ _ (Nat.ne_of_gt hzlt) (Heap.get?_push_size _ rfl))
  have hz8 : h₈.objs.size = h₅.objs.size + 1 := by rw [hs₈.1, hs₇.1, Heap.size_push]
  rw [hsz] at hz₈ hT₈ hz8
  refine wpAny_pure ⟨_, rfl, ?_⟩
  show Q (.ref h₅.objs.size) _
  rw [hsz]
  exact hQ h₈ hz₈ (up _ _ D.TOz hTO₅) (h1₅.at fun o e => up _ o D.i1z e) (h2₅.at fun o e => up _ o D.i2z e) hT₈ hz8 fun c o c1 c2 c3 c4 e => up c o c1 (hk₅ c o c1 c2 c3 c4 e)

theorem zipM_next_end {z TI TO i1 i2 l1 l2 : Addr} {k1 k2 : Nat} {xs ys : Array Value} {a b : Value} {Q : PySem.Fin → Shared → Prop} (hh : A.handled = none) (D : ZipApart z TI TO i1 i2 l1 l2)
    (hz : IsZip s.heap z TI TO .none) (hTI : IsPair s.heap TI (.ref i1) (.ref i2)) (hTO : IsPair s.heap TO a b)
    (h1 : s.heap.IsListIter i1 l1 k1) (h2 : s.heap.IsTupleIter i2 l2 k2) (hl1 : s.heap.IsList l1 xs) (hl2 : s.heap.IsTuple l2 ys) (hend : xs[k1]? = none ∨ ys[k2]? = none)
    (hE : ∀ h' e, (∀ c o, c ≠ z → c ≠ TO → c ≠ i1 → c ≠ i2 → s.heap.get? c = some o → h'.get? c = some o) → (∃ o, h'.get? e = some o ∧ o.cls = .type "StopIteration") → E (.ref e) { s with heap := h' }) :
    wpAny (model prog w) A (Builtin.«zip.__next__» ⟨[.ref z], []⟩) Q E s := by
  show wpAny _ _ (field (.ref z) 2 >>= _) _ _ _
  refine wpAny_bind (wpAny_field hz rfl (x := .bool false) rfl ?_)
  show wpAny _ _ (field (.ref z) 3 >>= _) _ _ _
  refine wpAny_bind (wpAny_field hz rfl (x := .ref TI) rfl ?_)
  refine wpAny_bind (wpAny_seqItems hTI rfl ?_)
  show wpAny _ _ (Builtin.SmallTypes.ownedTupleIsFree (.ref z) >>= _) _ _ _
  refine wpAny_bind ?_
  unfold Builtin.SmallTypes.ownedTupleIsFree
  refine wpAny_bind (wpAny_field hz rfl (x := .none) rfl (wpAny_pure ?_))
  simp only [if_true]
  refine wpAny_bind (wpAny_rule ?_)
  refine wpAny_bind (wpAny_field hz rfl (x := .ref TO) rfl ?_)
  refine wpAny_bind (wpAny_setField_rec hz (by simp) fun h₁ hz₁ hs₁ => ?_)
  replace hz₁ : IsZip h₁ z TI TO .ellipsis := hz₁
  refine wpAny_bind ?_
  simp only [List.zipIdx_cons, List.zipIdx_nil, List.forIn_cons, List.forIn_nil]
  refine wpAny_bind (wpAny_bind (wpAny_onRaise ?_))
  show wpAny _ _ (Builtin.SmallTypes.nextOf (.ref i1) >>= _) _ _ _
  cases hx : xs[k1]? with
  | none =>
    refine wpAny_bind (wpAny_nextOf_list_end hh (h1.extBut hs₁.extBut D.i1z) (hl1.extBut hs₁.extBut D.l1z) hx fun h₂ e hs₂ he => ?_)
    obtain ⟨oe, hoe, hce⟩ := he
    have hz₂ : IsZip h₂ z TI TO .ellipsis := hs₂ _ _ D.i1z.symm hz₁
    have hez : e ≠ z := fun x => by subst x; rw [hz₂] at hoe; cases hoe; simp at hce
    refine wpAny_setField_rec hz₂ (by simp) fun h₃ _ hs₃ => hE h₃ e (fun c o c1 _ c3 _ x => hs₃.extBut _ _ c1 (hs₂ _ _ c3 (hs₁.extBut _ _ c1 x))) ⟨oe, hs₃.extBut _ _ hez hoe, hce⟩
  | some x =>
    have hy : ys[k2]? = none := by rcases hend with h | h; rw [hx] at h; cases h; exact h
    refine wpAny_bind (wpAny_nextOf_list_item (h1.extBut hs₁.extBut D.i1z) (hl1.extBut hs₁.extBut D.l1z) hx fun h₂ h1₂ hs₂ => wpAny_pure ?_)
    have hTO₂ : IsPair h₂ TO a b := hs₂.extBut _ _ D.TOi1 (hs₁.extBut _ _ D.TOz hTO)
    refine wpAny_bind (wpAny_seqItems hTO₂ rfl ?_)
    refine wpAny_bind (wpAny_updateSeq_pair hTO₂ fun h₃ hTO₃ hs₃ => ?_)
    refine wpAny_bind (wpAny_letGo (wpAny_pure ?_))
    refine wpAny_bind (wpAny_bind (wpAny_onRaise ?_))
    show wpAny _ _ (Builtin.SmallTypes.nextOf (.ref i2) >>= _) _ _ _
    refine wpAny_bind (nextOf_tuple_end hh (((h2.extBut hs₁.extBut D.i2z).extBut hs₂.extBut D.i12.symm).extBut hs₃.extBut D.TOi2.symm)
      (((hl2.extBut hs₁.extBut D.l2z).extBut hs₂.extBut D.l2i1).extBut hs₃.extBut D.l2TO) hy fun h₄ e hs₄ he => ?_)
    obtain ⟨oe, hoe, hce⟩ := he
    have hz₄ : IsZip h₄ z TI TO .ellipsis := hs₄ _ _ D.i2z.symm (hs₃.extBut _ _ D.TOz.symm (hs₂.extBut _ _ D.i1z.symm hz₁))
    have hez : e ≠ z := fun x => by subst x; rw [hz₄] at hoe; cases hoe; simp at hce
    refine wpAny_setField_rec hz₄ (by simp) fun h₅ _ hs₅ => hE h₅ e (fun c o c1 c2 c3 c4 x => hs₅.extBut _ _ c1 (hs₄ _ _ c4 (hs₃.extBut _ _ c2 (hs₂.extBut _ _ c3 (hs₁.extBut _ _ c1 x))))) ⟨oe, hs₅.extBut _ _ hez hoe, hce⟩

theorem pyNext_zipM_item {z TI TO i1 i2 l1 l2 : Addr} {k1 k2 : Nat} {xs ys : Array Value} {x y a b : Value} {Q : Option Value → Shared → Prop} (D : ZipApart z TI TO i1 i2 l1 l2)
    (hz : IsZip s.heap z TI TO .none) (hTI : IsPair s.heap TI (.ref i1) (.ref i2)) (hTO : IsPair s.heap TO a b)
    (h1 : s.heap.IsListIter i1 l1 k1) (h2 : s.heap.IsTupleIter i2 l2 k2) (hl1 : s.heap.IsList l1 xs) (hl2 : s.heap.IsTuple l2 ys) (hx : xs[k1]? = some x) (hy : ys[k2]? = some y)
    (hQ : ∀ h', IsZip h' z TI TO (rawInt s.heap.objs.size) → IsPair h' TO x y → h'.IsListIter i1 l1 (k1 + 1) → h'.IsTupleIter i2 l2 (k2 + 1) → IsPair h' s.heap.objs.size x y → h'.objs.size = s.heap.objs.size + 1 →
      (∀ c o, c ≠ z → c ≠ TO → c ≠ i1 → c ≠ i2 → s.heap.get? c = some o → h'.get? c = some o) → Q (some (.ref s.heap.objs.size)) { s with heap := h' }) :
    wpAny (model prog w) A (pyNext (.ref z)) Q E s := by
  have hT : s.TypeIs (.ref z) "zip" := ⟨_, hz, rfl⟩
  unfold pyNext
  exact wpAny_bind (wpAny_attempt (wpAny_callSpecial?_slot (name := Str.ofString "__next__") hT F.slot_zip_next
    (wpAny_call_entry F.slot_zip_next hT F.entry_zip_next
      (zipM_next_item D hz hTI hTO h1 h2 hl1 hl2 hx hy fun h' a1 a2 a3 a4 a5 a6 a7 => wpAny_pure (hQ h' a1 a2 a3 a4 a5 a6 a7)) (F.args_zip_next_1 _))))

theorem pyNext_zipM_end {z TI TO i1 i2 l1 l2 : Addr} {k1 k2 : Nat} {xs ys : Array Value} {a b : Value} {Q : Option Value → Shared → Prop} (hh : A.handled = none) (D : ZipApart z TI TO i1 i2 l1 l2)
    (hz : IsZip s.heap z TI TO .none) (hTI : IsPair s.heap TI (.ref i1) (.ref i2)) (hTO : IsPair s.heap TO a b)
    (h1 : s.heap.IsListIter i1 l1 k1) (h2 : s.heap.IsTupleIter i2 l2 k2) (hl1 : s.heap.IsList l1 xs) (hl2 : s.heap.IsTuple l2 ys) (hend : xs[k1]? = none ∨ ys[k2]? = none)
    (hQ : ∀ h', (∀ c o, c ≠ z → c ≠ TO → c ≠ i1 → c ≠ i2 → s.heap.get? c = some o → h'.get? c = some o) → Q none { s with heap := h' }) : wpAny (model prog w) A (pyNext (.ref z)) Q E s := by
  have hT : s.TypeIs (.ref z) "zip" := ⟨_, hz, rfl⟩
  unfold pyNext
  refine wpAny_bind (wpAny_attempt (wpAny_callSpecial?_slot (name := Str.ofString "__next__") hT F.slot_zip_next
    (wpAny_call_entry F.slot_zip_next hT F.entry_zip_next (zipM_next_end hh D hz hTI hTO h1 h2 hl1 hl2 hend fun h' e hk he => ?_) (F.args_zip_next_1 _))))
  obtain ⟨o, ho, hc⟩ := he
  refine wpAny_bind (wpAny_isInstance (T := "StopIteration") (b := true) ⟨o, ho, hc⟩ isSubtype_stop ?_)
  exact wpAny_pure (hQ _ hk)
end

abbrev zipMH1 (h : Heap) (l1 : Addr) : Heap := h.push { cls := .type "list_iterator", data := .fields #[.ref l1, .int 0 0] }
abbrev zipMH2 (h : Heap) (l1 l2 : Addr) : Heap := (zipMH1 h l1).push { cls := .type "tuple_iterator", data := .fields #[.ref l2, .int 0 0] }
abbrev zipMH3 (h : Heap) (l1 l2 : Addr) : Heap := (zipMH2 h l1 l2).push { cls := .type "tuple", data := .seq #[.ref h.objs.size, .ref (zipMH1 h l1).objs.size] }
abbrev zipMH4 (h : Heap) (l1 l2 : Addr) : Heap := (zipMH3 h l1 l2).push { cls := .type "tuple", data := .seq #[.none, .none] }
abbrev zipMH5 (h : Heap) (l1 l2 : Addr) : Heap := (zipMH4 h l1 l2).push { cls := .type "zip", data := .fields #[.none, .bool false, .bool false, .ref (zipMH2 h l1 l2).objs.size, .ref (zipMH3 h l1 l2).objs.size] }

theorem meets_zipM_new (l1 l2 : Addr) (xs ys : Array Value) :
    Meets (Builtin.«zip.__new__» ⟨[.type "zip", .ref l1, .ref l2], []⟩) (fun _ R s => s.heap.IsList l1 xs ∧ s.heap.IsTuple l2 ys ∧
      R (.ok (.ret (.ref (zipMH4 s.heap l1 l2).objs.size))) { s with heap := zipMH5 s.heap l1 l2 }) :=
  .of_wp fun prog w A R s h => by
    obtain ⟨hp, g, d, tk, os⟩ := s; obtain ⟨hl1, hl2, h⟩ := h
    have hsub := sub_zip
    have hL1 : Heap.IsList (Shared.heap ⟨hp, g, d, tk, os⟩) l1 xs := hl1
    have hL2 : Heap.IsTuple (Shared.heap ⟨hp.push { cls := .type "list_iterator", data := .fields #[.ref l1, .int 0 0] }, g, d, tk, os⟩) l2 ys := Heap.IsTuple.push hl2 _
    wp_walk using wpAny_pyIter_list hL1, wpAny_pyIter_tuple hL2
    exact ⟨_, rfl, h⟩

section
variable {prog : Program} {w : World} {A : Around} {E : Value → Shared → Prop} {s : Shared}

theorem call_zipM {l1 l2 : Addr} {xs ys : Array Value} {Q : Value → Shared → Prop} (hl1 : s.heap.IsList l1 xs) (hl2 : s.heap.IsTuple l2 ys)
    (h : ∀ h', IsZip h' (s.heap.objs.size + 4) (s.heap.objs.size + 2) (s.heap.objs.size + 3) .none → IsPair h' (s.heap.objs.size + 2) (.ref s.heap.objs.size) (.ref (s.heap.objs.size + 1)) →
      IsPair h' (s.heap.objs.size + 3) .none .none → h'.IsListIter s.heap.objs.size l1 0 → h'.IsTupleIter (s.heap.objs.size + 1) l2 0 → h'.objs.size = s.heap.objs.size + 5 →
      (∀ c o, s.heap.get? c = some o → h'.get? c = some o) → Q (.ref (s.heap.objs.size + 4)) { s with heap := h' }) :
    wpAny (model prog w) A (call (.type "zip") [.ref l1, .ref l2]) Q E s := by
  refine callType_new F.called_zip (by decide) (F.typeCall_zip_2 _ _) (F.newCall_zip_2 _ _) (fun obj => F.args_object_init_3 obj _ _) F.entry_zip_new
    (meets_zipM_new l1 l2 xs ys) ⟨hl1, hl2, ?_⟩
  have z1 : (zipMH1 s.heap l1).objs.size = s.heap.objs.size + 1 := Heap.size_push ..
  have z2 : (zipMH2 s.heap l1 l2).objs.size = s.heap.objs.size + 2 := by rw [Heap.size_push, z1]
  have z3 : (zipMH3 s.heap l1 l2).objs.size = s.heap.objs.size + 3 := by rw [Heap.size_push, z2]
  have z4 : (zipMH4 s.heap l1 l2).objs.size = s.heap.objs.size + 4 := by rw [Heap.size_push, z3]
  have z5 : (zipMH5 s.heap l1 l2).objs.size = s.heap.objs.size + 5 := by rw [Heap.size_push, z4]
  have g5 : (zipMH5 s.heap l1 l2).get? (zipMH4 s.heap l1 l2).objs.size = some _ := Heap.get?_push_size _ rfl
  have g4 : (zipMH5 s.heap l1 l2).get? (zipMH3 s.heap l1 l2).objs.size = some _ := Heap.get?_push_of_some _ (Heap.get?_push_size _ rfl)
  have g3 : (zipMH5 s.heap l1 l2).get? (zipMH2 s.heap l1 l2).objs.size = some _ := Heap.get?_push_of_some _ (Heap.get?_push_of_some _ (Heap.get?_push_size _ rfl))
  have g2 : (zipMH5 s.heap l1 l2).get? (zipMH1 s.heap l1).objs.size = some _ := Heap.get?_push_of_some _ (Heap.get?_push_of_some _ (Heap.get?_push_of_some _ (Heap.get?_push_size _ rfl)))
  have g1 : (zipMH5 s.heap l1 l2).get? s.heap.objs.size = some _ := Heap.get?_push_of_some _ (Heap.get?_push_of_some _ (Heap.get?_push_of_some _ (Heap.get?_push_of_some _ (Heap.get?_push_size _ rfl))))
  show _ ∧ _
  rw [z2, z3, z4] at g5
  rw [z1, z2] at g3
  rw [z3] at g4
  rw [z1] at g2
  rw [z4]
  exact ⟨⟨_, g5, rfl⟩, h _ g5 g3 g4 ⟨_, g1, rfl, rfl⟩ ⟨_, g2, rfl, rfl⟩ z5 fun c o x =>
    Heap.get?_push_of_some _ (Heap.get?_push_of_some _ (Heap.get?_push_of_some _ (Heap.get?_push_of_some _ (Heap.get?_push_of_some _ x))))⟩
end
/-- the tuples at a and b as they stand at each turn, the items in new pairs -/
def ItzM (K : PySem.W.Frag) (a b : Addr) : It :=
  ⟨fun i H => ∃ (xs ys : List V) (x y : V), SqL K H a xs ∧ SqT K H b ys ∧ xs[i]? = some x ∧ ys[i]? = some y,
    fun i H v H' => ∃ T x y, v = .ref T ∧ H T = none ∧ H' = upd H T (.tup [x, y]) ∧ (∀ xs, SqL K H a xs → xs[i]? = some x) ∧ ∀ ys, SqT K H b ys → ys[i]? = some y,
    fun i H => ∃ xs ys : List V, SqL K H a xs ∧ SqT K H b ys ∧ (xs.length ≤ i ∨ ys.length ≤ i)⟩
theorem turn_zipM {P : Program} {w : World} {K : PySem.W.Frag} {elts : List Expr} {kk : Nat} {tpos : Pos} {a b z TI TO i1 i2 : Addr} (D : ZipApart z TI TO i1 i2 a b) :
    Turn P w K (.Tuple elts kk tpos) (ItzM K a b) [z, TI, TO, i1, i2] z (fun i h => IsZip h z TI TO .none ∧ IsPair h TI (.ref i1) (.ref i2) ∧ (∃ x y, IsPair h TO x y) ∧ h.IsListIter i1 a i ∧ h.IsTupleIter i2 b i) where
  mem := by simp
  obj := fun i h st c hc => by
    obtain ⟨hz, hTI, ⟨x, y, hTO⟩, ⟨o1, e1, _, d1⟩, ⟨o2, e2, _, d2⟩⟩ := st
    have e' : c = z ∨ c = TI ∨ c = TO ∨ c = i1 ∨ c = i2 := by simpa using hc
    rcases e' with q | q | q | q | q
    · rw [q]; exact ⟨_, hz, fun v q => nomatch q⟩
    · rw [q]; exact ⟨_, hTI, fun v q => nomatch q⟩
    · rw [q]; exact ⟨_, hTO, fun v q => nomatch q⟩
    · rw [q]; exact ⟨o1, e1, fun v q => by rw [d1] at q; cases q⟩
    · rw [q]; exact ⟨o2, e2, fun v q => by rw [d2] at q; cases q⟩
  keep := fun i h h' st k => by
    obtain ⟨hz, hTI, ⟨x, y, hTO⟩, h1, h2⟩ := st
    exact ⟨k z (by simp) _ hz, k TI (by simp) _ hTI, ⟨x, y, k TO (by simp) _ hTO⟩, h1.at fun o q => k i1 (by simp) o q, h2.at fun o q => k i2 (by simp) o q⟩
  item := by
    intro X hP hw hK hc i pins s σ H E I hf st hg
    subst hP hw hK
    obtain ⟨hz, hTI, ⟨x0, y0, hTO⟩, h1, h2⟩ := st
    obtain ⟨xs, ys, x, y, hqx, hqy, hx, hy⟩ := hg
    obtain ⟨its, rv, p, _⟩ := I.list hqx
    obtain ⟨its2, rv2, p2, _⟩ := I.tuple hqy
    obtain ⟨u, hu, ru⟩ := rv.get hx
    obtain ⟨u2, hu2, ru2⟩ := rv2.get hy
    have hzl : z < s.heap.objs.size := Heap.lt_size hz
    refine pyNext_zipM_item D hz hTI hTO h1 h2 p.isList p2 (x := u) (y := u2) (by simpa using hu) (by simpa using hu2) fun h' z' TO' h1' h2' hT hsz hk => ?_
    refine ⟨_, rfl, wpAny_letOwnedTupleGo_zip (s := { s with heap := h' }) z' fun h'' z'' sb => ?_⟩
    have hT2 : h''.get? s.heap.objs.size = some { cls := .type "tuple", data := .seq #[u, u2] } := (sb.2 _ (Nat.ne_of_gt hzl)).trans hT
    have new : ObjOk X.prog X.w (upd H s.heap.objs.size (.tup [x, y])) h'' s.heap.objs.size (.tup [x, y]) :=
      ⟨by show 2 ≤ sizeLine; decide, [u, u2], .cons ru (.cons ru2 .nil), ⟨_, hT2, rfl, _, rfl⟩⟩
    have I1 : Inv X pins σ (upd H s.heap.objs.size (.tup [x, y])) { s with heap := h'' } :=
      I.turnedNew (t' := s.toks) (ch := [z, TI, TO, i1, i2]) (fun c o hb q => (sb.2 c (fun q' => hb (by simp [q']))).trans (hk c o (fun q' => hb (by simp [q'])) (fun q' => hb (by simp [q'])) (fun q' => hb (by simp [q'])) (fun q' => hb (by simp [q'])) q)) hf (Nat.le_refl _) new
    refine ⟨.ref s.heap.objs.size, _, I1, rfl, ⟨_, x, y, rfl, I.hok.fresh (Nat.le_refl _), rfl, fun l hl => by rw [I.list_inj hl hqx]; exact hx, fun l hl => by rw [I.tuple_inj hl hqy]; exact hy⟩, ⟨z'', ?_, ⟨u, u2, ?_⟩, ?_, ?_⟩, fun c hcm => ?_⟩
    · exact (sb.2 _ D.TIz).trans (hk _ _ D.TIz D.TITO D.TIi1 D.TIi2 hTI)
    · exact (sb.2 _ D.TOz).trans TO'
    · exact h1'.at fun o q => (sb.2 _ D.i1z).trans q
    · exact h2'.at fun o q => (sb.2 _ D.i2z).trans q
    · have hlt : c < s.heap.objs.size := by
        have e' : c = z ∨ c = TI ∨ c = TO ∨ c = i1 ∨ c = i2 := by simpa using hcm
        rcases e' with q | q | q | q | q
        · rw [q]; exact hzl
        · rw [q]; exact Heap.lt_size hTI
        · rw [q]; exact Heap.lt_size hTO
        · rw [q]; obtain ⟨_, e1, _⟩ := h1; exact Heap.lt_size e1
        · rw [q]; obtain ⟨_, e2, _⟩ := h2; exact Heap.lt_size e2
      rw [upd_ne (Nat.ne_of_lt hlt)]
      exact (hf c hcm).1
  done := by
    intro X hP hw hK hc i pins s σ H E I hf st hg
    subst hP hw hK
    obtain ⟨hz, hTI, ⟨x0, y0, hTO⟩, h1, h2⟩ := st
    obtain ⟨xs, ys, hqx, hqy, hend⟩ := hg
    obtain ⟨its, rv, p, _⟩ := I.list hqx
    obtain ⟨its2, rv2, p2, _⟩ := I.tuple hqy
    have l1 := rv.length
    have l2 := rv2.length
    have he : its.toArray[i]? = none ∨ its2.toArray[i]? = none := by
      rcases hend with q | q
      · exact .inl (by simp; omega)
      · exact .inr (by simp; omega)
    exact pyNext_zipM_end (I.ok.hd hc) D hz hTI hTO h1 h2 p.isList p2 he fun h' hk => ⟨rfl, I.turnedL (t' := s.toks) (ch := [z, TI, TO, i1, i2]) (fun c o hb q =>
      hk c o (fun q' => hb (by simp [q'])) (fun q' => hb (by simp [q'])) (fun q' => hb (by simp [q'])) (fun q' => hb (by simp [q'])) q) hf⟩
  self := fun A i s Q E st h => wpAny_pyIter_zip st.1 h


def iZipMx (K : PySem.W.Frag) (ta : TA) : TI := fun σ H R => ta σ H fun vs H1 => ∃ a b xs ys, vs = [.ref a, .ref b] ∧ SqL K H1 a xs ∧ SqT K H1 b ys ∧ R (ItzM K a b) H1
theorem pi_zipMx {X : Cx} {e e2 : Expr} {ta : TA} {p pos tpos : Pos} {elts : List Expr} {kk : Nat} (hg : Gl X "zip") (hm : X.mg "zip" = none) (ha : PA X [e, e2] ta)
    (hs : starEach [e, e2] X.env = (false, eval e X.env) :: starEach [e2] X.env := by rfl) (hpl : (backTo pos (starEach [e2] X.env)).any (·.1) = false := by rfl) :
    PI X (.Tuple elts kk tpos) (.Call (.Name "zip" p) [e, e2] [] pos) (iZipMx X.K ta) := by
  refine ⟨fun pins s σ H R I h => ?_⟩
  refine Call_ (ld_blt I hg hm PyProof.Rows.boot_zip (PyProof.Rows.callWith_type1 (thn (ha.run pos pins s σ H _ I h) fun us s1 ⟨vs, H1, I1, r1, q1⟩ => ?_) hs hpl))
  obtain ⟨a, b, xs, ys, ex, hqx, hqy, q⟩ := q1
  subst ex
  cases r1 with
  | cons r rr =>
    cases rr with
    | cons r' rr =>
      cases rr
      cases r
      cases r'
      have fresh5 : ∀ c, c ∈ [s1.heap.objs.size + 4, s1.heap.objs.size + 2, s1.heap.objs.size + 3, s1.heap.objs.size, s1.heap.objs.size + 1] → FpOk X pins H1 c := fun c hcm => by
        have hle : s1.heap.objs.size ≤ c := by
          simp only [List.mem_cons, List.not_mem_nil, or_false] at hcm
          rcases hcm with rfl | rfl | rfl | rfl | rfl
          · exact Nat.le_add_right _ _
          · exact Nat.le_add_right _ _
          · exact Nat.le_add_right _ _
          · exact Nat.le_refl _
          · exact Nat.le_add_right _ _
        exact I1.fpOk hle (I1.hok.fresh hle)
      obtain ⟨its, rv, p1, _⟩ := I1.list hqx
      obtain ⟨its2, rv2, p2, _⟩ := I1.tuple hqy
      obtain ⟨o2, ho2, _⟩ := id p2
      refine call_zipM p1.isList (show s1.heap.IsTuple b its2.toArray from p2) fun h' hz hTI hTO h1 h2 hsz hk => wpAny_pyIter_zip hz ?_
      have I2 : Inv X pins σ H1 { s1 with heap := h' } := I1.kept (t' := s1.toks) hk
      exact ⟨s1.heap.objs.size + 4, [s1.heap.objs.size + 4, s1.heap.objs.size + 2, s1.heap.objs.size + 3, s1.heap.objs.size, s1.heap.objs.size + 1], _, _, H1, rfl, I2, turn_zipM (PySem.W.ktu_apart s1.heap.objs.size a b p1.lt (Heap.lt_size ho2)), ⟨hz, hTI, ⟨_, _, hTO⟩, h1, h2⟩, fresh5, q⟩
theorem itOk_zipM {K : PySem.W.Frag} {a b : Addr} {xs ys : List PyData} : ItOk K (ItzM K a b) [.ref a, .ref b] [.list xs, .tuple ys] (pairs xs ys) := fun G H sg hd => by
  cases hd with
  | cons h1 hd =>
    cases hd with
    | cons h2 hd =>
      cases h1 with
      | lst a1 a2 =>
        cases h2 with
        | tup b1 b2 =>
          rename_i vs ws
          have sx := SqL.mono sg a1
          have sy := SqT.mono sg b1
          refine ⟨fun i d hi => ?_, vs, ws, sx, sy, ?_⟩
          · obtain ⟨x, y, hx, hy, rfl⟩ := zip_get hi
            obtain ⟨v, hv, dv⟩ := a2.get hx
            obtain ⟨w, hw, dw⟩ := b2.get hy
            refine ⟨⟨vs, ws, v, w, sx, sy, hv, hw⟩, ?_⟩
            rintro z H' ⟨T, x', y', rfl, hT, rfl, q1, q2⟩
            have e1 := q1 vs sx
            have e2 := q2 ws sy
            rw [hv] at e1
            rw [hw] at e2
            cases e1
            cases e2
            exact ⟨Same.updN hT, dp_pair sg hT dv dw⟩
          · have := a2.length
            have := b2.length
            simp [pairs]
            omega
def zipM : List PyData → Option (List PyData)
  | [.list xs, .tuple ys] => some (pairs xs ys)
  | _ => none
section
variable {X : Cx} {B : Bs} {W : XW} {tg : Expr}
theorem pdi_zipM {it : Expr} {ar : Mo (List Vl)} (h : PI X tg it (iZipMx X.K (tA X.K B W ar))) : PI X tg it (tI X.K B W (iZips zipM ar)) := by
  refine h.imp fun σ H R ⟨e, t, val, s, h⟩ => ?_
  refine ⟨e, t, val, s, (Fin.bnd h).imp fun r e1 _ h1 vs H1 t1 val1 ag1 s1 at1 => ?_⟩
  obtain ⟨d, e2, p, h2⟩ := Fin.freezes (Fin.bnd h1)
  obtain ⟨t1', l1, l2, s2, _, hd⟩ := freezes_ok s1 at1.weak p
  obtain ⟨ds, hs, h3⟩ := Fin.lift h2
  obtain ⟨val', ag, s3, tm⟩ := s2.pushAll hd
  have ag2 : Ag (B.n + t.length) val val' := Ag.trans (by simp) (ag_n s1 ag1) ag
  rw [List.append_assoc] at s3 tm
  unfold zipM at hs
  split at hs
  · cases hs
    cases hd with
    | cons g1 hd =>
      cases hd with
      | cons g2 hd =>
        cases hd
        cases g1 with
        | lst a1 a2 =>
          cases g2 with
          | tup b1 b2 => exact ⟨_, _, _, _, rfl, SqL.mono minus_sub a1, SqT.mono minus_sub b1, h3 _ _ _ _ _ _ ag2 s3 tm itOk_zipM⟩
  · cases hs
end
end L2.DL


namespace L2.DL
open PySem PySem.Spec PyProof.Rows RZ
/-! ### t[::-1] of a tuple -/
section
variable {prog : Program} {w : World} {A : Around} {E : Value → Shared → Prop} {s : Shared}
theorem rev_adjust (n : Nat) : Builtin.Slice.sliceAdjust none none (-1) (n : Int) = ((n : Int) - 1, -1) := by
  unfold Builtin.Slice.sliceAdjust
  simp
theorem rev_places (n : Nat) : Builtin.Slice.slicePlaces ((n : Int) - 1) (-1) (-1) = n := by
  unfold Builtin.Slice.slicePlaces
  simp
  split <;> omega
theorem filterMap_all {α β : Type} {f : α → Option β} {g : α → β} : ∀ {l : List α}, (∀ x ∈ l, f x = some (g x)) → l.filterMap f = l.map g
  | [], _ => rfl
  | x :: l, h => by
    rw [List.filterMap_cons, h x (List.mem_cons_self ..)]
    simp [filterMap_all (l := l) fun y hy => h y (List.mem_cons_of_mem _ hy)]
theorem rev_pick (xs : Array Value) : ((List.range xs.size).filterMap fun (m : Nat) => xs[(((xs.size : Int) - 1) + (m : Int) * (-1)).toNat]?).toArray = xs.toList.reverse.toArray := by
  congr 1
  apply List.ext_getElem?
  intro i
  have e : (List.range xs.size).filterMap (fun (m : Nat) => xs[(((xs.size : Int) - 1) + (m : Int) * (-1)).toNat]?) = (List.range xs.size).map fun m => xs.toList.reverse.getD m .none := by
    apply filterMap_all
    intro m hm
    have hm := List.mem_range.mp hm
    have e1 : (((xs.size : Int) - 1) + (m : Int) * (-1)).toNat = xs.size - 1 - m := by omega
    rw [e1]
    have h2 : xs.size - 1 - m < xs.size := by omega
    simp [List.getD_eq_getElem?_getD, List.getElem?_reverse, hm, h2]
  rw [e, List.getElem?_map]
  by_cases hi : i < xs.size
  · rw [List.getElem?_range hi]
    simp [List.getD_eq_getElem?_getD, List.getElem?_reverse, hi]
  · rw [List.getElem?_eq_none (by simp; omega), List.getElem?_eq_none (by simp; omega)]
    rfl
theorem rev_applied {sl : Addr} {u : Tok} {n : Nat} {Q : Int × Int × Nat → Shared → Prop} (hs : s.heap.IsSliceOf sl .none .none (.int (-1) u))
    (h : Q ((n : Int) - 1, -1, n) s) : wpAny (model prog w) A (Builtin.Slice.sliceApplied (.ref sl) (pure (n : Int))) Q E s := by
  obtain ⟨os, hos, hcs, hds⟩ := id hs
  unfold Builtin.Slice.sliceApplied Builtin.Slice.sliceFields
  refine wpAny_bind (wpAny_bind (wpAny_field hos hds (x := .none) rfl (wpAny_bind (wpAny_field hos hds (x := .none) rfl (wpAny_bind (wpAny_field hos hds (x := .int (-1) u) rfl (wpAny_pure ?_)))))))
  refine wpAny_bind (slicePart_int ?_)
  show wpAny _ _ (if ((-1 : Int) == 0) = true then _ else _) _ _ s
  rw [if_neg (by decide)]
  refine wpAny_bind (slicePart_none (wpAny_bind (slicePart_none (wpAny_bind (wpAny_pure ?_)))))
  show wpAny _ _ (match Builtin.Slice.sliceAdjust none none (-1) (n : Int) with | (lo, hi) => pure (lo, (-1 : Int), Builtin.Slice.slicePlaces lo hi (-1))) _ _ s
  rw [rev_adjust n]
  show wpAny _ _ (pure ((n : Int) - 1, (-1 : Int), Builtin.Slice.slicePlaces ((n : Int) - 1) (-1) (-1))) _ _ s
  rw [rev_places]
  exact wpAny_pure h
theorem getItem_tuple_rev {t sl : Addr} {items : Array Value} {u : Tok} {Q : Value → Shared → Prop} (ht : IsTup s.heap t items) (hs : s.heap.IsSliceOf sl .none .none (.int (-1) u))
    (h : Q (.ref s.heap.objs.size) { s with heap := s.heap.push { cls := .type "tuple", data := .seq items.toList.reverse.toArray } })
    (hsz : items.size ≤ sizeLine) : wpAny (model prog w) A (getItem (.ref t) (.ref sl)) Q E s := by
  have htake : sizeOk (.seq items.toList.reverse.toArray) := by
    show items.toList.reverse.toArray.size ≤ sizeLine
    rw [List.size_toArray, List.length_reverse, Array.length_toList]
    omega
  obtain ⟨os, hos, hcs, hds⟩ := id hs
  have hTs : s.TypeIs (.ref sl) "slice" := ⟨os, hos, hcs⟩
  unfold getItem
  try with_reducible refine wpAny_holding ?_
  first | refine wpAny_bind (wpAny_pure ?_) | skip
  refine wpAny_bind (wpAny_sequenceKey ht.typeIs (by decide) ?_)
  refine wpAny_bind (wpAny_callSpecial?_slot (name := Str.ofString "__getitem__") ht.typeIs PyProof.Rows.slot_tuple_getitem
    (wpAny_call_entry PyProof.Rows.slot_tuple_getitem ht.typeIs entry_tuple_getitem ?_ (args_tuple_getitem _ _)))
  show wpAny _ _ (Builtin.Tuple.tupleItemsOf (.ref t) >>= _) _ _ s
  refine wpAny_bind (tupleItemsOf_ ht ?_)
  refine wpAny_bind (wpAny_typeOf hTs ?_)
  rw [if_pos (by decide)]
  refine wpAny_bind (rev_applied (n := items.size) hs ?_)
  have hno : ¬ ((((items.size : Int) - 1) == 0 && (-1 : Int) == 1 && items.size == items.size) = true) := by simp
  show wpAny _ _ (if (((items.size : Int) - 1) == 0 && (-1 : Int) == 1 && items.size == items.size) = true then _ else _) _ _ s
  rw [if_neg hno, rev_pick]
  first
    | exact wpAny_bind (m := Builtin.Tuple.tupleExact _) (wpAny_newObj_type (wpAny_pure ⟨_, rfl, wpAny_pure h⟩) htake)
    | exact wpAny_bind (m := Builtin.Tuple.tupleExact _) (wpAny_newObj_type (wpAny_bind (wpAny_pure (wpAny_pure ⟨_, rfl, wpAny_pure h⟩))) htake)
    | exact wpAny_bind (wpAny_bind (m := Builtin.Tuple.tupleExact _) (wpAny_newObj_type (wpAny_pure (wpAny_pure ⟨_, rfl, wpAny_pure h⟩)) htake))
    | exact wpAny_bind (wpAny_bind (m := Builtin.Tuple.tupleExact _) (wpAny_newObj_type (wpAny_pure ⟨_, rfl, wpAny_pure h⟩) htake))
end
def tRevA (K : PySem.W.Frag) (te : TE) : TE := fun σ H Q => te σ H fun x H1 => ∃ a xs, x = .ref a ∧ ((SqL K H1 a xs ∧ ∀ p, H1 p = none → Q (.ref p) (upd H1 p (.lst xs.reverse))) ∨ (SqT K H1 a xs ∧ ∀ p, H1 p = none → Q (.ref p) (upd H1 p (.tup xs.reverse))))
theorem pe_revA {X : Cx} {e : Expr} {te : TE} {k : Nat} {p1 p2 p3 pos : Pos} (he : PE X e te) : PE X (.Subscript e (.Slice none none (some (.UnaryOp .USub (.Constant (.int 1) k p1) p2)) p3) pos) (tRevA X.K te) := by
  refine ⟨fun pins s σ H Q I h => ?_⟩
  refine Subscript_ (thn (he.run pins s σ H _ I h) fun v s1 ⟨x, H1, I1, r1, q1⟩ => ?_)
  obtain ⟨a, xs, ex, q1⟩ := q1
  subst ex
  cases r1
  have hst : PO X (some (.UnaryOp .USub (.Constant (.int 1) k p1) p2)) (tPart (tUn (rU fun i => .int (-i)) (tC (.int 1)))) := po_some (pe_un un_neg pe_int)
  refine wpAny_Slice (thn (po_none.run pins s1 σ H1 (fun o H2 => o = none ∧ H2 = H1) I1 ⟨rfl, rfl⟩) fun vl s2 ⟨l, H2, I2, pl, el, e2⟩ => ?_)
  subst el e2
  refine thn (po_none.run pins s2 σ H2 (fun o H3 => o = none ∧ H3 = H2) I2 ⟨rfl, rfl⟩) fun vu s3 ⟨u, H3, I3, pu, eu, e3⟩ => ?_
  subst eu e3
  refine thn (hst.run pins s3 σ H3 (fun o H4 => o = some (-1) ∧ H4 = H3) I3 ⟨1, rfl, -1, rfl, rfl, rfl⟩) fun vs s4 ⟨o, H4, I4, ps, eo, e4⟩ => ?_
  subst eo e4
  have I5 : Inv X pins σ H4 { s4 with heap := s4.heap.push { cls := .type "slice", data := .fields #[vl, vu, vs] } } := I4.kept (t' := s4.toks) fun b ob q => Heap.get?_push_of_some _ q
  show wpAny (model X.prog X.w) X.A (subscriptTail e (.Slice none none (some (.UnaryOp .USub (.Constant (.int 1) k p1) p2)) p3) (.ref a) (.ref s4.heap.objs.size)) (EP X pins σ Q) X.xe { s4 with heap := s4.heap.push { cls := .type "slice", data := .fields #[vl, vu, vs] } }
  rcases q1 with ⟨hx, q⟩ | ⟨hx, q⟩
  · obtain ⟨its, r, ht, hz⟩ := I5.list hx
    have hlen := r.length
    refine tail_any (ops := [.ref a, .ref s4.heap.objs.size]) ht.isList.typeIs (PySem.slot_list_getitem.lookup) ?_ (by with_unfolding_all rfl)
    refine wpAny_getItem_list_slice ht.isList (Heap.IsSliceOf.new _ vl vu vs) pl pu ps (by decide) ?_ (by rw [List.size_toArray]; omega)
    rw [PySem.W.krv_pick]
    refine ⟨.ref _, _, I5.laid (t' := s4.toks) (o := .lst xs.reverse) (fun b ob q => Heap.get?_push_of_some _ q) (Nat.le_refl _) ?_, rfl, q _ (I5.hok.fresh (Nat.le_refl _))⟩
    exact ⟨by rw [List.length_reverse]; exact hz, _, 0, r.reverse, Heap.get?_push_size _ rfl⟩
  · obtain ⟨its, r, ht, hz⟩ := I5.tuple hx
    have hlen := r.length
    cases pl
    cases pu
    cases ps
    refine tail_any (ops := [.ref a, .ref s4.heap.objs.size]) ht.typeIs (PyProof.Rows.slot_tuple_getitem.lookup) ?_ (by with_unfolding_all rfl)
    refine getItem_tuple_rev ht (Heap.IsSliceOf.new _ _ _ _) ?_ (by rw [List.size_toArray]; omega)
    refine ⟨.ref _, _, I5.laid (t' := s4.toks) (o := .tup xs.reverse) (fun b ob q => Heap.get?_push_of_some _ q) (Nat.le_refl _) ?_, rfl, q _ (I5.hok.fresh (Nat.le_refl _))⟩
    exact ⟨by rw [List.length_reverse]; exact hz, _, r.reverse, IsTup.new _ _⟩
def revA : PyData → Option Vl
  | .list xs => some (.fr xs.reverse)
  | .tuple xs => some (.d (.tuple xs.reverse))
  | _ => none
theorem revAD {K : PySem.W.Frag} : UnD K (fun x H Q => ∃ a xs, x = .ref a ∧ ((SqL K H a xs ∧ ∀ p, H p = none → Q (.ref p) (upd H p (.lst xs.reverse))) ∨ (SqT K H a xs ∧ ∀ p, H p = none → Q (.ref p) (upd H p (.tup xs.reverse))))) revA := by
  intro G H x dx w Q sg hx hf q
  unfold revA at hf
  split at hf
  · cases hf
    obtain ⟨a, vs, rfl, s1, d1⟩ := hx.lst sg
    exact ⟨a, vs, rfl, .inl ⟨s1, fun p hp => q _ _ (Res.lst sg hp d1.reverse)⟩⟩
  · cases hf
    obtain ⟨a, vs, rfl, s1, d1⟩ := hx.tup sg
    exact ⟨a, vs, rfl, .inr ⟨s1, fun p hp => q _ _ (Res.tup sg hp d1.reverse)⟩⟩
  · cases hf
section
variable {X : Cx} {B : Bs} {W : XW} {o a : Expr} {es : List Expr} {apos pos : Pos} {fo fa : Mo Vl} {ar : Mo (List Vl)}
theorem d_revA {k : Nat} {p1 p2 p3 : Pos} (ha : PE X a (tD X.K B W fa)) : PE X (.Subscript a (.Slice none none (some (.UnaryOp .USub (.Constant (.int 1) k p1) p2)) p3) pos) (tD X.K B W (eUn revA fa)) :=
  pd_un (r := fun x H Q => ∃ a xs, x = .ref a ∧ ((SqL X.K H a xs ∧ ∀ p, H p = none → Q (.ref p) (upd H p (.lst xs.reverse))) ∨ (SqT X.K H a xs ∧ ∀ p, H p = none → Q (.ref p) (upd H p (.tup xs.reverse))))) (pe_revA ha) revAD
theorem d_lappend (ho : PE X o (tD X.K B W fo)) (ha : PE X a (tD X.K B W fa)) (hbase : attributeBase o "append" X.env (eval o X.env) = eval o X.env := by rfl)
    (hfew : ((backTo pos (starEach [a] X.env)).all (fun x => !x.1) && (backToKw pos (keywordEach [] X.env)).all (fun x => x.1.isSome) && decide ([a].length + ([] : List Keyword).length + (if ([] : List Keyword).isEmpty then 0 else 1) < 30)) = true := by rfl)
    (hline : (apos.endLine == pos.line) = true := by rfl) (hs : starEach [a] X.env = (false, eval a X.env) :: starEach [] X.env := by rfl) (hplain : (backTo pos (starEach [] X.env)).any (·.1) = false := by rfl) :
    PE X (.Call (.Attribute o "append" apos) [a] [] pos) (tD X.K B W (eMut appendF fo (aCons fa aNil))) :=
  pd_mut (pe_bm PySem.F.plainAttrs_list PySem.F.slot_list_append PySem.F.type_list_append mt_append ho (pda_cons ha pda_nil hs) hbase hfew hline hs hplain) appendM
theorem d_lextend1 (ho : PE X o (tD X.K B W fo)) (ha : PE X a (tD X.K B W fa)) (hbase : attributeBase o "extend" X.env (eval o X.env) = eval o X.env := by rfl)
    (hfew : ((backTo pos (starEach [a] X.env)).all (fun x => !x.1) && (backToKw pos (keywordEach [] X.env)).all (fun x => x.1.isSome) && decide ([a].length + ([] : List Keyword).length + (if ([] : List Keyword).isEmpty then 0 else 1) < 30)) = true := by rfl)
    (hline : (apos.endLine == pos.line) = true := by rfl) (hs : starEach [a] X.env = (false, eval a X.env) :: starEach [] X.env := by rfl) (hplain : (backTo pos (starEach [] X.env)).any (·.1) = false := by rfl) :
    PE X (.Call (.Attribute o "extend" apos) [a] [] pos) (tD X.K B W (eExt fo fa)) :=
  d_lextend (pl := pure true) ho ha (pe_bm PySem.F.plainAttrs_list PySem.F.slot_list_extend PySem.F.type_list_extend mt_extend ho (pa_cons ha pa_nil hs) hbase hfew hline hs hplain)
theorem d_lpop (ho : PE X o (tD X.K B W fo)) (hbase : attributeBase o "pop" X.env (eval o X.env) = eval o X.env := by rfl) (hline : (apos.endLine == pos.line) = true := by rfl) :
    PE X (.Call (.Attribute o "pop" apos) [] [] pos) (tD X.K B W (eMut popF fo aNil)) :=
  pd_mut0 (pe_bm0 PySem.F.plainAttrs_list PySem.F.slot_list_pop PySem.F.type_list_pop mt_pop ho hbase hline) popM
end
/-! ### what is never reached -/
def sDead : Mo Fl := fun _ => none
theorem pds_dead {X : Cx} {B : Bs} {W : XW} {st : Stmt} : PS X st (tS X.K B W sDead) := ⟨fun pins s σ H D I h => by
  obtain ⟨e, t, val, _, z⟩ := h
  exact z.elim⟩
end L2.DL

/-! itertools.combinations -/
namespace L2.DL.Cmb
open PySem PySem.Spec PyProof.Rows
open Sem (wp)
abbrev CT : String := "itertools.combinations"
theorem mro_c : mroOf (.type "itertools.combinations") = pure [.type "itertools.combinations", .type "object"] := by rw [mroOf_type]; kernel_rfl
theorem new_c : typeLookup (.type "itertools.combinations") "__new__" = pure (some (.builtin "itertools.combinations.__new__")) := by rw [typeLookup_type, builtinLookup_eq_fast]; kernel_rfl
theorem slot_init : Slot "itertools.combinations" "__init__" "object.__init__" :=
  .of (owner := "object") (n := "__init__") (by rw [typeLookup_type, builtinLookup_eq_fast]; kernel_rfl) (by decide +kernel) (by decide +kernel) (by decide +kernel)
    (by first | exact .inl (by decide +kernel) | exact .inr (by decide +kernel)) (by rw [isSubtype_type]; kernel_rfl)
theorem sub_c : isSubtype (.type "itertools.combinations") (.type "itertools.combinations") = pure true := by rw [isSubtype_type]; kernel_rfl
theorem called_c : TypeCalled "itertools.combinations" "itertools.combinations.__new__" "object.__init__" :=
  ⟨by decide +kernel, by decide +kernel, ⟨_, _, mro_c⟩, madeBy_type mro_c new_c (by decide +kernel), by decide +kernel, sub_c, slot_init⟩
theorem typeCall_2 (a b : Value) : checkTypeCall "itertools.combinations" ⟨[a, b], []⟩ = pure () := by kernel_rfl
theorem newCall_2 (a b : Value) : checkBuiltinCall "itertools.combinations.__new__" ⟨[.type "itertools.combinations", a, b], []⟩ = pure () := by kernel_rfl
theorem entry_new : entryFor table "itertools.combinations.__new__" = some Builtin.«itertools.combinations.__new__» := entryFor_of_tree (by kernel_rfl)
theorem plain_new : plainId "itertools.combinations.__new__" = true := by decide +kernel
theorem slot_iter : Slot "itertools.combinations" "__iter__" "itertools.combinations.__iter__" :=
  .of (owner := "itertools.combinations") (n := "__iter__") (by rw [typeLookup_type, builtinLookup_eq_fast]; kernel_rfl) (by decide +kernel) (by decide +kernel) (by decide +kernel)
    (by first | exact .inl (by decide +kernel) | exact .inr (by decide +kernel)) sub_c
theorem slot_next : Slot "itertools.combinations" "__next__" "itertools.combinations.__next__" :=
  .of (owner := "itertools.combinations") (n := "__next__") (by rw [typeLookup_type, builtinLookup_eq_fast]; kernel_rfl) (by decide +kernel) (by decide +kernel) (by decide +kernel)
    (by first | exact .inl (by decide +kernel) | exact .inr (by decide +kernel)) sub_c
theorem entry_iter : entryFor table "itertools.combinations.__iter__" = some Builtin.«dict_keyiterator.__iter__» :=
  entryFor_alias (id' := "dict_keyiterator.__iter__") (by kernel_rfl) (by first | rfl | decide +kernel | (unfold String.splitOn; simp +decide [String.splitOnAux])) (by decide +kernel) (by kernel_rfl)
theorem entry_next : entryFor table "itertools.combinations.__next__" = some Builtin.«itertools.combinations.__next__» := entryFor_of_tree (by kernel_rfl)
theorem owner_c : Manifest.owners.lookup (String.ofList ['s', 'n', 'o', 'i', 't', 'a', 'n', 'i', 'b', 'm', 'o', 'c', '.', 's', 'l', 'o', 'o', 't', 'r', 'e', 't', 'i'].reverse) = some Manifest.sig_itertools_combinations := by kernel_rfl
theorem args_iter (a : Value) : argsOk "itertools.combinations.__iter__" ⟨[a], []⟩ := by
  unfold argsOk; rw [signature?_of (id := "itertools.combinations.__iter__") (n := ['_', '_', 'r', 'e', 't', 'i', '_', '_']) (o := ['s', 'n', 'o', 'i', 't', 'a', 'n', 'i', 'b', 'm', 'o', 'c', '.', 's', 'l', 'o', 'o', 't', 'r', 'e', 't', 'i']) (by kernel_rfl) owner_c]; kernel_rfl
theorem args_next (a : Value) : argsOk "itertools.combinations.__next__" ⟨[a], []⟩ := by
  unfold argsOk; rw [signature?_of (id := "itertools.combinations.__next__") (n := ['_', '_', 't', 'x', 'e', 'n', '_', '_']) (o := ['s', 'n', 'o', 'i', 't', 'a', 'n', 'i', 'b', 'm', 'o', 'c', '.', 's', 'l', 'o', 'o', 't', 'r', 'e', 't', 'i']) (by kernel_rfl) owner_c]; kernel_rfl
theorem noDict : typeHasDict (.type "itertools.combinations") = false := by decide +kernel
theorem nolen : typeLookup (.type "itertools.combinations") "__len__" = pure none := by rw [typeLookup_type, builtinLookup_eq_fast]; kernel_rfl
theorem nohint : typeLookup (.type "itertools.combinations") "__length_hint__" = pure none := by rw [typeLookup_type, builtinLookup_eq_fast]; kernel_rfl
/-- the iterator's record -/
abbrev rec (T : Addr) (st : Int) (last : Value) (idx : List Nat) : Obj := { cls := .type "itertools.combinations", dict := none, data := .fields (#[.ref T, .int st 0, last] ++ (idx.map fun (i : Nat) => rawInt i).toArray), slots := #[] }
end L2.DL.Cmb

namespace L2.DL.Cmb
open PySem PySem.Spec PyProof.Rows
open Sem (wp)
section
variable {prog : Program} {w : World} {A : Around} {E : Value → Shared → Prop} {s : Shared}
theorem code_new {rg : Addr} {a b c : Int} {t u v tr : Tok} {n r : Nat} {Q₁ : Value → Shared → Prop} (hh : A.handled = none) (hr : IsRange s.heap rg a b c t u v) (hsmall : Builtin.Range.small a b c = true) (hn : Builtin.Range.rangeSize a b c = n) (hlen : n ≤ 1000) (hr1 : r ≤ n)
    (h : ∀ (h' : Heap) (tk : Nat) (acc : Array Value), (∀ b o, s.heap.get? b = some o → h'.get? b = some o) → ItemsOf (fun i v => ∃ t, v = .int (a + i * c) t) acc n →
      Q₁ (.ref (h'.objs.size + 1)) { s with heap := (h'.push { cls := .type "tuple", data := .seq acc }).push (rec h'.objs.size 0 .none (List.range r)), toks := tk }) :
    codeAny (model prog w) A (.call (.builtin "itertools.combinations.__new__") ⟨[.type "itertools.combinations", .ref rg, .int (r : Nat) tr], []⟩) (wants Q₁ E) s := by
  refine codeAny_call_builtin plain_new entry_new (wpAny_of_eq (newCall_2 _ _) ?_)
  unfold Builtin.«itertools.combinations.__new__»
  have hsub := sub_c
  have hd := noDict
  have hh1 : A.in1.handled = none := hh
  have hlen2 : n ≤ 2 ^ 24 := by omega
  have hnm : ("itertools." ++ "combinations" : String) = "itertools.combinations" := by decide +kernel
  repeat (first
      | (with_reducible refine L2.collect_range (A := A.in1) hh1 hr hsmall hn hlen2 ?_)
      | simp only [hnm]
      | wp_step
      | simp only [List.head?_cons, Option.some_or, List.getElem?_cons_succ, List.getElem?_cons_zero, List.length_cons, List.length_nil, List.forIn_nil])
  have h1 : ¬ ((decide ((r : Int) < -2 ^ 63) || decide ((r : Int) ≥ 2 ^ 63)) = true) := by simp; omega
  have h2 : ¬ ((r : Int) < 0) := by omega
  have h3 : ¬ (Builtin.Itertools.itTooMany (r : Int) = true) := by unfold Builtin.Itertools.itTooMany; simp; omega
  rw [if_neg h1]
  refine wpAny_pure ?_
  refine wpAny_bind (L2.collect_range (A := A.in1) hh1 hr hsmall hn hlen2 fun h' tk acc hk hi => ?_)
  rw [if_neg h2, if_neg h3]
  have hacc : acc.size = n := hi.1
  refine wpAny_bind ?_
  unfold newTuple
  refine wpAny_newObj_type ?_ (by show acc.toList.toArray.size ≤ sizeLine; rw [List.size_toArray, Array.length_toList, hacc, sizeLine_eq]; omega)
  refine wpAny_pure ?_
  have h4 : ¬ (r > acc.toList.length) := by rw [Array.length_toList, hacc]; omega
  refine wpAny_bind ?_
  show wpAny _ _ (Builtin.Itertools.itNewRecord (.type "itertools.combinations") ([Value.ref h'.objs.size, rawInt (if (Int.toNat (r : Int)) > acc.toList.length then 2 else 0), Value.none] ++ List.map (fun (i : Nat) => rawInt i) (List.range (Int.toNat (r : Int))))) _ _ _
  rw [Int.toNat_natCast, if_neg h4]
  unfold Builtin.Itertools.itNewRecord
  refine wpAny_ite_true (by rw [hd]; rfl) ?_
  refine wpAny_newObj_type ?_ ?_
  · have e := h h' tk acc hk hi
    have e2 : (h'.push { cls := .type "tuple", data := .seq acc.toList.toArray }).objs.size = h'.objs.size + 1 := Heap.size_push ..
    refine wpAny_pure ?_
    show Q₁ _ _
    simp only [e2]
    refine cast ?_ e
    congr 3
    · simp
      rfl
  · show (_ : Array Value).size ≤ _
    simp [sizeLine_eq]
    omega
end
end L2.DL.Cmb

namespace L2.DL.Cmb
open PySem PySem.Spec PyProof.Rows
open Sem (wp)
def stepC (n : Nat) (indices : List Nat) : Option (List Nat) :=
  let r := indices.length
  match (List.range r).reverse.find? fun i => indices.getD i 0 != i + n - r with
  | none => none
  | some i => some (indices.take i ++ (List.range (r - i)).map (indices.getD i 0 + 1 + ·))
theorem idx_read (T : Addr) (st : Int) (last : Value) (idx : List Nat) : (((#[Value.ref T, .int st 0, last] ++ (idx.map fun (i : Nat) => rawInt i).toArray : Array Value).toList.drop 3).map fun v => match v with | .int n _ => n.toNat | _ => 0) = idx := by
  rw [Array.toList_append]
  show List.map _ (idx.map fun (i : Nat) => rawInt i) = idx
  rw [List.map_map]
  conv => rhs; rw [← List.map_id idx]
  apply List.map_congr_left
  intro i _
  show Int.toNat (i : Int) = i
  omega
theorem s1 {x y z w : Value} {xs : Array Value} : (#[x, y, z] ++ xs).setIfInBounds 1 w = #[x, w, z] ++ xs := by
  apply Array.ext'
  simp
theorem s2 {x y z w : Value} {xs : Array Value} : (#[x, y, z] ++ xs).setIfInBounds 2 w = #[x, y, w] ++ xs := by
  apply Array.ext'
  simp
theorem s3 {x y z : Value} {xs ys : Array Value} : (#[x, y, z] ++ xs).extract 0 3 ++ ys = #[x, y, z] ++ ys := by
  apply Array.ext'
  simp
theorem f0 {x y z : Value} {xs : Array Value} : (#[x, y, z] ++ xs)[0]? = some x := by
  rw [Array.getElem?_append_left (by show _ < 3; decide)]; rfl
theorem f1 {x y z : Value} {xs : Array Value} : (#[x, y, z] ++ xs)[1]? = some y := by
  rw [Array.getElem?_append_left (by show _ < 3; decide)]; rfl
theorem f2 {x y z : Value} {xs : Array Value} : (#[x, y, z] ++ xs)[2]? = some z := by
  rw [Array.getElem?_append_left (by show _ < 3; decide)]; rfl
section
variable {prog : Program} {w : World} {A : Around} {E : Value → Shared → Prop} {s : Shared}
theorem handOut {m T : Addr} {st : Int} {last : Value} {idx : List Nat} {items : Array Value} {Q : Value → Shared → Prop} (hz : idx.length ≤ 1000)
    (hm : s.heap.get? m = some (rec T st last idx)) (hT : IsTup s.heap T items)
    (hQ : ∀ h' p, s.heap.objs.size ≤ p → h'.get? m = some (rec T st (.ref p) idx) → IsTup h' p (idx.map fun i => items.toList.getD i .none).toArray → (∀ c o, c ≠ m → s.heap.get? c = some o → h'.get? c = some o) → Q (.ref p) { s with heap := h' }) :
    wpAny (model prog w) A (do let result ← (do let items ← Builtin.Itertools.itPoolItems (.ref T); newTuple (idx.map fun i => items.getD i .none)); let before ← field (.ref m) 2; setField (.ref m) 2 result; letGo [before] [result]; ret result) (fun fin s' => ∃ v, fin = .done (.ret v) ∧ Q v s') E s := by
  obtain ⟨oT, hoT, hcT, nT, hdT⟩ := id hT
  refine wpAny_bind ?_
  refine wpAny_bind (m := Builtin.Itertools.itPoolItems (.ref T)) ?_
  unfold Builtin.Itertools.itPoolItems
  refine wpAny_bind (wpAny_seqItems hoT hdT (wpAny_pure ?_))
  unfold newTuple
  refine wpAny_newObj_type ?_ (by show (_ : Array Value).size ≤ _; simp [sizeLine_eq]; omega)
  have hm1 : (s.heap.push { cls := .type "tuple", data := .seq (idx.map fun i => items.getD i .none).toArray }).get? m = some (rec T st last idx) := Heap.get?_push_of_some _ hm
  have hml : m < s.heap.objs.size := Heap.lt_size hm
  refine wpAny_bind (wpAny_field hm1 rfl (x := last) f2 ?_)
  refine wpAny_bind (wpAny_setField hm1 rfl (by simp) ?_)
  have hm2 := Heap.get?_update_self (Obj.mapFields (·.setIfInBounds 2 (Value.ref s.heap.objs.size))) hm1 rfl
  refine wpAny_bind (wpAny_letGo (wpAny_pure ⟨_, rfl, ?_⟩))
  refine hQ _ _ (Nat.le_refl _) (hm2.trans ?_) ?_ fun c o hc e => (Heap.get?_update_other _ _ (Ne.symm hc)).trans (Heap.get?_push_of_some _ e)
  · show some (Obj.mk _ _ (.fields (Array.setIfInBounds _ 2 _)) _) = _
    rw [s2]
  · have e := Heap.get?_push_size s.heap (o := { cls := .type "tuple", data := .seq (idx.map fun i => items.getD i .none).toArray }) rfl
    refine ⟨_, (Heap.get?_update_other _ _ (Nat.ne_of_lt hml)).trans e, rfl, 0, ?_⟩
    have q : (idx.map fun i => items.getD i .none) = idx.map fun i => items.toList.getD i .none := by
      apply List.map_congr_left
      intro i _
      simp [Array.getD_eq_getD_getElem?, List.getD_eq_getElem?_getD]
    show Data.seq _ = _
    rw [q]
theorem next_first {m T : Addr} {last : Value} {idx : List Nat} {items : Array Value} {Q : Value → Shared → Prop} (hz : idx.length ≤ 1000)
    (hm : s.heap.get? m = some (rec T 0 last idx)) (hT : IsTup s.heap T items) (hTm : T ≠ m)
    (hQ : ∀ h' p, s.heap.objs.size ≤ p → h'.get? m = some (rec T 1 (.ref p) idx) → IsTup h' p (idx.map fun i => items.toList.getD i .none).toArray → (∀ c o, c ≠ m → s.heap.get? c = some o → h'.get? c = some o) → Q (.ref p) { s with heap := h' }) :
    wpAny (model prog w) A (Builtin.«itertools.combinations.__next__» ⟨[.ref m], []⟩) (fun fin s' => ∃ v, fin = .done (.ret v) ∧ Q v s') E s := by
  unfold Builtin.«itertools.combinations.__next__»
  obtain ⟨oT, hoT, hcT, nT, hdT⟩ := id hT
  show wpAny _ _ (field (.ref m) 0 >>= _) _ _ s
  refine wpAny_bind (wpAny_field hm rfl (x := .ref T) f0 ?_)
  show wpAny _ _ (Builtin.Itertools.itNumbersFrom (.ref m) 3 >>= _) _ _ s
  refine wpAny_bind ?_
  unfold Builtin.Itertools.itNumbersFrom
  refine wpAny_bind (wpAny_load hm ?_)
  refine wpAny_pure ?_
  refine wpAny_bind (m := Builtin.Itertools.itIntField (.ref m) 1) ?_
  unfold Builtin.Itertools.itIntField
  refine wpAny_bind (wpAny_field hm rfl (x := .int 0 0) f1 (wpAny_pure ?_))
  generalize hI : List.map _ (List.drop 3 (Array.toList _)) = I
  have eI : I = idx := hI.symm.trans (idx_read T 0 last idx)
  subst eI
  show wpAny _ _ (setField (.ref m) 1 (rawInt 1) >>= _) _ _ _
  refine wpAny_bind (wpAny_setField hm rfl (by simp) ?_)
  have hm2 := Heap.get?_update_self (Obj.mapFields (·.setIfInBounds 1 (rawInt 1))) hm rfl
  have hm3 : (s.heap.update m (Obj.mapFields (·.setIfInBounds 1 (rawInt 1)))).get? m = some (rec T 1 last I) := hm2.trans (by
    show some (Obj.mk _ _ (.fields (Array.setIfInBounds _ 1 _)) _) = _
    rw [s1]
    rfl)
  have hk : ∀ c o, c ≠ m → s.heap.get? c = some o → (s.heap.update m (Obj.mapFields (·.setIfInBounds 1 (rawInt 1)))).get? c = some o := fun c o hc e => (Heap.get?_update_other _ _ (Ne.symm hc)).trans e
  have hsz : (s.heap.update m (Obj.mapFields (·.setIfInBounds 1 (rawInt 1)))).objs.size = s.heap.objs.size := Heap.size_update ..
  exact handOut (s := { s with heap := s.heap.update m (Obj.mapFields (·.setIfInBounds 1 (rawInt 1))) }) hz hm3 ⟨oT, hk _ _ hTm hoT, hcT, nT, hdT⟩ fun h' p a1 a2 a3 a4 => hQ h' p (by rw [← hsz]; exact a1) a2 a3 fun c o hc e => a4 c o hc (hk c o hc e)
theorem next_more {m T : Addr} {last : Value} {idx jdx : List Nat} {items : Array Value} {Q : Value → Shared → Prop} (hz : jdx.length ≤ 1000)
    (hm : s.heap.get? m = some (rec T 1 last idx)) (hT : IsTup s.heap T items) (hTm : T ≠ m) (hst : stepC items.size idx = some jdx)
    (hQ : ∀ h' p, s.heap.objs.size ≤ p → h'.get? m = some (rec T 1 (.ref p) jdx) → IsTup h' p (jdx.map fun i => items.toList.getD i .none).toArray → (∀ c o, c ≠ m → s.heap.get? c = some o → h'.get? c = some o) → Q (.ref p) { s with heap := h' }) :
    wpAny (model prog w) A (Builtin.«itertools.combinations.__next__» ⟨[.ref m], []⟩) (fun fin s' => ∃ v, fin = .done (.ret v) ∧ Q v s') E s := by
  unfold Builtin.«itertools.combinations.__next__»
  obtain ⟨oT, hoT, hcT, nT, hdT⟩ := id hT
  show wpAny _ _ (field (.ref m) 0 >>= _) _ _ s
  refine wpAny_bind (wpAny_field hm rfl (x := .ref T) f0 ?_)
  show wpAny _ _ (Builtin.Itertools.itNumbersFrom (.ref m) 3 >>= _) _ _ s
  refine wpAny_bind ?_
  unfold Builtin.Itertools.itNumbersFrom
  refine wpAny_bind (wpAny_load hm ?_)
  refine wpAny_pure ?_
  refine wpAny_bind (m := Builtin.Itertools.itIntField (.ref m) 1) ?_
  unfold Builtin.Itertools.itIntField
  refine wpAny_bind (wpAny_field hm rfl (x := .int 1 0) f1 (wpAny_pure ?_))
  generalize hI : List.map _ (List.drop 3 (Array.toList _)) = I
  have eI : I = idx := hI.symm.trans (idx_read T 1 last idx)
  subst eI
  show wpAny _ _ (Builtin.Itertools.itPoolItems (.ref T) >>= _) _ _ _
  refine wpAny_bind ?_
  unfold Builtin.Itertools.itPoolItems
  refine wpAny_bind (wpAny_seqItems hoT hdT (wpAny_pure ?_))
  show wpAny _ _ (match stepC items.size I with | some next => _ | none => _) _ _ _
  rw [hst]
  show wpAny _ _ (Builtin.Itertools.itSetNumbersFrom (.ref m) 3 jdx >>= _) _ _ _
  refine wpAny_bind ?_
  unfold Builtin.Itertools.itSetNumbersFrom
  refine wpAny_updateFields hm rfl ?_ (by show (_ : Array Value).size ≤ _; simp [sizeLine_eq]; omega)
  have hm2 := Heap.get?_update_self (Obj.mapFields fun fs => fs.extract 0 3 ++ (jdx.map fun (n : Nat) => rawInt n).toArray) hm rfl
  have hm3 : (s.heap.update m (Obj.mapFields fun fs => fs.extract 0 3 ++ (jdx.map fun (n : Nat) => rawInt n).toArray)).get? m = some (rec T 1 last jdx) := hm2.trans (by
    show some (Obj.mk _ _ (.fields (Array.extract _ 0 3 ++ _)) _) = _
    rw [s3])
  have hk : ∀ c o, c ≠ m → s.heap.get? c = some o → (s.heap.update m (Obj.mapFields fun fs => fs.extract 0 3 ++ (jdx.map fun (n : Nat) => rawInt n).toArray)).get? c = some o := fun c o hc e => (Heap.get?_update_other _ _ (Ne.symm hc)).trans e
  have hsz : (s.heap.update m (Obj.mapFields fun fs => fs.extract 0 3 ++ (jdx.map fun (n : Nat) => rawInt n).toArray)).objs.size = s.heap.objs.size := Heap.size_update ..
  exact handOut (s := { s with heap := s.heap.update m (Obj.mapFields fun fs => fs.extract 0 3 ++ (jdx.map fun (n : Nat) => rawInt n).toArray) }) hz hm3 ⟨oT, hk _ _ hTm hoT, hcT, nT, hdT⟩ fun h' p a1 a2 a3 a4 => hQ h' p (by rw [← hsz]; exact a1) a2 a3 fun c o hc e => a4 c o hc (hk c o hc e)
theorem next_end {m T : Addr} {last : Value} {idx : List Nat} {items : Array Value} {Q : PySem.Fin → Shared → Prop} (hh : A.handled = none)
    (hm : s.heap.get? m = some (rec T 1 last idx)) (hT : IsTup s.heap T items) (hst : stepC items.size idx = none)
    (hE : ∀ h' e, (∀ c o, c ≠ m → s.heap.get? c = some o → h'.get? c = some o) → (∃ o, h'.get? e = some o ∧ o.cls = .type "StopIteration") → E (.ref e) { s with heap := h' }) :
    wpAny (model prog w) A (Builtin.«itertools.combinations.__next__» ⟨[.ref m], []⟩) Q E s := by
  unfold Builtin.«itertools.combinations.__next__»
  obtain ⟨oT, hoT, hcT, nT, hdT⟩ := id hT
  show wpAny _ _ (field (.ref m) 0 >>= _) _ _ s
  refine wpAny_bind (wpAny_field hm rfl (x := .ref T) f0 ?_)
  show wpAny _ _ (Builtin.Itertools.itNumbersFrom (.ref m) 3 >>= _) _ _ s
  refine wpAny_bind ?_
  unfold Builtin.Itertools.itNumbersFrom
  refine wpAny_bind (wpAny_load hm ?_)
  refine wpAny_pure ?_
  refine wpAny_bind (m := Builtin.Itertools.itIntField (.ref m) 1) ?_
  unfold Builtin.Itertools.itIntField
  refine wpAny_bind (wpAny_field hm rfl (x := .int 1 0) f1 (wpAny_pure ?_))
  generalize hI : List.map _ (List.drop 3 (Array.toList _)) = I
  have eI : I = idx := hI.symm.trans (idx_read T 1 last idx)
  subst eI
  show wpAny _ _ (Builtin.Itertools.itPoolItems (.ref T) >>= _) _ _ _
  refine wpAny_bind ?_
  unfold Builtin.Itertools.itPoolItems
  refine wpAny_bind (wpAny_seqItems hoT hdT (wpAny_pure ?_))
  show wpAny _ _ (match stepC items.size I with | some next => _ | none => _) _ _ _
  rw [hst]
  show wpAny _ _ (setField (.ref m) 1 (rawInt 2) >>= _) _ _ _
  refine wpAny_bind (wpAny_setField hm rfl (by simp) ?_)
  have hk : ∀ c o, c ≠ m → s.heap.get? c = some o → (s.heap.update m (Obj.mapFields (·.setIfInBounds 1 (rawInt 2)))).get? c = some o := fun c o hc e => (Heap.get?_update_other _ _ (Ne.symm hc)).trans e
  unfold Builtin.Itertools.itStop
  refine wpAny_bind ?_
  simp only [newExc, newTuple]
  refine wpAny_bind (wpAny_newObj_type ?_ (by size_fits))
  refine wpAny_bind (m := firstArgMember _ _) (wpAny_of_eq (a := Value.none) (by first | rfl | (simp only [firstArgMember]; rfl)) ?_)
  refine wpAny_newObj_type ?_ (by size_fits)
  simp only [raiseNew]
  refine wpAny_bind (wpAny_handled ?_)
  first | rw [show A.in1.handled = none from hh] | rw [hh]
  refine wpAny_bind (wpAny_pure (wpAny_throw ?_))
  exact hE _ _ (fun c o hc e => Heap.get?_push_of_some _ (Heap.get?_push_of_some _ (hk c o hc e))) ⟨_, Heap.get?_push_size _ rfl, rfl⟩
theorem pyIter_c {m T : Addr} {st : Int} {last : Value} {idx : List Nat} {Q : Value → Shared → Prop} (hm : s.heap.get? m = some (rec T st last idx)) (h : Q (.ref m) s) : wpAny (model prog w) A (pyIter (.ref m)) Q E s := by
  have hT : s.TypeIs (.ref m) "itertools.combinations" := ⟨_, hm, rfl⟩
  refine wpAny_pyIter_slot hT slot_iter (wpAny_call_entry slot_iter hT entry_iter ?_ (args_iter _))
  show wpAny _ _ (ret (.ref m)) _ _ s
  exact wpAny_pure ⟨_, rfl, "itertools.combinations", _, hT, slot_next.lookup, h⟩
theorem pyNext_some {m T : Addr} {st : Int} {last : Value} {idx jdx : List Nat} {items : Array Value} {Q : Option Value → Shared → Prop} (hz : jdx.length ≤ 1000)
    (hm : s.heap.get? m = some (rec T st last idx)) (hT : IsTup s.heap T items) (hTm : T ≠ m) (hst : (st = 0 ∧ jdx = idx) ∨ (st = 1 ∧ stepC items.size idx = some jdx))
    (hQ : ∀ h' p, s.heap.objs.size ≤ p → h'.get? m = some (rec T 1 (.ref p) jdx) → IsTup h' p (jdx.map fun i => items.toList.getD i .none).toArray → (∀ c o, c ≠ m → s.heap.get? c = some o → h'.get? c = some o) → Q (some (.ref p)) { s with heap := h' }) :
    wpAny (model prog w) A (pyNext (.ref m)) Q E s := by
  have hTy : s.TypeIs (.ref m) "itertools.combinations" := ⟨_, hm, rfl⟩
  unfold pyNext
  refine wpAny_bind (wpAny_attempt (wpAny_callSpecial?_slot (name := Str.ofString "__next__") hTy slot_next
    (wpAny_call_entry slot_next hTy entry_next ?_ (args_next _))))
  rcases hst with ⟨rfl, rfl⟩ | ⟨rfl, h⟩
  · exact next_first hz hm hT hTm fun h' p a1 a2 a3 a4 => wpAny_pure (hQ h' p a1 a2 a3 a4)
  · exact next_more hz hm hT hTm h fun h' p a1 a2 a3 a4 => wpAny_pure (hQ h' p a1 a2 a3 a4)
theorem pyNext_none {m T : Addr} {last : Value} {idx : List Nat} {items : Array Value} {Q : Option Value → Shared → Prop} (hh : A.handled = none)
    (hm : s.heap.get? m = some (rec T 1 last idx)) (hT : IsTup s.heap T items) (hst : stepC items.size idx = none)
    (hQ : ∀ h', (∀ c o, c ≠ m → s.heap.get? c = some o → h'.get? c = some o) → Q none { s with heap := h' }) :
    wpAny (model prog w) A (pyNext (.ref m)) Q E s := by
  have hTy : s.TypeIs (.ref m) "itertools.combinations" := ⟨_, hm, rfl⟩
  unfold pyNext
  refine wpAny_bind (wpAny_attempt (wpAny_callSpecial?_slot (name := Str.ofString "__next__") hTy slot_next
    (wpAny_call_entry slot_next hTy entry_next (next_end hh hm hT hst fun h' e hk he => ?_) (args_next _))))
  obtain ⟨o, ho, hc⟩ := he
  refine wpAny_bind (wpAny_isInstance (T := "StopIteration") (b := true) ⟨o, ho, hc⟩ isSubtype_stop ?_)
  exact wpAny_pure (hQ _ hk)
end
end L2.DL.Cmb

namespace L2.DL
open PySem PySem.Spec PyProof.Rows RZ
/-! ### list(combinations(range(n), r)) -/
open Cmb (stepC rec)
def chainC (n : Nat) : Nat → List Nat → Option (List (List Nat))
  | 0, _ => none
  | f + 1, idx => match stepC n idx with
    | none => some []
    | some j => (chainC n f j).map (j :: ·)
def combL (n r : Nat) : Option (List (List Nat)) := (chainC n 4096 (List.range r)).map (List.range r :: ·)
def okC (n : Nat) (L : List (List Nat)) : Bool := L.all fun l => decide (l.length ≤ 1000) && l.all fun i => decide (i < n)
def tupC (l : List Nat) : PyData := .tuple (l.map fun (i : Nat) => PyData.int (i : Int))
def combF : PyData → PyData → Option Vl
  | .int n, .int r => if 0 ≤ n ∧ n ≤ 1000 ∧ 0 ≤ r ∧ r ≤ n then match combL n.toNat r.toNat with
    | some L => if okC n.toNat L && big L.length then some (.fr (L.map tupC)) else none
    | none => none else none
  | _, _ => none
inductive Ch (n : Nat) : List Nat → List (List Nat) → Prop
  | nil {idx} : stepC n idx = none → Ch n idx []
  | cons {idx j L} : stepC n idx = some j → Ch n j L → Ch n idx (j :: L)
theorem ch_of {n : Nat} : ∀ (f : Nat) (idx : List Nat) (L : List (List Nat)), chainC n f idx = some L → Ch n idx L
  | 0, _, _, h => by cases h
  | f + 1, idx, L, h => by
    unfold chainC at h
    cases e : stepC n idx with
    | none => rw [e] at h; cases h; exact .nil e
    | some j =>
      rw [e] at h
      obtain ⟨L', h1, rfl⟩ := Option.map_eq_some_iff.mp h
      exact .cons e (ch_of f j L' h1)
section
variable {X : Cx} {pins : List (Addr × Obj)} {σ : St} {A1 : Around}
def natsV (l : List Nat) : List V := l.map fun (i : Nat) => V.int (i : Int)
/-- what stands of the combinations handed out -/
def AllC (K : PySem.W.Frag) (F : Hp) (vs : List V) (L : List (List Nat)) : Prop := DpAll K F vs (L.map tupC)
theorem nats_dp {K : PySem.W.Frag} {F : Hp} : ∀ (l : List Nat), DpAll K F (natsV l) (l.map fun (i : Nat) => PyData.int (i : Int))
  | [] => .nil
  | i :: l => .cons (.int _) (nats_dp l)
theorem ints_vals {its : List Value} {n : Nat} (r : Vals (rgV 0 n) its) : ∀ (l : List Nat), (∀ i ∈ l, i < n) → Vals (natsV l) (l.map fun i => its.getD i .none)
  | [], _ => .nil
  | i :: l, h => by
    refine .cons ?_ (ints_vals r l fun j hj => h j (List.mem_cons_of_mem _ hj))
    have hi := h i (List.mem_cons_self ..)
    have hx : (rgV 0 (n : Int))[i]? = some (V.int (i : Int)) := by
      unfold rgV
      rw [List.getElem?_map, List.getElem?_range (by simpa using hi)]
      simp
    obtain ⟨u, hu, ru⟩ := r.get hx
    show RelV (V.int (i : Int)) (its.getD i .none)
    rw [List.getD_eq_getElem?_getD, hu]
    exact ru
/-- the frame in which what was handed out lies: what was not there at first, the list itself left out -/
def Fr1 (H0 H : Hp) (q : Addr) : Hp := fun a => if a = q then none else match H0 a with
  | some _ => none
  | none => H a
theorem fpOk_upd {H : Hp} {m p : Addr} {o : HO} (f : FpOk X pins H m) (h : m ≠ p) : FpOk X pins (upd H p o) m := ⟨by rw [upd_ne h]; exact f.1, f.2⟩
/-- what is still to come at the iterator's state -/
def ToCome (n : Nat) (st : Int) (idx : List Nat) (L : List (List Nat)) : Prop := (st = 0 ∧ ∃ L', L = idx :: L' ∧ Ch n idx L') ∨ (st = 1 ∧ Ch n idx L)
theorem comb_run {m T q : Addr} {n : Nat} {H0 : Hp} {D0 : List (List Nat)} {Rs : Result → Shared → Prop} (hh : A1.in1.handled = none) (hmq : m ≠ q) (hTm : T ≠ m) (hTq : T ≠ q) (hq0 : H0 q = none)
    (hR : ∀ (H : Hp) (s : Shared) (vs : List V), Inv X pins σ H s → Same H0 H → H q = some (.lst vs) → AllC X.K (Fr1 H0 H q) vs D0 → Rs (.ok (.ret .none)) s) :
    ∀ (L D : List (List Nat)) (st : Int) (last : Value) (idx : List Nat) (H : Hp) (s : Shared) (vs : List V), D ++ L = D0 → ToCome n st idx L → okC n L = true → D0.length ≤ 16777216 → Inv X pins σ H s → FpOk X pins H m → Same H0 H →
      H T = some (.tup (rgV 0 n)) → H q = some (.lst vs) → AllC X.K (Fr1 H0 H q) vs D → s.heap.get? m = some (rec T st last idx) → codeAny (model X.prog X.w) A1 (.builtin "list.extend.loop" ⟨[.ref q, .ref m, .none], []⟩) Rs s := by
  intro L
  induction L with
  | nil =>
    intro D st last idx H s vs hD hc hok hz I fp sg hT hq hv hm
    rcases hc with ⟨_, L', e, _⟩ | ⟨rfl, hc⟩
    · cases e
    cases hc with
    | nil hst =>
      refine codeAny_builtin PySem.F.entry_extend_loop ?_
      rw [Around.under_plainId PySem.F.plain_extend_loop _]
      show wpAny _ A1.in1 (pyNext (.ref m) >>= _) _ _ s
      obtain ⟨its, rv, pt, _⟩ := I.tuple (.inl (.inl hT))
      have hsz : its.toArray.size = n := by rw [List.size_toArray, ← rv.length, rgV_length]; simp
      refine wpAny_bind (Cmb.pyNext_none hh hm pt (by rw [hsz]; exact hst) fun h' hk => ?_)
      rw [List.append_nil] at hD
      subst hD
      exact wpAny_pure (hR H _ vs (I.turnedL (t' := s.toks) (ch := [m]) (fun c o hc e => hk c o (by simpa using hc) e) (fun b hb => by rw [List.mem_singleton.mp hb]; exact fp)) sg hq hv)
  | cons j L ih =>
    intro D st last idx H s vs hD hc hok hz I fp sg hT hq hv hm
    have hj : (j.length ≤ 1000 ∧ ∀ i ∈ j, i < n) ∧ okC n L = true := by
      unfold okC at hok ⊢
      rw [List.all_cons, Bool.and_eq_true, Bool.and_eq_true] at hok
      refine ⟨⟨of_decide_eq_true hok.1.1, fun i hi => of_decide_eq_true (List.all_eq_true.mp hok.1.2 i hi)⟩, hok.2⟩
    obtain ⟨its, rv, pt, _⟩ := I.tuple (.inl (.inl hT))
    have hsz : its.toArray.size = n := by rw [List.size_toArray, ← rv.length, rgV_length]; simp
    have hstep : ((st = 0 ∧ j = idx) ∨ (st = 1 ∧ stepC its.toArray.size idx = some j)) ∧ Ch n j L := by
      rcases hc with ⟨rfl, L', e, c⟩ | ⟨rfl, c⟩
      · cases e
        exact ⟨.inl ⟨rfl, rfl⟩, c⟩
      · cases c with
        | cons h1 h2 => exact ⟨.inr ⟨rfl, by rw [hsz]; exact h1⟩, h2⟩
    refine codeAny_builtin PySem.F.entry_extend_loop ?_
    rw [Around.under_plainId PySem.F.plain_extend_loop _]
    show wpAny _ A1.in1 (pyNext (.ref m) >>= _) _ _ s
    refine wpAny_bind (Cmb.pyNext_some hj.1.1 hm pt hTm hstep.1 fun h' p hp hm' ht' hk => ?_)
    have hHp : H p = none := I.hok.fresh hp
    have hlen : vs.length = D.length := by have := hv.length; simpa using this
    have new : ObjOk X.prog X.w (upd H p (.tup (natsV j))) h' p (.tup (natsV j)) := by
      refine ⟨?_, _, ints_vals rv j hj.1.2, ?_⟩
      · unfold natsV
        rw [List.length_map, sizeLine_eq]
        omega
      · have : its.toArray.toList = its := by simp
        rw [this] at ht'
        exact ht'
    have I1 : Inv X pins σ (upd H p (.tup (natsV j))) { s with heap := h' } := I.turnedNew (t' := s.toks) (ch := [m]) (fun c o hc e => hk c o (by simpa using hc) e) (fun b hb => by rw [List.mem_singleton.mp hb]; exact fp) hp new
    have pq : q ≠ p := ne_of_none hq hHp
    have pm : m ≠ p := Nat.ne_of_lt (Nat.lt_of_lt_of_le (Heap.lt_size hm) hp)
    have pT : T ≠ p := ne_of_none hT hHp
    have hq1 : upd H p (.tup (natsV j)) q = some (.lst vs) := by rw [upd_ne pq]; exact hq
    show wpAny _ A1.in1 (updateSeq q (·.push (Value.ref p)) >>= _) _ _ _
    obtain ⟨z, its2, k, r2, hl2, e2⟩ := I1.lstM hq1
    have hzl : vs.length + 1 ≤ sizeLine := by
      rw [hlen, sizeLine_eq]
      have := congrArg List.length hD
      simp at this
      omega
    refine wpAny_bind (wpAny_updateSeq e2 rfl (wpAny_pure ⟨plainId_quiet PySem.F.plain_extend_loop _, ?_⟩) (by rw [List.size_toArray]; omega) (by show (its2.toArray.push _).size ≤ sizeLine + 1; rw [Array.size_push, List.size_toArray]; omega))
    have h0p : H0 p = none := by
      cases e : H0 p with
      | none => rfl
      | some o => rw [sg p o e] at hHp; cases hHp
    have fr : Same (Fr1 H0 H q) (Fr1 H0 (upd (upd H p (.tup (natsV j))) q (.lst (vs ++ [.ref p]))) q) := fun a o h => by
      unfold Fr1 at h ⊢
      by_cases ha : a = q
      · rw [if_pos ha] at h; cases h
      · rw [if_neg ha] at h ⊢
        cases e : H0 a with
        | some o' => rw [e] at h; cases h
        | none =>
          rw [e] at h
          show upd (upd H p _) q _ a = some o
          have hap : a ≠ p := fun z => by rw [z] at h; rw [hHp] at h; cases h
          rw [upd_ne ha, upd_ne hap]
          exact h
    refine ih (D ++ [j]) 1 (.ref p) j _ _ (vs ++ [.ref p]) (by rw [← hD]; simp) (.inr ⟨rfl, hstep.2⟩) hj.2 hz
      (I1.lset (its' := its2 ++ [Value.ref p]) (t' := s.toks) hq1 e2 (by simp) (r2.append (.cons (show RelV (V.ref p) (Value.ref p) from rfl) .nil)) (by rw [List.length_append, List.length_singleton]; omega))
      (fpOk_upd (fpOk_upd fp pm) hmq) (fun a o h => ?_) ?_ upd_same ?_ ?_
    · have haq : a ≠ q := fun z => by rw [z, hq0] at h; cases h
      have hap : a ≠ p := fun z => by rw [z, h0p] at h; cases h
      rw [upd_ne haq, upd_ne hap]
      exact sg a o h
    · rw [upd_ne hTq, upd_ne pT]
      exact hT
    · unfold AllC at hv ⊢
      rw [List.map_append]
      refine DpAll.append (DpAll.mono fr _ _ hv) (.cons (.tup (SqT.of ?_) (nats_dp j)) .nil)
      unfold Fr1
      rw [if_neg (Ne.symm pq), h0p]
      show upd (upd H p _) q _ p = _
      rw [upd_ne (Ne.symm pq), upd_same]
    · show (Heap.update h' q _).get? m = _
      exact (Heap.get?_update_other _ _ (Ne.symm hmq)).trans hm'
end
end L2.DL

namespace L2.DL
open PySem PySem.Spec PyProof.Rows RZ
namespace Cmb
section
variable {prog : Program} {w : World} {A : Around} {E : Value → Shared → Prop} {s : Shared}
theorem call_c {rg : Addr} {a b c : Int} {t u v tr : Tok} {n r : Nat} {Q : Value → Shared → Prop} (hh : A.handled = none) (hr : IsRange s.heap rg a b c t u v) (hsmall : Builtin.Range.small a b c = true) (hn : Builtin.Range.rangeSize a b c = n) (hlen : n ≤ 1000) (hr1 : r ≤ n)
    (h : ∀ (h' : Heap) (tk : Nat) (acc : Array Value), (∀ b o, s.heap.get? b = some o → h'.get? b = some o) → ItemsOf (fun i v => ∃ t, v = .int (a + i * c) t) acc n →
      Q (.ref (h'.objs.size + 1)) { s with heap := (h'.push { cls := .type "tuple", data := .seq acc }).push (rec h'.objs.size 0 .none (List.range r)), toks := tk }) :
    wpAny (model prog w) A (call (.type "itertools.combinations") [.ref rg, .int (r : Nat) tr]) Q E s := by
  refine callType_codes (Q₁ := fun obj s₁ => s₁.TypeIs obj "itertools.combinations" ∧ Q obj s₁) called_c (typeCall_2 _ _) F.entry_object_init (code_new (A := A.in1) hh hr hsmall hn hlen hr1 fun h' tk acc hk hi => ⟨?_, h h' tk acc hk hi⟩) ?_
  · refine ⟨rec h'.objs.size 0 .none (List.range r), ?_, rfl⟩
    have e : (h'.push { cls := .type "tuple", data := .seq acc }).objs.size = h'.objs.size + 1 := Heap.size_push ..
    have q := Heap.get?_push_size (h'.push { cls := .type "tuple", data := .seq acc }) (o := rec h'.objs.size 0 .none (List.range r)) rfl
    rw [e] at q
    exact q
  · rintro obj s₁ ⟨hT, hq⟩
    refine ⟨hT, F.args_object_init_3 obj _ _, ?_⟩
    exact object_init_meets slot_init.lookup called_c.made (by decide) prog w A.in1 _ s₁ ⟨hT, rfl, hq⟩
end
end Cmb
section
variable {X : Cx} {a b : Expr} {ta tb : TE}
open Cmb (rec)
/-- list(combinations(range(n), r)) -/
def tCombs (K : PySem.W.Frag) (ta tb : TE) : TE := fun σ H Q => ta σ H fun x H1 => ∃ n : Nat, x = .int (n : Int) ∧ n ≤ 1000 ∧ tb σ H1 fun y H2 => ∃ (r : Nat) (L : List (List Nat)), y = .int (r : Int) ∧ r ≤ n ∧ combL n r = some L ∧ okC n L = true ∧ L.length ≤ 16777216 ∧
  ∀ q H' vs, H2 q = none → Same H2 H' → H' q = some (.lst vs) → AllC K (Fr1 H2 H' q) vs L → Q (.ref q) H'
theorem range_in {pins : List (Addr × Obj)} {rg : Addr} {o : Obj} {H : Hp} {s : Shared} {σ : St} (I : Inv X pins σ H s) (hr : s.heap.get? rg = some o) (hH : H rg = none) (h1 : rg ≠ X.env.locals) (h2 : rg ∉ X.fs) (h3 : ∀ v, o.data ≠ .cell v) : Inv X (pins ++ [(rg, o)]) σ H s :=
  I.pins_of fun p hp => by
    rcases List.mem_append.mp hp with z | z
    · exact I.pin p (List.mem_append_right _ z)
    · rw [List.mem_singleton.mp z]
      exact ⟨hr, hH, h1, h2, h3⟩
theorem list_comb {pins : List (Addr × Obj)} {σ : St} {H : Hp} {s : Shared} {m T : Addr} {n r : Nat} {L : List (List Nat)} {Q : VK} (hc : X.calm = true) (I : Inv X pins σ H s) (fp : FpOk X pins H m) (hT : H T = some (.tup (rgV 0 n))) (hTm : T ≠ m)
    (hm : s.heap.get? m = some (rec T 0 .none (List.range r))) (hL : combL n r = some L) (hok : okC n L = true) (hz : L.length ≤ 16777216)
    (q : ∀ q H' vs, H q = none → Same H H' → H' q = some (.lst vs) → AllC X.K (Fr1 H H' q) vs L → Q (.ref q) H') : wpAny (model X.prog X.w) X.A (call (.type "list") [.ref m]) (EP X pins σ Q) X.xe s := by
  refine callType_codes (Q₁ := fun obj s₁ => obj = .ref s.heap.objs.size ∧ s₁ = { s with heap := s.heap.push { cls := .type "list", data := .seq #[] } }) PySem.F.called_list (PySem.F.typeCall_list_1 _) PySem.F.entry_list_init
    (code_list_new _ ⟨rfl, rfl⟩) fun obj s₁ h₁ => ?_
  obtain ⟨rfl, rfl⟩ := h₁
  have hS : (s.heap.push { cls := .type "list", data := .seq #[] }).get? s.heap.objs.size = some { cls := .type "list", data := .seq #[] } := Heap.get?_push_size _ rfl
  refine ⟨⟨_, hS, rfl⟩, PySem.F.args_list_init_2 _ _, ?_⟩
  have fr : H s.heap.objs.size = none := I.hok.fresh (Nat.le_refl _)
  have mq : m ≠ s.heap.objs.size := Nat.ne_of_lt (Heap.lt_size hm)
  have Tq : T ≠ s.heap.objs.size := ne_of_none hT fr
  have I1 : Inv X pins σ (upd H s.heap.objs.size (.lst [])) { s with heap := s.heap.push { cls := .type "list", data := .seq #[] } } := I.lnew (its := []) (t' := s.toks) .nil (Nat.zero_le _)
  show wpAny _ _ (do let old ← Builtin.List.listItems (.ref s.heap.objs.size); Builtin.List.listUpdate (.ref s.heap.objs.size) (fun _ => #[]); letGo old.toList.reverse; Builtin.List.listExtendWith (.ref s.heap.objs.size) (.ref m) .none) _ _ _
  refine wpAny_bind ?_
  unfold Builtin.List.listItems
  refine wpAny_bind (wpAny_seqItems hS rfl (wpAny_pure ?_))
  show wpAny _ _ (updateSeq s.heap.objs.size (fun _ => #[]) >>= fun _ => letGo (#[] : Array Value).toList.reverse >>= fun _ => Builtin.List.listExtendWith (.ref s.heap.objs.size) (.ref m) .none) _ _ _
  refine wpAny_bind (wpAny_updateSeq hS rfl ?_)
  have I2 := I1.lset (f := fun _ => #[]) (its := []) (its' := []) (ys := []) (t' := s.toks) upd_same hS rfl .nil (Nat.zero_le _)
  rw [upd_upd] at I2
  refine wpAny_bind (wpAny_letGo ?_)
  have hm2 : ((s.heap.push { cls := .type "list", data := .seq #[] }).update s.heap.objs.size (Obj.mapSeq fun _ => #[])).get? m = some (rec T 0 .none (List.range r)) := (Heap.get?_update_other _ _ (Ne.symm mq)).trans (Heap.get?_push_of_some _ hm)
  have hty : ∀ tk, (⟨(s.heap.push { cls := .type "list", data := .seq #[] }).update s.heap.objs.size (Obj.mapSeq fun _ => #[]), s.gens, s.drawn, tk, s.os⟩ : Shared).TypeIs (.ref m) "itertools.combinations" := fun tk => ⟨_, hm2, rfl⟩
  unfold Builtin.List.listExtendWith
  refine wpAny_bind (wpAny_typeOf (hty _) ?_)
  have h1 : Builtin.List.listSameRef (.ref s.heap.objs.size) (.ref m) = false := by simp [Builtin.List.listSameRef, Ne.symm mq]
  have h2 : (Value.type "itertools.combinations" == Value.type "list") = false := by decide
  have h3 : (Value.type "itertools.combinations" == Value.type "tuple") = false := by decide
  simp only [h1, h2, h3, Bool.or_false, Bool.false_eq_true, if_false]
  refine wpAny_bind (Cmb.pyIter_c hm2 ?_)
  refine wpAny_bind (wpAny_holding ?_)
  unfold Builtin.List.listLengthHint
  refine wpAny_bind (wpAny_specialOf (hty _) Cmb.nolen ?_)
  show wpAny _ _ (specialOf (Value.ref m) (Str.ofString "__length_hint__") >>= _) _ _ _
  refine wpAny_bind (wpAny_specialOf (hty _) Cmb.nohint ?_)
  refine wpAny_pure ?_
  show wpAny _ _ (rule "list.extend.makes-room" >>= fun _ => Builtin.List.listTouch (.ref s.heap.objs.size) >>= fun _ => again (.builtin "list.extend.loop" ⟨[.ref s.heap.objs.size, .ref m, .none], []⟩)) _ _ _
  refine wpAny_bind (wpAny_rule ?_)
  refine wpAny_bind ?_
  show wpAny _ _ (updateSeq s.heap.objs.size (·.push .none) >>= fun _ => updateSeq s.heap.objs.size (·.pop)) _ _ _
  obtain ⟨z, its, k, r3, hl3, e3⟩ := I2.lstM upd_same
  cases r3
  refine wpAny_bind (wpAny_updateSeq e3 rfl ?_)
  have I3 := I2.lset (f := (·.push Value.none)) (its' := [Value.none]) (ys := [.non]) (t' := s.toks) upd_same e3 (by simp) (.cons rfl .nil) (by rw [List.length_singleton, sizeLine_eq]; decide)
  obtain ⟨z4, its4, k4, r4, hl4, e4⟩ := I3.lstM upd_same
  obtain ⟨u4, rfl, ru4⟩ := r4.one
  refine wpAny_updateSeq e4 rfl ?_ (by show 1 ≤ sizeLine; rw [sizeLine_eq]; decide) (by show 0 ≤ sizeLine + 1; exact Nat.zero_le _)
  have I4 := I3.lset (f := (·.pop)) (its := [u4]) (its' := []) (ys := []) (t' := s.toks) upd_same e4 (by rfl) .nil (Nat.zero_le _)
  rw [upd_upd, upd_upd] at I4
  refine wpAny_pure ⟨plainId_quiet PySem.F.plain_extend_loop _, ?_⟩
  obtain ⟨L', e1, e2⟩ := Option.map_eq_some_iff.mp hL
  refine comb_run (X := X) (pins := pins) (σ := σ) (A1 := X.A.in1) (m := m) (T := T) (q := s.heap.objs.size) (n := n) (H0 := H) (D0 := L) (I.ok.hd hc) mq hTm Tq fr (fun H' s' vs J sg hq hv => ⟨rfl, .ref s.heap.objs.size, H', J, rfl, q _ _ _ fr sg hq hv⟩)
    L [] 0 .none (List.range r) _ _ [] rfl (.inl ⟨rfl, L', e2.symm, ch_of _ _ _ e1⟩) hok hz I4 (fpOk_upd fp mq) (Same.updN fr) (by rw [upd_ne Tq]; exact hT) upd_same .nil ?_
  exact (Heap.get?_update_other _ _ (Ne.symm mq)).trans ((Heap.get?_update_other _ _ (Ne.symm mq)).trans hm2)
theorem pe_combs {p p2 p3 pos q2 q3 : Pos} (hc : X.calm = true) (hg : Gl X "list") (hm : X.mg "list" = none) (hg2 : Gl X "combinations") (hm2 : X.mg "combinations" = some (.type "itertools.combinations")) (hg3 : Gl X "range") (hm3 : X.mg "range" = none)
    (ha : PE X a ta) (hb : PE X b tb) (na : starEach [a] X.env = (false, eval a X.env) :: starEach [] X.env := by rfl) (nb : starEach [b] X.env = (false, eval b X.env) :: starEach [] X.env := by rfl)
    (nr : starEach [.Call (.Name "range" p3) [a] [] q3, b] X.env = (false, eval (.Call (.Name "range" p3) [a] [] q3) X.env) :: starEach [b] X.env := by rfl) (hpb : (backTo q2 (starEach [b] X.env)).any (·.1) = false := by rfl)
    (nc : starEach [.Call (.Name "combinations" p2) [.Call (.Name "range" p3) [a] [] q3, b] [] q2] X.env = (false, eval (.Call (.Name "combinations" p2) [.Call (.Name "range" p3) [a] [] q3, b] [] q2) X.env) :: starEach [] X.env := by rfl) :
    PE X (.Call (.Name "list" p) [.Call (.Name "combinations" p2) [.Call (.Name "range" p3) [a] [] q3, b] [] q2] [] pos) (tCombs X.K ta tb) := by
  refine ⟨fun pins s σ H Q I h => ?_⟩
  refine Call_ (ld_blt I hg hm boot_list (PyProof.Rows.callWith_type1 (args_cons ?_ nc) nc rfl))
  refine Call_ (ld_glob I hg2 hm2 (PyProof.Rows.callWith_type1 (args_cons ?_ nr) nr hpb))
  refine Call_ (ld_blt I hg3 hm3 boot_range (PyProof.Rows.callWith_type1 (one_arg ha I h (fun v s2 x H1 I1 r1 q1 => ?_) na) na))
  obtain ⟨n, rfl, hn, q1⟩ := q1
  obtain ⟨tk, rfl⟩ := r1
  refine call_range_1 ?_
  have rgH : H1 s2.heap.objs.size = none := I1.hok.fresh (Nat.le_refl _)
  have I2 : Inv X pins σ H1 { s2 with heap := s2.heap.push { cls := .type "range", data := .fields #[.int 0 s2.toks, .int (n : Int) tk, .int 1 (s2.toks + 1)] }, toks := s2.toks + 1 + 1 } := I1.kept fun b u e => Heap.get?_push_of_some _ e
  have I3 := range_in (rg := s2.heap.objs.size) (o := { cls := .type "range", data := .fields #[.int 0 s2.toks, .int (n : Int) tk, .int 1 (s2.toks + 1)] }) I2 (Heap.get?_push_size _ rfl) rgH (Nat.ne_of_gt I1.lt) (I1.nofs (Nat.le_refl _)) fun v z => nomatch z
  refine one_arg hb I3 q1 (fun v s4 y H2 I4 r2 q2 => ?_) nb
  obtain ⟨r, L, rfl, hr, hL, hok, hz, q⟩ := q2
  obtain ⟨tk2, rfl⟩ := r2
  obtain ⟨hrg, _⟩ := I4.pin (s2.heap.objs.size, _) (List.mem_append_right _ (List.mem_append_right _ (List.mem_singleton.mpr rfl)))
  have I5 : Inv X pins σ H2 s4 := I4.unpinned
  have hsm : Builtin.Range.small 0 (n : Int) 1 = true := small_one (by omega) (by omega) (by omega) (by omega)
  have hrs : Builtin.Range.rangeSize 0 (n : Int) 1 = n := by have := rangeSize_nat 0 (n : Int); simpa using this
  refine Cmb.call_c (I5.ok.hd hc) hrg hsm hrs hn hr fun h' tk3 acc hk hi => args_nil ?_
  have I6 : Inv X pins σ H2 { s4 with heap := h', toks := tk3 } := I5.kept hk
  have hT0 : H2 h'.objs.size = none := I6.hok.fresh (Nat.le_refl _)
  have hvals : Vals (rgV 0 (n : Int)) acc.toList := vals_rg (by simpa using hi)
  have I7 : Inv X pins σ (upd H2 h'.objs.size (.tup (rgV 0 (n : Int)))) { s4 with heap := (h'.push { cls := .type "tuple", data := .seq acc }).push (rec h'.objs.size 0 .none (List.range r)), toks := tk3 } := by
    have I7' : Inv X pins σ (upd H2 h'.objs.size (.tup (rgV 0 (n : Int)))) { s4 with heap := h'.push { cls := .type "tuple", data := .seq acc }, toks := tk3 } :=
      I6.laid (t' := tk3) (fun b o e => Heap.get?_push_of_some _ e) (Nat.le_refl _) (show ObjOk X.prog X.w _ _ _ (.tup (rgV 0 (n : Int))) from ⟨by rw [rgV_length, sizeLine_eq]; omega, acc.toList, hvals, by rw [Array.toArray_toList]; exact IsTup.new _ _⟩)
    exact I7'.kept (t' := tk3) fun b o e => Heap.get?_push_of_some _ e
  have hsz : (h'.push { cls := .type "tuple", data := .seq acc }).objs.size = h'.objs.size + 1 := Heap.size_push ..
  have hmr : ((h'.push { cls := .type "tuple", data := .seq acc }).push (rec h'.objs.size 0 .none (List.range r))).get? (h'.objs.size + 1) = some (rec h'.objs.size 0 .none (List.range r)) := by
    have := Heap.get?_push_size (h'.push { cls := .type "tuple", data := .seq acc }) (o := rec h'.objs.size 0 .none (List.range r)) rfl
    rw [hsz] at this
    exact this
  have hne : h'.objs.size ≠ h'.objs.size + 1 := Nat.ne_of_lt (Nat.lt_succ_self _)
  have fpm : FpOk X pins (upd H2 h'.objs.size (.tup (rgV 0 (n : Int)))) (h'.objs.size + 1) := fpOk_upd (I6.fpOk (Nat.le_succ _) (I6.hok.fresh (Nat.le_succ _))) (Ne.symm hne)
  refine list_comb hc I7 fpm upd_same hne hmr hL hok hz fun q0 H' vs hq hs hv hall => q q0 H' vs ?_ ?_ hv ?_
  · by_cases e : q0 = h'.objs.size
    · rw [e]; exact hT0
    · rw [upd_ne e] at hq; exact hq
  · intro a o e
    exact hs a o (by rw [upd_ne (ne_of_none e hT0)]; exact e)
  · refine DpAll.mono (fun a o e => ?_) _ _ hall
    unfold Fr1 at e ⊢
    by_cases ha : a = q0
    · rw [if_pos ha] at e; cases e
    · rw [if_neg ha] at e ⊢
      by_cases hat : a = h'.objs.size
      · rw [hat, upd_same] at e; cases e
      · rw [upd_ne hat] at e
        exact e
def asNat1000 : PyData → Option Nat
  | .int n => if 0 ≤ n ∧ n ≤ 1000 then some n.toNat else none
  | _ => none
def combR (n : Nat) : PyData → Option Vl
  | .int r => if 0 ≤ r ∧ r ≤ n then match combL n r.toNat with
    | some L => if okC n L && big L.length then some (.fr (L.map tupC)) else none
    | none => none else none
  | _ => none
def eCombs (a b : Mo Vl) : Mo Vl := Mo.bnd a fun x => Mo.bnd (peek x) fun dx => Mo.bnd (Mo.lift (asNat1000 dx)) fun n => Mo.bnd b fun y => Mo.bnd (peek y) fun dy => Mo.lift (combR n dy)
theorem combs_imp {K : PySem.W.Frag} {B : Bs} {W : XW} {fa fb : Mo Vl} : ∀ σ H Q, tD K B W (eCombs fa fb) σ H Q → tCombs K (tD K B W fa) (tD K B W fb) σ H Q := by
  rintro σ H Q ⟨e, t, val, s, h⟩
  refine ⟨e, t, val, s, (Fin.bnd h).imp fun r1 e1 _ h1 v1 H1 t1 val1 ag1 s1 at1 => ?_⟩
  obtain ⟨d1, e3, p1, h3⟩ := Fin.peek (Fin.bnd h1)
  obtain ⟨rfl, k1⟩ := peek_ok s1 at1.weak p1
  obtain ⟨n, hn, h5⟩ := Fin.lift (Fin.bnd h3)
  cases d1 <;> simp only [asNat1000] at hn <;> try (cases hn; done)
  rename_i i
  split at hn
  case isFalse => cases hn
  rename_i hi
  cases hn
  refine ⟨i.toNat, by rw [k1.int]; congr 1; omega, by omega, e3, t ++ t1, val1, s1, (Fin.bnd (Fin.next h5 ag1 s1)).imp fun r2 e2 _ h2 v2 H2 t2 val2 ag2 s2 at2 => ?_⟩
  obtain ⟨d2, e4, p2, h4⟩ := Fin.peek (Fin.bnd h2)
  obtain ⟨rfl, k2⟩ := peek_ok s2 at2.weak p2
  obtain ⟨w, hw, h6⟩ := Fin.lift h4
  cases d2 <;> simp only [combR] at hw <;> try (cases hw; done)
  rename_i j
  split at hw
  case isFalse => cases hw
  rename_i hj
  cases hL : combL i.toNat j.toNat with
  | none => rw [hL] at hw; cases hw
  | some L =>
    rw [hL] at hw
    simp only at hw
    split at hw
    case isFalse => cases hw
    rename_i hok
    cases hw
    rw [Bool.and_eq_true] at hok
    refine ⟨j.toNat, L, by rw [k2.int]; congr 1; omega, by omega, hL, hok.1, of_decide_eq_true hok.2, fun q H' vs hq sg hv hall => ?_⟩
    have g1 := Got.back (Q := Q) (r := .fr (L.map tupC)) (e := e3) h6 ag1 s1
    have g2 := Got.back (e := e4) g1 ag2 s2
    refine g2.res s2 ⟨sg, q, vs, rfl, hq, hv, DpAll.mono (fun a o e => ?_) _ _ hall⟩
    unfold Fr1 at e
    by_cases ha : a = q
    · rw [if_pos ha] at e; cases e
    · rw [if_neg ha] at e
      refine minus_some.mpr ⟨ha, ?_⟩
      unfold gext
      cases e2 : H2 a with
      | some o' => rw [e2] at e; cases e
      | none => rw [e2] at e; exact e
theorem d_combs {B : Bs} {W : XW} {fa fb : Mo Vl} {p p2 p3 pos q2 q3 : Pos} (ha : PE X a (tD X.K B W fa)) (hb : PE X b (tD X.K B W fb)) (hm2 : X.mg "combinations" = some (.type "itertools.combinations")) (hm : X.mg "list" = none) (hm3 : X.mg "range" = none) (hc : X.calm = true := by rfl)
    (hg : Gl X "list" := by rfl) (hg2 : Gl X "combinations" := by rfl) (hg3 : Gl X "range" := by rfl)
    (na : starEach [a] X.env = (false, eval a X.env) :: starEach [] X.env := by rfl) (nb : starEach [b] X.env = (false, eval b X.env) :: starEach [] X.env := by rfl)
    (nr : starEach [.Call (.Name "range" p3) [a] [] q3, b] X.env = (false, eval (.Call (.Name "range" p3) [a] [] q3) X.env) :: starEach [b] X.env := by rfl) (hpb : (backTo q2 (starEach [b] X.env)).any (·.1) = false := by rfl)
    (nc : starEach [.Call (.Name "combinations" p2) [.Call (.Name "range" p3) [a] [] q3, b] [] q2] X.env = (false, eval (.Call (.Name "combinations" p2) [.Call (.Name "range" p3) [a] [] q3, b] [] q2) X.env) :: starEach [] X.env := by rfl) :
    PE X (.Call (.Name "list" p) [.Call (.Name "combinations" p2) [.Call (.Name "range" p3) [a] [] q3, b] [] q2] [] pos) (tD X.K B W (eCombs fa fb)) :=
  (pe_combs hc hg hm hg2 hm2 hg3 hm3 ha hb na nb nr hpb nc).imp combs_imp
end
end L2.DL

namespace L2.DL
open PySem PySem.Spec PyProof.Rows RZ
/-! ### the law's own call, for promises that ask that no repr is under way -/
/-- at the heap behind the top: what the promise needs, whatever is tracked -/
structure Top (P : Program) (w : World) (K : PySem.W.Frag) (mg : Str → Option Value) (sh : Shared) (H : Hp) (a : Addr) (xs : List V) : Prop where
  only : L2.Only H
  sq : SqL K H a xs
  ok : HOk P w H sh.heap
  one : ∀ b, H b ≠ none → b = a
  apart : H a ≠ none → K.lookup a = none
section
variable {P : Program} {w : World} {K : PySem.W.Frag} {mg mb : Str → Option Value} {XC : XCl} {k : Nat} {fa a : Addr} {fd : FuncData} {x : Str} {sh : Shared} {vs : List Value} {ns : List Int} {F : List PyData → Option FR}
theorem top_base {H : Hp} {xs : List V} (t : Top P w K mg sh H a xs) (KX : K.In sh.heap) (ha : sh.heap.get? a = some { cls := .type "list", data := .seq vs.toArray }) (hns : sh.heap.Ns mainGlobals mg) (hb : sh.heap.Ns builtinsNs mb)
    (hbb : ∀ x : Str, x ≠ "__name__" → mb x = bootBuiltins x) (hlim : sh.heap.NoLimit) (hg : sh.gens = #[]) :
    K.In (hidT sh.heap H) ∧ (hidT sh.heap H).Ns mainGlobals mg ∧ Env0 P w K mg (hidT sh.heap H) callerA [] sh H := by
  have free : ∀ {b : Addr} {o : Obj}, sh.heap.get? b = some o → (∀ ys n, o.data ≠ .seq ys n) → H b = none := fun {b o} e hd => by
    cases q : H b with
    | none => rfl
    | some u =>
      have hba := t.one b (by rw [q]; exact Option.some_ne_none u)
      rw [hba, ha] at e
      exact absurd (congrArg Obj.data (Option.some.inj e)).symm (hd _ _)
  have ns : ∀ {b : Addr} {m : Str → Option Value}, sh.heap.Ns b m → (hidT sh.heap H).Ns b m := fun h => by
    obtain ⟨o, es, ep, e, d, r⟩ := h
    exact ⟨o, es, ep, hidT_get e (free e fun ys n z => by rw [d] at z; cases z), d, r⟩
  have kin : K.In (hidT sh.heap H) := fun b o e => by
    refine hidT_get (KX b o e) ?_
    cases q : H b with
    | none => rfl
    | some u =>
      have hu : H b ≠ none := by rw [q]; exact Option.some_ne_none u
      have hba := t.one b hu
      rw [hba] at e hu
      rw [t.apart hu] at e
      cases e
  obtain ⟨mc, l1, l2⟩ := hlim
  exact ⟨kin, ns hns, ⟨rfl, ⟨kin, ns hns, ⟨mb, ns hb, hbb⟩, mc, ns l1, l2⟩, fun b o e => of_hidT e, Nat.le_of_eq (hidT_size _ _), trivial, fun b z => (List.not_mem_nil z).elim, t.ok, .of_eq hg⟩⟩
/-- the script as it is tracked -/
theorem top_of (KX : K.In sh.heap) (ha : sh.heap.get? a = some { cls := .type "list", data := .seq vs.toArray }) (hi : IntsAre vs ns) (hl : ns.length ≤ sizeLine) : ∃ H, Top P w K mg sh H a (ns.map V.int) := by
  have rv := vals_ints hi
  by_cases hk : K.lookup a = none
  · refine ⟨fun b => if b = a then some (.frz { cls := .type "list", data := .seq vs.toArray } (.lst (ns.map V.int))) else none, fun b => ?_, .inl (.inr ⟨{ cls := .type "list", data := .seq vs.toArray }, if_pos rfl⟩), fun b u z => ?_, fun b z => ?_, fun _ => hk⟩
    · by_cases h : b = a
      · exact .inr ⟨_, _, if_pos h⟩
      · exact .inl (if_neg h)
    · by_cases h : b = a
      · subst h
        cases (if_pos rfl).symm.trans z
        exact ⟨ha, by simpa using hl, vs, _, rv, ha⟩
      · cases (if_neg h).symm.trans z
    · by_cases h : b = a
      · exact h
      · exact absurd (if_neg h) z
  · obtain ⟨o, ho⟩ := Option.ne_none_iff_exists'.mp hk
    have e := KX a o ho
    rw [ha] at e
    cases e
    exact ⟨fun _ => none, ⟨fun _ => .inl rfl, .inr ⟨_, vs.toArray, _, ho, rfl, rfl, rfl, by rw [List.size_toArray, hi.length]; exact hl, by simpa using rv⟩, fun b u z => (Option.some_ne_none u (show some u = none from z.symm)).elim, fun b z => absurd rfl z, fun z => absurd rfl z⟩⟩
theorem intsD {H : Hp} : ∀ ns : List Int, DpAll K H (ns.map V.int) (ns.map PyData.int)
  | [] => .nil
  | i :: ns => .cons (.int i) (intsD ns)
theorem callG (KX : K.In sh.heap) (hns : sh.heap.Ns mainGlobals mg) (hb : sh.heap.Ns builtinsNs mb) (hbb : ∀ x : Str, x ≠ "__name__" → mb x = bootBuiltins x) (hlim : sh.heap.NoLimit) (hg : sh.gens = #[])
    (ha : sh.heap.get? a = some { cls := .type "list", data := .seq vs.toArray }) (hi : IntsAre vs ns) (hl : ns.length ≤ sizeLine) (hr : Room k callerA)
    (G : ∀ base : Heap, K.In base → base.Ns mainGlobals mg → FnG P w K mg base (L2.CX P w) k fa fd [x] (spP K XC 1 F)) (hbind : ∀ (s : Shared) (u : Value), BindsTo s fd ⟨[u], []⟩ [(x, u)])
    (hF : F [.list (ns.map .int)] = some (.ret (.d (.bool true)))) :
    codeAny (model P w) callerA (.call (.ref fa) ⟨[.ref a], []⟩) (fun r s' => r = .ok (.ret (.bool true)) ∧ OldK sh.heap s'.heap ∧ s'.os = sh.os ∧ AllBare s'.gens) sh := by
  obtain ⟨H, t⟩ := top_of (P := P) (w := w) (mg := mg) KX ha hi hl
  obtain ⟨b1, b2, e0⟩ := top_base t KX ha hns hb hbb hlim hg
  have hsp : spP K XC 1 F [.ref a] H (fun v _ => v = .bl true) fun _ _ _ => False := by
    refine ⟨H, [.list (ns.map .int)], Same.refl _, .cons (.lst t.sq ?_) .nil, rfl, ?_⟩
    · exact intsD ns
    · rw [hF]
      intro v H' hd
      cases hd.2 with | bl _ => rfl
  refine codeAny_mono ((G _ b1 b2).go (fr := []) (ar := ⟨[.ref a], []⟩) (us := [.ref a]) rfl hr e0 (hbind sh (.ref a)) (.cons (show RelV (V.ref a) (Value.ref a) from rfl) .nil) hsp) fun r s' h => ?_
  match r, h with
  | .error e, h =>
    obtain ⟨_, _, _, _, _, _, _, _, _, _, _, _, z⟩ := h
    exact z.elim
  | .ok (.ret u), h =>
    obtain ⟨v, H', os, bare, un, hok', r', q⟩ := h
    have q' : v = .bl true := q
    subst q'
    obtain rfl : u = Value.bool true := r'
    refine ⟨rfl, OldK.of_keep fun b o e => ?_, os, bare⟩
    rcases t.only b with z | ⟨ob, xs, z⟩
    · exact un.keep b o e z (fun y => (List.not_mem_nil y).elim) (fun y => (List.not_mem_nil y).elim)
    · have e2 := (hok' b _ (un.frzs b ob _ z)).1
      rw [(t.ok b _ z).1] at e
      cases e
      exact e2
end
theorem walkG {l : PySem.W.OpenLaw} {n k : Nat} {q : Program} {loose : List Str} {XP : (Str → Option Value) → Heap → Prop} {YP : World → Heap → Prop} {d : DefRec} {K : Params → PySem.W.Frag} {x : Str} {XC : PySem.W.Frag → XCl} {F : List PyData → Option FR}
    (hn : l.most = some n) (hn2 : n ≤ sizeLine) (hdf : d.params.defaults = []) (hr : Room k callerA) (hY : ∀ (w : World) (h : Heap), YP w h → (K w.params).In h)
    (G : ∀ (w : World) (mg : Str → Option Value) (fa : Addr) (h : Heap), (K w.params).In h → h.Ns mainGlobals mg → mg d.name = some (.ref fa) →
      ∃ fd : FuncData, (∀ (s : Shared) (u : Value), BindsTo s fd ⟨[u], []⟩ [(x, u)]) ∧
        ∀ base : Heap, (K w.params).In base → base.Ns mainGlobals mg → FnG l.prog w (K w.params) mg base (L2.CX l.prog w) k fa fd [x] (spP (K w.params) (XC (K w.params)) 1 F))
    (hF : ∀ ns : List Int, ns.length ≤ n → F [.list (ns.map .int)] = some (.ret (.d (.bool true)))) :
    PySem.W.WalkO q loose XP YP l.row.toRowW d [] (fun f vs => PySem.call f vs) := by
  refine Att.attach_call hn hdf fun w s₀ sh mg mb fa o pm cd doc a vs ns Gd Y ho hd hcd hmg hobj hints hlen hg => ?_
  obtain ⟨fd, hb, hG⟩ := G w mg fa _ (hY w _ Y) Gd.T.g hmg
  exact callG (hY w _ Y) Gd.T.g Gd.T.b Gd.T.builtins Gd.T.nolimit hg hobj hints (Nat.le_trans hlen hn2) hr hG hb (hF ns hlen)
end L2.DL

namespace L2.DL
open PySem PySem.Spec PyProof.Rows
/-! ### what a mirror computes -/
def Run {α : Type} (m : Mo α) (e : En) (Q : α → En → Prop) : Prop := ∃ a e', m e = some (.ok a e') ∧ Q a e'
variable {α β : Type} {e : En} {Q : α → En → Prop}
theorem Run.imp {m : Mo α} {Q' : α → En → Prop} (h : Run m e Q) (k : ∀ a e', Q a e' → Q' a e') : Run m e Q' := by
  obtain ⟨a, e', h, q⟩ := h
  exact ⟨a, e', h, k _ _ q⟩
theorem run_bnd {m : Mo β} {k : β → Mo α} : Run (Mo.bnd m k) e Q ↔ Run m e fun a e1 => Run (k a) e1 Q := by
  unfold Run Mo.bnd
  constructor
  · rintro ⟨a, e', h, q⟩
    cases hm : m e with
    | none => rw [hm] at h; cases h
    | some r =>
      rw [hm] at h
      cases r with
      | ok b e1 => exact ⟨b, e1, rfl, a, e', h, q⟩
      | exc c x e1 => cases h
  · rintro ⟨b, e1, h1, a, e', h2, q⟩
    refine ⟨a, e', ?_, q⟩
    rw [h1]
    exact h2
theorem run_ret {a : α} : Run (Mo.ret a) e Q ↔ Q a e := by
  unfold Run Mo.ret
  constructor
  · rintro ⟨b, e', h, q⟩
    cases h
    exact q
  · exact fun q => ⟨a, e, rfl, q⟩
theorem run_lift {o : Option α} : Run (Mo.lift o) e Q ↔ ∃ a, o = some a ∧ Q a e := by
  unfold Run Mo.lift
  constructor
  · rintro ⟨b, e', h, q⟩
    cases o with
    | none => cases h
    | some a => cases h; exact ⟨b, rfl, q⟩
  · rintro ⟨a, rfl, q⟩
    exact ⟨a, e, rfl, q⟩
theorem run_peek_d {x : PyData} {Q : PyData → En → Prop} : Run (peek (.d x)) e Q ↔ Q x e := run_ret (a := x)
theorem run_peek_fr {xs : List PyData} {Q : PyData → En → Prop} : Run (peek (.fr xs)) e Q ↔ Q (.list xs) e := run_ret (a := PyData.list xs)
theorem run_freeze_d {x : PyData} {Q : PyData → En → Prop} : Run (freeze (.d x)) e Q ↔ Q x e := run_ret (a := x)
theorem run_freeze_fr {xs : List PyData} {Q : PyData → En → Prop} : Run (freeze (.fr xs)) e Q ↔ Q (.list xs) e := run_ret (a := PyData.list xs)
theorem run_fun {m : Mo α} {a : α} {e' : En} (h : m e = some (.ok a e')) : Run m e Q ↔ Q a e' := by
  unfold Run
  rw [h]
  constructor
  · rintro ⟨b, e1, h, q⟩
    cases h
    exact q
  · exact fun q => ⟨a, e', rfl, q⟩
theorem ex_two {α β : Type} {a0 : α} {b0 : β} {p : α → β → Prop} : (∃ a b, (a0 = a ∧ b0 = b) ∧ p a b) ↔ p a0 b0 := ⟨fun ⟨_, _, ⟨h1, h2⟩, q⟩ => by subst h1; subst h2; exact q, fun q => ⟨_, _, ⟨rfl, rfl⟩, q⟩⟩
theorem run_peek {r : Vl} {Q : PyData → En → Prop} : Run (peek r) e Q ↔ match r with
    | .d x => Q x e
    | .fr xs => Q (.list xs) e
    | .pk i => (match e[i]? with
      | some (.own xs) => Q (.list xs) e
      | some (.d x) => Q x e
      | _ => False) := by
  unfold Run peek
  cases r with
  | d x => exact run_ret (a := x)
  | fr xs => exact run_ret (a := PyData.list xs)
  | pk i =>
    dsimp only
    cases e[i]? with
    | none => simp
    | some md => cases md <;> simp [ex_two]
theorem run_freeze {r : Vl} {Q : PyData → En → Prop} : Run (freeze r) e Q ↔ match r with
    | .d x => Q x e
    | .fr xs => Q (.list xs) e
    | .pk i => (match e[i]? with
      | some (.own xs) => Q (.list xs) (e.set i (.d (.list xs)))
      | some (.d x) => Q x e
      | _ => False) := by
  unfold Run freeze
  cases r with
  | d x => exact run_ret (a := x)
  | fr xs => exact run_ret (a := PyData.list xs)
  | pk i =>
    dsimp only
    cases e[i]? with
    | none => simp
    | some md => cases md <;> simp [ex_two]
theorem run_var {i : Nat} {Q : Vl → En → Prop} : Run (eVar i) e Q ↔ match e[i]? with
    | some (.d x) => Q (.d x) e
    | some (.own _) => Q (.pk i) e
    | _ => False := by
  unfold Run eVar
  cases e[i]? with
  | none => simp
  | some md => cases md <;> simp [ex_two]
theorem run_store {i : Nat} {r : Vl} {Q : Fl → En → Prop} : Run (store i r) e Q ↔ match r with
    | .d x => Q .nx (e.set i (.d x))
    | .fr xs => Q .nx (e.set i (.own xs))
    | .pk j => (match e[j]? with
      | some (.own xs) => Q .nx ((e.set j .un).set i (.own xs))
      | some (.d x) => Q .nx (e.set i (.d x))
      | _ => False) := by
  unfold Run store
  cases r with
  | d x => exact run_ret (a := Fl.nx)
  | fr xs => exact run_ret (a := Fl.nx)
  | pk j =>
    dsimp only
    cases e[j]? with
    | none => simp
    | some md => cases md <;> simp [ex_two]
theorem run_bName {i : Nat} {x : PyData} {Q : Unit → En → Prop} : Run (bName i x) e Q ↔ Q () (e.set i (.d x)) := run_fun rfl
theorem run_callF {F : List PyData → Option FR} {ds : List PyData} {Q : Vl → En → Prop} : Run (callF F ds) e Q ↔ ∃ w, F ds = some (.ret w) ∧ Q w e := by
  unfold Run callF
  constructor
  · rintro ⟨a, e', h, q⟩
    split at h
    · cases h
    · rename_i w hw; cases h; exact ⟨_, hw, q⟩
    · cases h
  · rintro ⟨w, h, q⟩
    rw [h]
    exact ⟨_, _, rfl, q⟩
theorem run_callM {F : FM} {ds : List PyData} {r : Vl} {Q : Vl → En → Prop} : Run (callM F r ds) e Q ↔ match r with
    | .pk i => (match e[i]? with
      | some (.own xs) => ∃ z ys, F xs ds = some (z, ys) ∧ Q (.d z) (e.set i (.own ys))
      | _ => False)
    | _ => False := by
  unfold Run callM
  cases r with
  | d x => simp
  | fr xs => simp
  | pk i =>
    dsimp only
    cases e[i]? with
    | none => simp
    | some md =>
      cases md with
      | un => simp
      | d x => simp
      | own xs =>
        dsimp only
        cases F xs ds with
        | none => simp
        | some p => obtain ⟨z, ys⟩ := p; simp [ex_two]
theorem run_isOwn {r : Vl} {Q : Unit → En → Prop} : Run (isOwn r) e Q ↔ match r with
    | .pk i => (match e[i]? with
      | some (.own _) => Q () e
      | _ => False)
    | _ => False := by
  unfold Run isOwn
  cases r with
  | d x => simp
  | fr xs => simp
  | pk i =>
    dsimp only
    cases e[i]? with
    | none => simp
    | some md => cases md <;> simp [ex_two] <;> exact ⟨fun ⟨_, q⟩ => q, fun q => ⟨_, q⟩⟩
theorem run_extM {r0 r : Vl} {Q : Vl → En → Prop} : Run (extM r0 r) e Q ↔ match r0, r with
    | .pk i, .fr zs => (match e[i]? with
      | some (.own xs) => big (xs.length + zs.length) = true ∧ Q (.d .none) (e.set i (.own (xs ++ zs)))
      | _ => False)
    | _, _ => False := by
  unfold Run extM
  cases r0 with
  | d x => simp
  | fr xs => simp
  | pk i =>
    cases r with
    | d x => simp
    | pk j => simp
    | fr zs =>
      dsimp only
      cases e[i]? with
      | none => simp
      | some md =>
        cases md with
        | own xs => by_cases h : big (xs.length + zs.length) = true <;> simp [h, ex_two]
        | un => simp
        | d x => simp
theorem run_if {c : Prop} [Decidable c] {a b : Mo α} : Run (if c then a else b) e Q ↔ if c then Run a e Q else Run b e Q := by split <;> rfl
theorem run_noexc {m : Mo α} : Run (noexc m) e Q ↔ Run m e Q := by
  unfold Run noexc
  constructor
  · rintro ⟨a, e', h, q⟩
    split at h
    · rename_i a' e1 h1
      cases h
      exact ⟨_, _, h1, q⟩
    · cases h
  · rintro ⟨a, e', h, q⟩
    exact ⟨a, e', by rw [h], q⟩
theorem runP_ok {k : Nat} {f : Mo Fl} {ds : List PyData} {r : FR} (h : Run f (ds.map .d ++ List.replicate k .un) fun fl e' => asRet (some (.ok fl e')) = some r) : runP k f ds = some r := by
  obtain ⟨a, e', h, q⟩ := h
  unfold runP
  rw [h]
  exact q
theorem runM_ok {k : Nat} {f : Mo Fl} {xs ds : List PyData} {r : PyData × List PyData} (h : Run f (.own xs :: ds.map .d ++ List.replicate k .un) fun fl e' => asRetM (some (.ok fl e')) = some r) : runM k f xs ds = some r := by
  obtain ⟨a, e', h, q⟩ := h
  unfold runM
  rw [h]
  exact q
/-! ### loops -/
/-- P i: what stands ahead of the turn i; R: what a return inside leaves -/
theorem run_for {bind : Bd} {body : Mo Fl} {Q : Fl → En → Prop} (xs : List PyData) (P : Nat → En → Prop) (h0 : P 0 e)
    (hs : ∀ i x e, xs[i]? = some x → P i e → Run (bind x) e fun _ e1 => Run body e1 fun fl e2 => match fl with
      | .nx => P (i + 1) e2
      | .ct => P (i + 1) e2
      | .bk => Q .nx e2
      | .rt w => Q (.rt w) e2)
    (hd : ∀ e, P xs.length e → Q .nx e) : Run (forM bind body xs) e Q := by
  have key : ∀ (ys : List PyData) (j : Nat) (e : En), (∀ i, ys[i]? = xs[j + i]?) → j + ys.length = xs.length → P j e → Run (forM bind body ys) e Q := by
    intro ys
    induction ys with
    | nil =>
      intro j e _ hl hp
      have : j = xs.length := by simpa using hl
      subst this
      exact run_ret.mpr (hd e hp)
    | cons y ys ih =>
      intro j e hy hl hp
      unfold forM
      rw [run_bnd]
      have hx : xs[j]? = some y := by have := hy 0; simpa using this.symm
      refine (hs j y e hx hp).imp fun _ e1 h1 => ?_
      rw [run_bnd]
      refine h1.imp fun fl e2 h2 => ?_
      have next : P (j + 1) e2 → Run (forM bind body ys) e2 Q := fun p => ih (j + 1) e2 (fun i => by have := hy (i + 1); rw [List.getElem?_cons_succ] at this; rw [this]; congr 1; omega) (by simp at hl; omega) p
      cases fl with
      | nx => exact next h2
      | ct => exact next h2
      | bk => exact run_ret.mpr h2
      | rt w => exact run_ret.mpr h2
  exact key xs 0 e (fun i => by simp) (by simp) h0
theorem run_lcM {bind : Bd} {cond : Mo Bool} {elt : Mo Vl} {vs : List Nat} {Q : List PyData → En → Prop} (xs : List PyData) (P : Nat → List PyData → En → Prop) (h0 : P 0 [] (wipeE e vs))
    (hs : ∀ i x acc e, xs[i]? = some x → P i acc e → Run (bind x) e fun _ e1 => Run cond e1 fun k e2 => if k = true then Run elt e2 fun r e3 => Run (freeze r) e3 fun d e4 => P (i + 1) (acc ++ [d]) (wipeE e4 vs) else P (i + 1) acc (wipeE e2 vs))
    (hd : ∀ acc e, P xs.length acc e → Q acc e) : Run (lcM bind cond elt vs xs []) e Q := by
  have key : ∀ (ys : List PyData) (j : Nat) (acc : List PyData) (e : En), (∀ i, ys[i]? = xs[j + i]?) → j + ys.length = xs.length → P j acc (wipeE e vs) → Run (lcM bind cond elt vs ys acc) e Q := by
    intro ys
    induction ys with
    | nil =>
      intro j acc e _ hl hp
      have : j = xs.length := by simpa using hl
      subst this
      unfold lcM
      rw [run_bnd]
      exact (run_fun (m := wipeM vs) rfl).mpr (run_ret.mpr (hd acc _ hp))
    | cons y ys ih =>
      intro j acc e hy hl hp
      unfold lcM
      rw [run_bnd]
      refine (run_fun (m := wipeM vs) rfl).mpr ?_
      rw [run_bnd, run_noexc]
      have hx : xs[j]? = some y := by have := hy 0; simpa using this.symm
      have tail : ∀ i, ys[i]? = xs[j + 1 + i]? := fun i => by have := hy (i + 1); rw [List.getElem?_cons_succ] at this; rw [this]; congr 1; omega
      have tl : j + 1 + ys.length = xs.length := by simp at hl; omega
      refine (hs j y acc _ hx hp).imp fun _ e1 h1 => ?_
      rw [run_bnd, run_noexc]
      refine h1.imp fun k e2 h2 => ?_
      rw [run_if]
      cases k with
      | false =>
        rw [if_neg Bool.false_ne_true] at h2 ⊢
        exact ih (j + 1) acc e2 tail tl h2
      | true =>
        rw [if_pos rfl] at h2 ⊢
        rw [run_bnd, run_noexc]
        refine h2.imp fun r e3 h3 => ?_
        rw [run_bnd]
        exact h3.imp fun d e4 h4 => ih (j + 1) (acc ++ [d]) e4 tail tl h4
  exact key xs 0 [] e (fun i => by simp) (by simp) h0
/-- a comprehension that changes nothing: p, g tell what is kept and what is made of it -/
theorem run_filter {bind : Bd} {cond : Mo Bool} {elt : Mo Vl} {vs : List Nat} {xs : List PyData} {Q : List PyData → En → Prop} (e' : En) (p : PyData → Bool) (g : PyData → PyData) (he : wipeE e vs = e')
    (hs : ∀ x ∈ xs, Run (bind x) e' fun _ e1 => Run cond e1 fun k e2 => k = p x ∧ (p x = true → Run elt e2 fun r e3 => Run (freeze r) e3 fun d e4 => d = g x ∧ wipeE e4 vs = e') ∧ (p x = false → wipeE e2 vs = e'))
    (hq : Q ((xs.filter p).map g) e') : Run (lcM bind cond elt vs xs []) e Q := by
  refine run_lcM xs (fun i acc e1 => acc = ((xs.take i).filter p).map g ∧ e1 = e') ⟨by simp, he⟩ ?_ ?_
  · rintro i x acc e1 hx ⟨rfl, rfl⟩
    have hm : x ∈ xs := List.mem_of_getElem? hx
    have ht : xs.take (i + 1) = xs.take i ++ [x] := by rw [List.take_add_one, hx]; rfl
    refine (hs x hm).imp fun _ e2 h => h.imp fun k e3 ⟨hk, h1, h2⟩ => ?_
    rw [hk]
    cases hp : p x with
    | false =>
      rw [if_neg Bool.false_ne_true]
      refine ⟨?_, h2 hp⟩
      rw [ht]
      simp [hp]
    | true =>
      rw [if_pos rfl]
      refine (h1 hp).imp fun r e4 h3 => h3.imp fun d e5 ⟨hd, h4⟩ => ⟨?_, h4⟩
      rw [ht, hd]
      simp [hp]
  · rintro acc e1 ⟨rfl, rfl⟩
    rw [List.take_length]
    exact hq
theorem run_map {bind : Bd} {elt : Mo Vl} {vs : List Nat} {xs : List PyData} {Q : List PyData → En → Prop} (e' : En) (g : PyData → PyData) (he : wipeE e vs = e')
    (hs : ∀ x ∈ xs, Run (bind x) e' fun _ e1 => Run elt e1 fun r e3 => Run (freeze r) e3 fun d e4 => d = g x ∧ wipeE e4 vs = e')
    (hq : Q (xs.map g) e') : Run (lcM bind cYes elt vs xs []) e Q := by
  refine run_filter e' (fun _ => true) g he (fun x hx => (hs x hx).imp fun _ e1 h => run_ret.mpr ⟨rfl, fun _ => h, fun z => by cases z⟩) ?_
  rw [List.filter_eq_self.mpr fun _ _ => rfl]
  exact hq
end L2.DL

namespace L2.DL
open PySem PySem.Spec PyProof.Rows
/-! ### the same rules, from the outside inwards (for simp only [↓..]) -/
section
variable {e : En} {α β : Type} {Q : Vl → En → Prop} {QL : List Vl → En → Prop} {QB : Bool → En → Prop} {QF : Fl → En → Prop} {QU : Unit → En → Prop} {QP : List PyData → En → Prop} {QO : Option Int → En → Prop} {QA : α → En → Prop}
variable {a b c : Mo Vl} {ar br : Mo (List Vl)} {p q : Mo Bool} {s t : Mo Fl} {f f' : PyData → PyData → Option Vl} {u : PyData → Option Vl} {F : List PyData → Option Vl} {G : List PyData → Option FR} {M : FM} {n : Nat}
theorem u_lift {o : Option α} : Run (Mo.lift o) e QA ↔ match o with
    | some x => QA x e
    | none => False := by
  rw [run_lift]
  cases o <;> simp
theorem u_callF {ds : List PyData} : Run (callF G ds) e Q ↔ match G ds with
    | some (.ret w) => Q w e
    | _ => False := by
  rw [run_callF]
  cases G ds with
  | none => simp
  | some r => cases r <;> simp
theorem u_callM {ds : List PyData} {r : Vl} : Run (callM M r ds) e Q ↔ match r with
    | .pk i => (match e[i]? with
      | some (.own xs) => (match M xs ds with
        | some (z, ys) => Q (.d z) (e.set i (.own ys))
        | none => False)
      | _ => False)
    | _ => False := by
  rw [run_callM]
  cases r with
  | pk i =>
    dsimp only
    cases e[i]? with
    | none => rfl
    | some md =>
      cases md with
      | own xs =>
        dsimp only
        cases M xs ds with
        | none => simp
        | some r => obtain ⟨z, ys⟩ := r; simp [ex_two]
      | _ => rfl
  | _ => rfl
theorem u_eC {x : PyData} : Run (eC x) e Q ↔ Q (.d x) e := run_ret
theorem u_eBin : Run (eBin f a b) e Q ↔ Run a e fun x e1 => Run b e1 fun y e2 => Run (peek x) e2 fun dx e3 => Run (peek y) e3 fun dy e4 => Run (Mo.lift (f dx dy)) e4 Q := by simp only [eBin, run_bnd]
theorem u_eUn : Run (eUn u a) e Q ↔ Run a e fun x e1 => Run (peek x) e1 fun dx e2 => Run (Mo.lift (u dx)) e2 Q := by simp only [eUn, run_bnd]
theorem u_aNil : Run aNil e QL ↔ QL [] e := run_ret
theorem u_aCons : Run (aCons a ar) e QL ↔ Run a e fun x e1 => Run ar e1 fun xs e2 => QL (x :: xs) e2 := by simp only [aCons, run_bnd, run_ret]
theorem u_peeks0 : Run (peeks []) e QP ↔ QP [] e := run_ret
theorem u_peeks1 {r : Vl} {rs : List Vl} : Run (peeks (r :: rs)) e QP ↔ Run (peek r) e fun d e1 => Run (peeks rs) e1 fun ds e2 => QP (d :: ds) e2 := by simp only [peeks, run_bnd, run_ret]
theorem u_freezes0 : Run (freezes []) e QP ↔ QP [] e := run_ret
theorem u_freezes1 {r : Vl} {rs : List Vl} : Run (freezes (r :: rs)) e QP ↔ Run (freeze r) e fun d e1 => Run (freezes rs) e1 fun ds e2 => QP (d :: ds) e2 := by simp only [freezes, run_bnd, run_ret]
theorem u_eTup : Run (eTup ar) e Q ↔ Run ar e fun rs e1 => Run (freezes rs) e1 fun ds e2 => if ds.length ≤ 16777216 then Q (.d (.tuple ds)) e2 else False := by
  simp only [eTup, run_bnd, run_lift]
  constructor
  · exact fun h => h.imp fun rs e1 h => h.imp fun ds e2 ⟨w, h1, h2⟩ => by split at h1 <;> cases h1; simpa [*] using h2
  · exact fun h => h.imp fun rs e1 h => h.imp fun ds e2 h => by split at h; (· exact ⟨_, by simp [*], h⟩); exact h.elim
theorem u_eLst : Run (eLst ar) e Q ↔ Run ar e fun rs e1 => Run (freezes rs) e1 fun ds e2 => if ds.length ≤ 16777216 then Q (.fr ds) e2 else False := by
  simp only [eLst, run_bnd, run_lift]
  constructor
  · exact fun h => h.imp fun rs e1 h => h.imp fun ds e2 ⟨w, h1, h2⟩ => by split at h1 <;> cases h1; simpa [*] using h2
  · exact fun h => h.imp fun rs e1 h => h.imp fun ds e2 h => by split at h; (· exact ⟨_, by simp [*], h⟩); exact h.elim
theorem u_eCall : Run (eCall F ar) e Q ↔ Run ar e fun rs e1 => Run (peeks rs) e1 fun ds e2 => Run (Mo.lift (F ds)) e2 Q := by simp only [eCall, run_bnd]
theorem u_eFn : Run (eFn n G ar) e Q ↔ Run ar e fun rs e1 => Run (freezes rs) e1 fun ds e2 => if ds.length = n then Run (callF G ds) e2 Q else False := by
  simp only [eFn, run_bnd, run_lift]
  constructor
  · exact fun h => h.imp fun rs e1 h => h.imp fun ds e2 ⟨w, h1, h2⟩ => by split at h1 <;> cases h1; simpa [*] using h2
  · exact fun h => h.imp fun rs e1 h => h.imp fun ds e2 h => by split at h; (· exact ⟨(), by simp [*], h⟩); exact h.elim
theorem u_cV : Run (cV a) e QB ↔ Run a e fun r e1 => Run (peek r) e1 fun d e2 => match d with
    | .bool k => QB k e2
    | _ => False := by
  simp only [cV, run_bnd, run_lift]
  constructor
  · exact fun h => h.imp fun r e1 h => h.imp fun d e2 ⟨w, h1, h2⟩ => by cases d <;> cases h1; exact h2
  · exact fun h => h.imp fun r e1 h => h.imp fun d e2 h => by cases d <;> first | exact h.elim | exact ⟨_, rfl, h⟩
theorem u_cAnd : Run (cAnd p q) e QB ↔ Run p e fun k e1 => if k = true then Run q e1 QB else QB false e1 := by simp only [cAnd, run_bnd, run_if, run_ret]
theorem u_cOr : Run (cOr p q) e QB ↔ Run p e fun k e1 => if k = true then QB true e1 else Run q e1 QB := by simp only [cOr, run_bnd, run_if, run_ret]
theorem u_cNot : Run (cNot p) e QB ↔ Run p e fun k e1 => QB (!k) e1 := by simp only [cNot, run_bnd, run_ret]
theorem u_cYes : Run cYes e QB ↔ QB true e := run_ret
theorem u_eIf : Run (eIf p a b) e Q ↔ Run p e fun k e1 => if k = true then Run a e1 Q else Run b e1 Q := by simp only [eIf, run_bnd, run_if]
theorem u_eAnd : Run (eAnd a b) e Q ↔ Run (cV a) e fun k e1 => if k = true then Run b e1 Q else Q (.d (.bool false)) e1 := by
  simp only [eAnd, cV, run_bnd, run_if, run_ret]
theorem u_eOr : Run (eOr a b) e Q ↔ Run (cV a) e fun k e1 => if k = true then Q (.d (.bool true)) e1 else Run b e1 Q := by
  simp only [eOr, cV, run_bnd, run_if, run_ret]
theorem u_sSet {i : Nat} : Run (sSet i a) e QF ↔ Run a e fun r e1 => Run (store i r) e1 QF := by simp only [sSet, run_bnd]
theorem u_sSeq : Run (sSeq s t) e QF ↔ Run s e fun fl e1 => match fl with
    | .nx => Run t e1 QF
    | other => QF other e1 := by
  unfold sSeq
  rw [run_bnd]
  constructor
  · exact fun h => h.imp fun fl e1 q => by cases fl <;> first | exact q | exact run_ret.mp q
  · exact fun h => h.imp fun fl e1 q => by cases fl <;> first | exact q | exact run_ret.mpr q
theorem u_sNx : Run sNx e QF ↔ QF .nx e := run_ret
theorem u_sIf : Run (sIf p s t) e QF ↔ Run p e fun k e1 => if k = true then Run s e1 QF else Run t e1 QF := by simp only [sIf, run_bnd, run_if]
theorem u_sExpr : Run (sExpr a) e QF ↔ Run a e fun _ e1 => QF .nx e1 := by simp only [sExpr, run_bnd, run_ret]
theorem u_sRet : Run (sRet a) e QF ↔ Run a e fun r e1 => QF (.rt r) e1 := by simp only [sRet, run_bnd, run_ret]
theorem u_iSeq : Run (iSeq a) e QP ↔ Run a e fun r e1 => Run (freeze r) e1 fun d e2 => Run (Mo.lift (seqOf d)) e2 QP := by simp only [iSeq, run_bnd]
theorem u_iRng {g : List PyData → Option (List PyData)} : Run (iRng g ar) e QP ↔ Run ar e fun rs e1 => Run (peeks rs) e1 fun ds e2 => Run (Mo.lift (g ds)) e2 QP := by simp only [iRng, run_bnd]
theorem u_iZips {g : List PyData → Option (List PyData)} : Run (iZips g ar) e QP ↔ Run ar e fun rs e1 => Run (freezes rs) e1 fun ds e2 => Run (Mo.lift (g ds)) e2 QP := by simp only [iZips, run_bnd]
theorem u_sFor {it : Mo (List PyData)} {bd : Bd} : Run (sFor it bd s) e QF ↔ Run it e fun xs e1 => Run (forM bd s xs) e1 QF := by simp only [sFor, run_bnd]
theorem u_eLc {it : Mo (List PyData)} {bd : Bd} {vs : List Nat} : Run (eLc it bd p a vs) e Q ↔ Run it e fun ds e1 => if ds.length < 16777216 then Run (lcM bd p a vs ds []) e1 fun out e2 => Q (.fr out) e2 else False := by
  simp only [eLc, run_bnd, run_lift, run_ret]
  constructor
  · exact fun h => h.imp fun ds e1 ⟨w, h1, h2⟩ => by split at h1 <;> cases h1; simpa [*] using h2
  · exact fun h => h.imp fun ds e1 h => by split at h; (· exact ⟨(), by simp [*], h⟩); exact h.elim
theorem u_eMut {o : Mo Vl} : Run (eMut M o ar) e Q ↔ Run o e fun r0 e1 => Run (isOwn r0) e1 fun _ e2 => Run ar e2 fun rs e3 => Run (freezes rs) e3 fun ds e4 => Run (callM M r0 ds) e4 Q := by simp only [eMut, run_bnd]
theorem u_eExt {o : Mo Vl} : Run (eExt o a) e Q ↔ Run o e fun r0 e1 => Run (isOwn r0) e1 fun _ e2 => Run a e2 fun r e3 => Run (extM r0 r) e3 Q := by simp only [eExt, run_bnd]
end
end L2.DL

namespace L2.DL
open PySem PySem.Spec PyProof.Rows
section
variable {e : En} {Q : Vl → En → Prop} {QF : Fl → En → Prop} {QU : Unit → En → Prop}
variable {a b : Mo Vl} {ar br : Mo (List Vl)} {M : FM} {n : Nat}
theorem u_eFnM : Run (eFnM n M ar) e Q ↔ Run ar e fun rs e1 => match rs with
    | [] => False
    | r0 :: rs => Run (freezes rs) e1 fun ds e2 => if ds.length = n then Run (callM M r0 ds) e2 Q else False := by
  unfold eFnM
  rw [run_bnd]
  constructor
  · exact fun h => h.imp fun rs e1 h => by
      cases rs with
      | nil => rw [run_lift] at h; obtain ⟨_, z, _⟩ := h; cases z
      | cons r0 rs =>
        dsimp only at h ⊢
        rw [run_bnd] at h
        exact h.imp fun ds e2 h => by
          rw [run_bnd, run_lift] at h
          obtain ⟨_, z, h⟩ := h
          split at z
          · rename_i hn; rw [if_pos hn]; cases z; exact h
          · cases z
  · exact fun h => h.imp fun rs e1 h => by
      cases rs with
      | nil => exact h.elim
      | cons r0 rs =>
        dsimp only at h ⊢
        rw [run_bnd]
        exact h.imp fun ds e2 h => by
          rw [run_bnd, run_lift]
          split at h
          · rename_i hn; exact ⟨(), by rw [if_pos hn], h⟩
          · exact h.elim
theorem u_sSets {is : List Nat} : Run (sSets is ar) e QF ↔ Run ar e fun rs e1 => Run (stores is rs) e1 QF := by simp only [sSets, run_bnd]
theorem u_stores0 : Run (stores [] []) e QF ↔ QF .nx e := run_ret
theorem u_stores1 {i : Nat} {is : List Nat} {r : Vl} {rs : List Vl} : Run (stores (i :: is) (r :: rs)) e QF ↔ if clash i rs = true then False else Run (store i r) e fun _ e1 => Run (stores is rs) e1 QF := by
  simp only [stores, run_bnd, run_lift]
  split <;> simp
theorem u_sAsg {g : Bd} : Run (sAsg a g) e QF ↔ Run a e fun r e1 => Run (freeze r) e1 fun x e2 => Run (g x) e2 fun _ e3 => QF .nx e3 := by simp only [sAsg, run_bnd, run_ret]
theorem u_bSub {o i : Mo Vl} {x : PyData} : Run (bSub M o i x) e QU ↔ Run o e fun r0 e1 => Run i e1 fun ri e2 => Run (peek ri) e2 fun di e3 => Run (callM M r0 [di, x]) e3 fun _ e4 => QU () e4 := by simp only [bSub, run_bnd, run_ret]
theorem u_liftE {α : Type} {e : En} {QA : α → En → Prop} {o : Option α} {x : α} (h : o = some x) : Run (Mo.lift o) e QA ↔ QA x e := by rw [h, u_lift]
theorem u_callFE {F : List PyData → Option FR} {ds : List PyData} {w : Vl} (h : F ds = some (.ret w)) : Run (callF F ds) e Q ↔ Q w e := by rw [u_callF, h]
theorem u_callME {xs ds ys : List PyData} {z : PyData} {i : Nat} (h : M xs ds = some (z, ys)) (hi : e[i]? = some (.own xs)) : Run (callM M (.pk i) ds) e Q ↔ Q (.d z) (e.set i (.own ys)) := by
  rw [u_callM]
  simp only [hi, h]
end
end L2.DL

namespace L2.DL
open PySem PySem.Spec PyProof.Rows
/-! ### more rules from the outside inwards; single steps on known values -/
section
variable {e : En} {Q : Vl → En → Prop} {QF : Fl → En → Prop} {QU : Unit → En → Prop} {QO : Option Int → En → Prop} {QB : Bool → En → Prop}
variable {a b c : Mo Vl} {lo hi : Mo (Option Int)} {f f' : PyData → PyData → Option Vl}
theorem u_bTup {gs : List Bd} {xs : List PyData} : Run (bTup gs (.tuple xs)) e QU ↔ if xs.length = gs.length then Run (bAll gs xs) e QU else False := by
  unfold bTup
  dsimp only
  split
  · rfl
  · rw [run_lift]; simp
theorem u_bAll0 : Run (bAll [] []) e QU ↔ QU () e := run_ret
theorem u_bAll1 {g : Bd} {gs : List Bd} {x : PyData} {xs : List PyData} : Run (bAll (g :: gs) (x :: xs)) e QU ↔ Run (g x) e fun _ e1 => Run (bAll gs xs) e1 QU := by
  rw [bAll, run_bnd]
theorem u_eSl : Run (eSl a lo hi) e Q ↔ Run a e fun x e1 => Run lo e1 fun l e2 => Run hi e2 fun h e3 => Run (peek x) e3 fun dx e4 => Run (Mo.lift (slF dx l h)) e4 Q := by simp only [eSl, run_bnd]
theorem u_partN : Run partN e QO ↔ QO none e := run_ret
theorem u_partS : Run (partS a) e QO ↔ Run a e fun r e1 => Run (peek r) e1 fun d e2 => match d with
    | .int i => QO (some i) e2
    | _ => False := by
  simp only [partS, run_bnd, run_lift]
  constructor
  · exact fun h => h.imp fun r e1 h => h.imp fun d e2 ⟨w, h1, h2⟩ => by cases d <;> cases h1; exact h2
  · exact fun h => h.imp fun r e1 h => h.imp fun d e2 h => by cases d <;> first | exact h.elim | exact ⟨_, rfl, h⟩
theorem l_addI {i j : Int} : Run (Mo.lift (addF (.int i) (.int j))) e Q ↔ Q (.d (.int (i + j))) e := u_liftE rfl
theorem l_subI {i j : Int} : Run (Mo.lift (subF (.int i) (.int j))) e Q ↔ Q (.d (.int (i - j))) e := u_liftE rfl
theorem l_ltI {i j : Int} : Run (Mo.lift (ltF (.int i) (.int j))) e Q ↔ Q (.d (.bool (decide (i < j)))) e := u_liftE rfl
theorem l_leI {i j : Int} : Run (Mo.lift (leF (.int i) (.int j))) e Q ↔ Q (.d (.bool (decide (i ≤ j)))) e := u_liftE rfl
theorem l_gtI {i j : Int} : Run (Mo.lift (gtF (.int i) (.int j))) e Q ↔ Q (.d (.bool (decide (j < i)))) e := u_liftE rfl
theorem l_geI {i j : Int} : Run (Mo.lift (geF (.int i) (.int j))) e Q ↔ Q (.d (.bool (decide (j ≤ i)))) e := u_liftE rfl
theorem l_eqI {i j : Int} : Run (Mo.lift (eqF (.int i) (.int j))) e Q ↔ Q (.d (.bool (i == j))) e := u_liftE rfl
theorem l_neI {i j : Int} : Run (Mo.lift (neF (.int i) (.int j))) e Q ↔ Q (.d (.bool (!(i == j)))) e := u_liftE rfl
theorem l_negI {i : Int} : Run (Mo.lift (negF (.int i))) e Q ↔ Q (.d (.int (-i))) e := u_liftE rfl
theorem l_notB {k : Bool} : Run (Mo.lift (notF (.bool k))) e Q ↔ Q (.d (.bool (!k))) e := u_liftE rfl
theorem l_lenT {xs : List PyData} : Run (Mo.lift (lenF [.tuple xs])) e Q ↔ Q (.d (.int (xs.length : Int))) e := u_liftE rfl
theorem l_lenL {xs : List PyData} : Run (Mo.lift (lenF [.list xs])) e Q ↔ Q (.d (.int (xs.length : Int))) e := u_liftE rfl
theorem l_tupL {xs : List PyData} : Run (Mo.lift (tupF [.list xs])) e Q ↔ Q (.d (.tuple xs)) e := u_liftE rfl
theorem l_tupT {xs : List PyData} : Run (Mo.lift (tupF [.tuple xs])) e Q ↔ Q (.d (.tuple xs)) e := u_liftE rfl
theorem l_lstL {xs : List PyData} : Run (Mo.lift (lstF [.list xs])) e Q ↔ Q (.fr xs) e := u_liftE rfl
theorem l_lstT {xs : List PyData} : Run (Mo.lift (lstF [.tuple xs])) e Q ↔ Q (.fr xs) e := u_liftE rfl
theorem l_at20 {x y : PyData} : Run (Mo.lift (ixF (.tuple [x, y]) (.int 0))) e Q ↔ Q (.d x) e := u_liftE rfl
theorem l_at21 {x y : PyData} : Run (Mo.lift (ixF (.tuple [x, y]) (.int 1))) e Q ↔ Q (.d y) e := u_liftE rfl
theorem l_seqL {xs : List PyData} {QP : List PyData → En → Prop} : Run (Mo.lift (seqOf (.list xs))) e QP ↔ QP xs e := u_liftE rfl
theorem l_seqT {xs : List PyData} {QP : List PyData → En → Prop} : Run (Mo.lift (seqOf (.tuple xs))) e QP ↔ QP xs e := u_liftE rfl
theorem l_isN {x : PyData} : Run (Mo.lift (isF x .none)) e Q ↔ Q (.d (.bool (isNonD x))) e := u_liftE (by cases x <;> rfl)
/-- what a call of a def that changes its first argument leaves -/
def MRun (o : Option (PyData × List PyData)) (k : PyData → List PyData → Prop) : Prop := ∃ z ys, o = some (z, ys) ∧ k z ys
theorem m_E {o : Option (PyData × List PyData)} {z : PyData} {ys : List PyData} {k : PyData → List PyData → Prop} (h : o = some (z, ys)) : MRun o k ↔ k z ys := by
  unfold MRun
  rw [h]
  constructor
  · rintro ⟨_, _, h, q⟩
    cases h
    exact q
  · exact fun q => ⟨_, _, rfl, q⟩
theorem u_callM2 {M : FM} {ds : List PyData} {r : Vl} : Run (callM M r ds) e Q ↔ match r with
    | .pk i => (match e[i]? with
      | some (.own xs) => MRun (M xs ds) fun z ys => Q (.d z) (e.set i (.own ys))
      | _ => False)
    | _ => False := by
  rw [run_callM]
  rfl
theorem m_app {xs : List PyData} {x : PyData} {k : PyData → List PyData → Prop} (h : xs.length < 1000000) : MRun (appendF xs [x]) k ↔ k .none (xs ++ [x]) := m_E (by unfold appendF; dsimp only; rw [if_pos (by omega)])
theorem asRet_d {x : PyData} : asRet (some (.ok (.rt (.d x)) e)) = some (.ret (.d x)) := rfl
theorem asRet_fr {xs : List PyData} : asRet (some (.ok (.rt (.fr xs)) e)) = some (.ret (.fr xs)) := rfl
theorem asRet_nx : asRet (some (.ok .nx e)) = some (.ret (.d .none)) := rfl
theorem asRetM_d {x : PyData} {ys : List PyData} : asRetM (some (.ok (.rt (.d x)) (.own ys :: e))) = some (x, ys) := rfl
theorem asRetM_nx {ys : List PyData} : asRetM (some (.ok .nx (.own ys :: e))) = some (.none, ys) := rfl
end
end L2.DL

namespace L2.DL
open PySem
/-! ### texts of choices: what is shown alike is alike -/
def cs (s : Str) : List Nat := s.cps.toList
theorem cs_inj {a b : Str} (h : cs a = cs b) : a = b := by
  cases a; cases b
  unfold cs at h
  congr 1
  exact Array.toList_inj.mp h
theorem cs_app (a b : Str) : cs (a ++ b) = cs a ++ cs b := by
  show (a.cps ++ b.cps).toList = _
  rw [Array.toList_append]; rfl
def joinC : List (List Nat) → List Nat
  | [] => []
  | [x] => x
  | x :: y :: r => x ++ 44 :: 32 :: joinC (y :: r)
theorem cs_join : ∀ ts : List Str, cs (Str.join ", " ts) = joinC (ts.map cs)
  | [] => rfl
  | [x] => rfl
  | x :: y :: r => by
    show cs (x ++ ", " ++ Str.join ", " (y :: r)) = _
    rw [cs_app, cs_app, cs_join (y :: r), show cs (", " : String) = [44, 32] from by decide +kernel]
    simp [joinC]
theorem mem_joinC {c : Nat} {t : List Nat} (hc : c ∈ t) : ∀ {ts : List (List Nat)}, t ∈ ts → c ∈ joinC ts
  | [x], h => by simp at h; subst h; exact hc
  | x :: y :: r, h => by
    unfold joinC
    rcases List.mem_cons.mp h with rfl | h
    · exact List.mem_append_left _ hc
    · exact List.mem_append_right _ (List.mem_cons_of_mem _ (List.mem_cons_of_mem _ (mem_joinC hc h)))
theorem shownAll_map : ∀ xs : List PyData, PyData.shownAll xs = xs.map PyData.shown
  | [] => rfl
  | x :: xs => by unfold PyData.shownAll; rw [shownAll_map xs]; rfl
def tailC (n : Nat) : List Nat := if n == 1 then [44, 41] else [41]
theorem cs_tuple (xs : List PyData) : cs (PyData.shown (.tuple xs)) = 40 :: (joinC (xs.map fun x => cs x.shown) ++ tailC xs.length) := by
  show cs (tupleText (PyData.shownAll xs)) = _
  unfold tupleText
  rw [cs_app, cs_app, cs_join, shownAll_map, List.map_map, List.length_map]
  rw [show cs (("(" : String) : Str) = [40] from by decide +kernel]
  unfold tailC
  have h : cs (((if xs.length == 1 then ",)" else ")" : String)) : Str) = if xs.length == 1 then [44, 41] else [41] := by
    split <;> decide +kernel
  rw [h]
  simp only [List.cons_append, List.nil_append, Function.comp_def]
def small (i : Int) : Bool := decide (-10 ≤ i ∧ i ≤ 10)
theorem small_cases {i : Int} (h : small i = true) : i = -10 ∨ i = -9 ∨ i = -8 ∨ i = -7 ∨ i = -6 ∨ i = -5 ∨ i = -4 ∨ i = -3 ∨ i = -2 ∨ i = -1 ∨ i = 0 ∨ i = 1 ∨ i = 2 ∨ i = 3 ∨ i = 4 ∨ i = 5 ∨ i = 6 ∨ i = 7 ∨ i = 8 ∨ i = 9 ∨ i = 10 := by
  unfold small at h
  simp at h
  omega
def intC : List (List Nat) := [[45, 49, 48], [45, 57], [45, 56], [45, 55], [45, 54], [45, 53], [45, 52], [45, 51], [45, 50], [45, 49], [48], [49], [50], [51], [52], [53], [54], [55], [56], [57], [49, 48]]
theorem cs_int {i : Int} (h : small i = true) : cs (PyData.shown (.int i)) = intC.getD (i + 10).toNat [] := by
  rcases small_cases h with rfl | rfl | rfl | rfl | rfl | rfl | rfl | rfl | rfl | rfl | rfl | rfl | rfl | rfl | rfl | rfl | rfl | rfl | rfl | rfl | rfl <;> decide +kernel
theorem cs_inj_int {i j : Int} (hi : small i = true) (hj : small j = true) (h : cs (PyData.shown (.int i)) = cs (PyData.shown (.int j))) : i = j := by
  rw [cs_int hi, cs_int hj] at h
  have key : ∀ a b : _root_.Fin 21, intC.getD a [] = intC.getD b [] → a = b := by decide +kernel
  have hi' : -10 ≤ i ∧ i ≤ 10 := by simpa [small] using hi
  have hj' : -10 ≤ j ∧ j ≤ 10 := by simpa [small] using hj
  have := key ⟨(i + 10).toNat, by omega⟩ ⟨(j + 10).toNat, by omega⟩ h
  have := congrArg Fin.val this
  dsimp at this
  omega
theorem int_nocomma {i : Int} (h : small i = true) : ∀ c ∈ cs (PyData.shown (.int i)), c ≠ 44 := by
  rw [cs_int h]
  have key : ∀ a : _root_.Fin 21, ∀ c ∈ intC.getD a [], c ≠ 44 := by decide +kernel
  have hi' : -10 ≤ i ∧ i ≤ 10 := by simpa [small] using h
  exact key ⟨(i + 10).toNat, by omega⟩
def clean (t : List Nat) : Prop := ∀ c ∈ t, c ≠ 44 ∧ c ≠ 41
theorem split_clean : ∀ {t u a b : List Nat}, clean t → clean u → (∃ a', a = 44 :: a' ∨ a = 41 :: a') → (∃ b', b = 44 :: b' ∨ b = 41 :: b') → t ++ a = u ++ b → t = u ∧ a = b
  | [], [], _, _, _, _, _, _, h => ⟨rfl, h⟩
  | [], y :: u, a, b, _, hu, ⟨a', ha⟩, _, h => by
    have := hu y (List.mem_cons_self ..)
    rcases ha with rfl | rfl <;> (simp at h; omega)
  | x :: t, [], a, b, ht, _, _, ⟨b', hb⟩, h => by
    have := ht x (List.mem_cons_self ..)
    rcases hb with rfl | rfl <;> (simp at h; omega)
  | x :: t, y :: u, a, b, ht, hu, ha, hb, h => by
    simp only [List.cons_append, List.cons.injEq] at h
    obtain ⟨h1, h2⟩ := split_clean (fun c hc => ht c (List.mem_cons_of_mem _ hc)) (fun c hc => hu c (List.mem_cons_of_mem _ hc)) ha hb h.2
    exact ⟨by rw [h.1, h1], h2⟩
theorem join_inj1 : ∀ {ts us : List (List Nat)}, (∀ t ∈ ts, clean t) → (∀ t ∈ us, clean t) → ts ≠ [] → us ≠ [] → joinC ts ++ [41] = joinC us ++ [41] → ts = us
  | [], _, _, _, h, _, _ => absurd rfl h
  | _, [], _, _, _, h, _ => absurd rfl h
  | [t], [u], ht, hu, _, _, h => by
    have := (split_clean (ht t (by simp)) (hu u (by simp)) ⟨[], .inr rfl⟩ ⟨[], .inr rfl⟩ h).1
    rw [this]
  | [t], u :: v :: r, ht, hu, _, _, h => by
    unfold joinC at h
    have h' : t ++ [41] = u ++ 44 :: 32 :: (joinC (v :: r) ++ [41]) := by simpa using h
    have := (split_clean (ht t (by simp)) (hu u (by simp)) ⟨[], .inr rfl⟩ ⟨_, .inl rfl⟩ h').2
    simp at this
  | t :: v :: r, [u], ht, hu, _, _, h => by
    unfold joinC at h
    have h' : t ++ 44 :: 32 :: (joinC (v :: r) ++ [41]) = u ++ [41] := by simpa using h
    have := (split_clean (ht t (by simp)) (hu u (by simp)) ⟨_, .inl rfl⟩ ⟨[], .inr rfl⟩ h').2
    simp at this
  | t :: v :: r, u :: v' :: r', ht, hu, _, _, h => by
    unfold joinC at h
    have h' : t ++ 44 :: 32 :: (joinC (v :: r) ++ [41]) = u ++ 44 :: 32 :: (joinC (v' :: r') ++ [41]) := by simpa using h
    obtain ⟨h1, h2⟩ := split_clean (ht t (by simp)) (hu u (by simp)) ⟨_, .inl rfl⟩ ⟨_, .inl rfl⟩ h'
    have h3 := join_inj1 (fun x hx => ht x (List.mem_cons_of_mem _ hx)) (fun x hx => hu x (List.mem_cons_of_mem _ hx)) (by simp) (by simp) (List.cons.inj (List.cons.inj h2).2).2
    rw [h1, h3]
theorem join_inj {ts us : List (List Nat)} (ht : ∀ t ∈ ts, clean t) (hu : ∀ t ∈ us, clean t) (hn : ts ≠ []) (hm : us ≠ []) (h : joinC ts ++ tailC ts.length = joinC us ++ tailC us.length) : ts = us := by
  match ts, us, hn, hm with
  | [t], [u], _, _ =>
    have := (split_clean (ht t (by simp)) (hu u (by simp)) ⟨_, .inl rfl⟩ ⟨_, .inl rfl⟩ h).1
    rw [this]
  | [t], u :: v :: r, _, _ =>
    have h' : t ++ [44, 41] = u ++ 44 :: 32 :: (joinC (v :: r) ++ [41]) := by simpa [joinC, tailC] using h
    have := (split_clean (ht t (by simp)) (hu u (by simp)) ⟨_, .inl rfl⟩ ⟨_, .inl rfl⟩ h').2
    simp at this
  | t :: v :: r, [u], _, _ =>
    have h' : t ++ 44 :: 32 :: (joinC (v :: r) ++ [41]) = u ++ [44, 41] := by simpa [joinC, tailC] using h
    have := (split_clean (ht t (by simp)) (hu u (by simp)) ⟨_, .inl rfl⟩ ⟨_, .inl rfl⟩ h').2
    simp at this
  | t :: v :: r, u :: v' :: r', _, _ =>
    exact join_inj1 ht hu (by simp) (by simp) (by simpa [tailC] using h)
/-! what each kind of value has in its text -/
theorem join_clean {ts : List (List Nat)} {n : Nat} (ht : ∀ t ∈ ts, ∀ c ∈ t, 48 ≤ c ∧ c ≤ 57) : ∀ c ∈ joinC ts ++ tailC n, c = 44 ∨ c = 32 ∨ c = 41 ∨ (48 ≤ c ∧ c ≤ 57) := by
  have key : ∀ ts : List (List Nat), (∀ t ∈ ts, ∀ c ∈ t, 48 ≤ c ∧ c ≤ 57) → ∀ c ∈ joinC ts, c = 44 ∨ c = 32 ∨ (48 ≤ c ∧ c ≤ 57) := by
    intro ts
    induction ts with
    | nil => intro _ c h; cases h
    | cons x r ih =>
      intro ht c h
      cases r with
      | nil => exact .inr (.inr (ht x (by simp) c h))
      | cons y r =>
        unfold joinC at h
        rcases List.mem_append.mp h with h | h
        · exact .inr (.inr (ht x (by simp) c h))
        · rcases List.mem_cons.mp h with h | h
          · exact .inl h
          · rcases List.mem_cons.mp h with h | h
            · exact .inr (.inl h)
            · exact ih (fun t h => ht t (List.mem_cons_of_mem _ h)) c h
  intro c h
  rcases List.mem_append.mp h with h | h
  · rcases key ts ht c h with h | h | h
    · exact .inl h
    · exact .inr (.inl h)
    · exact .inr (.inr (.inr h))
  · unfold tailC at h
    split at h <;> simp at h <;> omega
def natT (l : List Nat) : PyData := .tuple (l.map fun (i : Nat) => .int (i : Int))
def badC (c : Nat) : Prop := ¬ (c = 44 ∨ c = 32 ∨ c = 41 ∨ (48 ≤ c ∧ c ≤ 57))
theorem bad_of {d : PyData} (hd : ∀ i, d = .int i → small i = true ∧ i < 0) (hk : ∀ kvs, d ≠ .dict kvs) : ∃ c ∈ cs d.shown, badC c := by
  cases d with
  | none => exact ⟨78, by decide +kernel, by unfold badC; omega⟩
  | bool b => exact ⟨101, by cases b <;> decide +kernel, by unfold badC; omega⟩
  | int i =>
    obtain ⟨h1, h2⟩ := hd i rfl
    refine ⟨45, ?_, by unfold badC; omega⟩
    rw [cs_int h1]
    rcases small_cases h1 with rfl | rfl | rfl | rfl | rfl | rfl | rfl | rfl | rfl | rfl | rfl | rfl | rfl | rfl | rfl | rfl | rfl | rfl | rfl | rfl | rfl <;> first | decide | omega
  | str x =>
    refine ⟨reprQuote x, ?_, ?_⟩
    · unfold PyData.shown reprText cs
      simp
    · unfold reprQuote badC
      split <;> simp <;> decide
  | list xs =>
    refine ⟨93, ?_, by unfold badC; omega⟩
    unfold PyData.shown listText
    rw [cs_app]
    exact List.mem_append_right _ (by decide +kernel)
  | tuple xs =>
    refine ⟨40, ?_, by unfold badC; omega⟩
    rw [cs_tuple]
    exact List.mem_cons_self ..
  | dict kvs => exact absurd rfl (hk kvs)
/-- a tuple of small things that is shown as a choice is this choice -/
theorem shown_natT {xs : List PyData} {l : List Nat} (hl : ∀ i ∈ l, i < 10) (hn : l ≠ []) (hx : ∀ x ∈ xs, (∀ i, x = .int i → small i = true) ∧ ∀ kvs, x ≠ .dict kvs) (h : PyData.shown (.tuple xs) = PyData.shown (natT l)) : PyData.tuple xs = natT l := by
  have h1 : cs (PyData.shown (.tuple xs)) = cs (PyData.shown (natT l)) := by rw [h]
  unfold natT at h1
  rw [cs_tuple, cs_tuple, List.map_map, List.length_map] at h1
  have h2 := (List.cons.inj h1).2
  have sm : ∀ i ∈ l, small (i : Int) = true := fun i hi => by have := hl i hi; unfold small; simp; omega
  have dig : ∀ i ∈ l, ∀ c ∈ cs (PyData.shown (.int (i : Int))), 48 ≤ c ∧ c ≤ 57 := by
    intro i hi
    rw [cs_int (sm i hi)]
    have key : ∀ a : _root_.Fin 10, ∀ c ∈ intC.getD (((a : Nat) : Int) + 10).toNat [], 48 ≤ c ∧ c ≤ 57 := by decide +kernel
    exact key ⟨i, hl i hi⟩
  have right : ∀ c ∈ joinC (l.map ((fun x => cs x.shown) ∘ fun (i : Nat) => PyData.int (i : Int))) ++ tailC l.length, c = 44 ∨ c = 32 ∨ c = 41 ∨ (48 ≤ c ∧ c ≤ 57) := join_clean fun t ht => by
    obtain ⟨i, hi, rfl⟩ := List.mem_map.mp ht
    exact dig i hi
  have intsX : ∀ x ∈ xs, ∃ i : Int, x = .int i ∧ small i = true ∧ 0 ≤ i := by
    intro x hm
    obtain ⟨g1, g2⟩ := hx x hm
    by_cases hi : ∃ i : Int, x = .int i ∧ 0 ≤ i
    · obtain ⟨i, rfl, h0⟩ := hi
      exact ⟨i, rfl, g1 i rfl, h0⟩
    · exfalso
      obtain ⟨c, hc, hb⟩ := bad_of (d := x) (fun i e => ⟨g1 i e, by
        by_cases h0 : 0 ≤ i
        · exact absurd ⟨i, e, h0⟩ hi
        · omega⟩) g2
      refine hb (right c ?_)
      rw [← h2]
      exact List.mem_append_left _ (mem_joinC hc (List.mem_map.mpr ⟨x, hm, rfl⟩))
  have ne : xs ≠ [] := by
    rintro rfl
    have := right
    cases l with
    | nil => exact hn rfl
    | cons i l =>
      have hd := cs_int (sm i (by simp))
      cases l with
      | nil =>
        have : (joinC ([i].map ((fun x => cs x.shown) ∘ fun (i : Nat) => PyData.int (i : Int))) ++ tailC 1).length = 1 := by
          rw [show [i].length = 1 from rfl] at h2
          rw [← h2]; rfl
        simp [tailC] at this
      | cons j l =>
        have : (joinC ((i :: j :: l).map ((fun x => cs x.shown) ∘ fun (i : Nat) => PyData.int (i : Int))) ++ tailC (i :: j :: l).length).length = 1 := by
          rw [← h2]; rfl
        simp [joinC, tailC] at this
        omega
  have e := join_inj (ts := xs.map fun x => cs x.shown) (us := l.map ((fun x => cs x.shown) ∘ fun (i : Nat) => PyData.int (i : Int))) (fun t ht => by
      obtain ⟨x, hm, rfl⟩ := List.mem_map.mp ht
      obtain ⟨i, rfl, hs, h0⟩ := intsX x hm
      have key : ∀ a : _root_.Fin 11, ∀ c ∈ intC.getD (((a : Nat) : Int) + 10).toNat [], c ≠ 44 ∧ c ≠ 41 := by decide +kernel
      have hs' : -10 ≤ i ∧ i ≤ 10 := by simpa [small] using hs
      have := key ⟨i.toNat, by omega⟩
      intro c hc
      rw [cs_int hs] at hc
      refine this c ?_
      have e : ((i.toNat : Nat) : Int) = i := Int.toNat_of_nonneg h0
      dsimp only
      rw [e]
      exact hc) (fun t ht => by
      obtain ⟨i, hi, rfl⟩ := List.mem_map.mp ht
      intro c hc
      have := dig i hi c hc
      omega) (by simpa using ne) (by simpa using hn) (by simpa using h2)
  unfold natT
  congr 1
  have hlen : xs.length = l.length := by simpa using congrArg List.length e
  apply List.ext_getElem (by simpa using hlen)
  intro k hk1 hk2
  have ek := List.getElem_of_eq e (i := k) (by simpa using hk1)
  simp only [List.getElem_map, Function.comp_apply] at ek ⊢
  obtain ⟨i, hi, hs, h0⟩ := intsX xs[k] (List.getElem_mem hk1)
  rw [hi] at ek ⊢
  rw [cs_inj_int hs (sm _ (List.getElem_mem (by omega))) ek]
end L2.DL

namespace PySem
namespace OwnX
open PySem.W PySem.Calls PyProof.Rows PySem.HandSPX
/-! ### an own exception whose class' __init__ says super().__init__('..') and keeps its value -/
def iA (p1 p2 : Pos) : Arguments := { posonlyargs := [], args := [{ arg := "self", annotation := none, pos := p1 }, { arg := "value", annotation := none, pos := p2 }], vararg := none, kwonlyargs := [], kw_defaults := [], kwarg := none, defaults := [] }
def iB (txt : Str) (a1 a2 a3 a4 a5 a6 q1 q2 q3 q4 : Pos) : List Stmt :=
  [.Expr (.Call (.Attribute (.Call (.Name "super" a1) [] [] a2) "__init__" a3) [.Constant (.str txt) 0 a4] [] a5) a6, .Assign [.Attribute (.Name "self" q1) "value" q2] (.Name "value" q3) q4]
def iS : Scope := { kind := .function, names := [(PySem.Str.ofString "self", .local), (PySem.Str.ofString "value", .local), (PySem.Str.ofString "__class__", .free), (PySem.Str.ofString "super", .globalImplicit)], isGenerator := false, isCoroutine := false, more := [] }
/-- what the written part says of the class C, of the class D that has the __init__, and of that one, at fI; cc: its cell, cda: its code -/
structure OwnTxt (prog : Program) (K : Frag) (C D fI cc cda : Addr) (qn txt : Str) : Prop where
  cls : ∃ nm q N bs bm sn sub ab col dd k0 k1 k2 k3 k5, K.lookup C = some (excClassObj nm q C N bs bm true sn sub ab col dd k0 k1 k2 k3 k5 "ValueError.__new__") ∧ refsVE bm = true
  sa : findIn K (.ref C) "__setattr__" = some (some (.builtin "object.__setattr__"))
  noN : findIn K (.ref C) "value" = some none
  iC : findIn K (.ref C) "__init__" = some (some (.ref fI))
  tC : typeIn K (.ref fI) = some (.type "function")
  fn : ∃ (oc : Value) (od : Option Addr) (doc pm : Value) (an : Option Addr) (ct : Value) (osl : Array (Option Value)) (p1 p2 a1 a2 a3 a4 a5 a6 q1 q2 q3 q4 : Pos),
    K.lookup fI = some ⟨oc, od, .func (fnX "__init__" qn (iA p1 p2) (iB txt a1 a2 a3 a4 a5 a6 q1 q2 q3 q4) iS [("__class__", cc)] .none .none doc pm an (.ref cda) ct), osl⟩ ∧ codeIn K (.ref cda) qn = true ∧ (a3.endLine == a5.line) = true
  code : ∃ (ccl : Value) (cdd : Option Addr) (vs : Array Value) (ccs : Array (Option Value)) (file : Str) (tf : Tok), K.lookup cda = some ⟨ccl, cdd, .fields vs, ccs⟩ ∧ vs[2]? = some (.str file tf) ∧ ((prog.main.file : Str) == file) = true
  cell : ∃ (cl : Value) (cld : Option Addr) (csl : Array (Option Value)), K.lookup cc = some ⟨cl, cld, .cell (some (.ref D)), csl⟩
  hD : ∃ cdD, clsIn K D = some cdD
  hsub : mroIn K C (.ref D) = some true
  htop : (prog.main.scope.names.lookup ("super" : Str)).isSome = false
  tp : nsIn K cStatics "thirdparty.any" = some none
  sup : ks_superIn K C D "__init__" = some (some (.builtin "ValueError.__init__"))
  sVE : subIn K (.ref C) (.type "ValueError") = some true
/-- what __init__ leaves of a fresh exception at x -/
structure InitEnd (h h' : Heap) (x C dx t1 : Addr) (v : Value) : Prop where
  keep : ∀ b o, b ≠ x → h.get? b = some o → h'.get? b = some o
  obj : h'.get? x = some { cls := .ref C, dict := some dx, data := .fields #[.ref t1, .none, .none, .none, .bool false, .none] }
  dbig : h.objs.size ≤ dx
  dne : dx ≠ x
  ns : h'.Ns1 dx (fun y => if y = "value" then some v else none)
/-- a made exception -/
structure OwnMade (h h' : Heap) (e C d : Addr) (v : Value) : Prop where
  keep : ∀ b o, h.get? b = some o → h'.get? b = some o
  new : h.objs.size ≤ e
  obj : ∃ oe vs, h'.get? e = some oe ∧ oe.cls = .ref C ∧ oe.dict = some d ∧ oe.data = .fields vs ∧ vs[1]? = some .none
  dbig : h.objs.size ≤ d
  dne : d ≠ e
  ns : h'.Ns1 d (fun y => if y = "value" then some v else none)
theorem iS_cell : ∀ y ∈ iS.names, y.2 ≠ .cell := by decide +kernel
theorem iS_loc (a b : Value) : ∀ y ∈ [(("self" : Str), a), (("value" : Str), b)], iS.names.lookup y.1 = some .local := by
  intro y hy
  rcases List.mem_cons.mp hy with rfl | hy
  · rfl
  · rw [List.mem_singleton.mp hy]; rfl
theorem one_size (v : Value) : [v].length ≤ sizeLine := by
  rw [sizeLine_eq]
  exact (by decide : 1 ≤ 16777216)
theorem ldE {M : Model} {s : Shared} {env : Env} {m : Str → Option Value} {x : Str} {pos : Pos} {v : Value} {Q : Value → Shared → Prop} {A : Around} {E : Value → Shared → Prop} (hk : env.scope.kind = .function) (hl : env.kindOf x = some .local)
    (hn : s.heap.Ns env.locals m) (hv : m x = some v) (h : Q v s) (hd : (x == ("__debug__" : Str)) = false := by decide) :
    wpAny M A (eval (.Name x pos) env) Q E s := wpAny_Name (wpAny_loadName_local hk hl hn hv h) hd
theorem he_call {txt : Str} {a1 a2 a3 a4 a5 : Pos} {env : Env} (hpos : (a3.endLine == a5.line) = true) : eval (.Call (.Attribute (.Call (.Name "super" a1) [] [] a2) "__init__" a3) [.Constant (.str txt) 0 a4] [] a5) env = (do
      let ov ← attributeBase (.Call (.Name "super" a1) [] [] a2) "__init__" env (eval (.Call (.Name "super" a1) [] [] a2) env)
      standAt a3.atName
      let (f, first) ← holding [ov] (getMethod ov "__init__" (do return (← importBound (.Call (.Name "super" a1) [] [] a2) env).getD true))
      callWith a5 f first (backTo a5 (starEach [.Constant (.str txt) 0 a4] env)) []) := by
  show (attributeBase (.Call (.Name "super" a1) [] [] a2) "__init__" env (eval (.Call (.Name "super" a1) [] [] a2) env) >>= fun ov => standAt a3.atName >>= fun _ => holding [ov] (getMethod ov "__init__" (do return (← importBound (.Call (.Name "super" a1) [] [] a2) env).getD true)) >>= fun r => (if (!true || a3.endLine == a5.line) = true then (pure a5 : Sem Pos) else _) >>= fun p => callWith p r.1 r.2 (backTo a5 (starEach [.Constant (.str txt) 0 a4] env)) []) = _
  rw [hpos]
  rfl
section
variable {prog : Program} {w : World} {A : Around} {E : Value → Shared → Prop} {R : Result → Shared → Prop} {s : Shared} {K : Frag} {mg mb : Str → Option Value} {C D fI cc cda : Addr} {qn txt : Str}
/-- super().__init__ called: the args are laid anew -/
theorem call_mw {x C t0 u : Addr} {rest : List Value} {Q : Value → Shared → Prop} {nm q : Str} {N : Addr} {bs bm : List Value} {hdct : Bool} {sn : List Str} {sub : List Value} {ab : Bool} {col : Option Bool} {dd : Option Addr} {k0 k1 k2 k3 k5 : Option Value}
    (hC : s.heap.get? C = some (excClassObj nm q C N bs bm hdct sn sub ab col dd k0 k1 k2 k3 k5 "ValueError.__new__")) (hu : s.heap.get? u = some (kxs_mw "ValueError.__init__" x)) (he : s.heap.get? x = some (excO C t0)) (hz : rest.length ≤ sizeLine)
    (h : ∀ h' t', (∀ b o, b ≠ x → s.heap.get? b = some o → h'.get? b = some o) → h'.get? x = some (excO C t') → Q .none { s with heap := h' }) :
    wpAny (model prog w) A (call (.ref u) rest) Q E s := by
  obtain ⟨hh, g, d, tk, os⟩ := s
  have FB := F.excBase_ValueError
  refine wpAny_call (codeAny_of_tree ?_)
  show wpAny _ A.in1 (callAny (.ref u) ⟨rest, []⟩) _ _ _
  simp only [callAny]
  refine wpAny_bind (wpAny_load hu ?_)
  simp only [kxs_mw, show (Value.type "method-wrapper" == Value.type "method" || Value.type "method-wrapper" == Value.type "builtin_function_or_method" || Value.type "method-wrapper" == Value.type "method-wrapper") = true by decide, if_true]
  refine KFB.if_so (by decide) ?_
  refine wpAny_bind (check_bound_init FB.toExcCallFacts hC he rfl ?_)
  refine wpAny_bind (wpAny_pure (wpAny_pure ?_))
  refine ⟨plainId_quiet FB.init.plain _, codeAny_builtin FB.initEntry ?_⟩
  exact exc_init_tree (cls := .ref C) (t0 := t0) (dv := none) (c2 := .none) (c3 := .none) (b4 := .bool false) he hz fun h' k e' _ => h h' _ k e'
theorem own_init (T : OwnTxt prog K C D fI cc cda qn txt) {x t0 : Addr} {v : Value} (X : K.In s.heap) (hlim : s.heap.NoLimit) (hg : s.heap.Ns mainGlobals mg) (hms : mg "super" = none) (hb : s.heap.Ns builtinsNs mb) (hbs : mb "super" = some (.type "super"))
    (hx : s.heap.get? x = some (excO C t0)) (hnx : K.lookup x = none) (hroom : A.depth < recursionLimit)
    (hq : ∀ h' tk dx t1, InitEnd s.heap h' x C dx t1 v → R (.ok (.ret .none)) { s with heap := h', toks := tk }) :
    codeAny (model prog w) A (.call (.ref fI) ⟨[.ref x, v], []⟩) R s := by
  obtain ⟨oc, od, doc, pm, an, ct, osl, p1, p2, a1, a2, a3, a4, a5, a6, q1, q2, q3, q4, ho, hcd, hpos⟩ := T.fn
  obtain ⟨nm, q, N, bs, bm, sn, sub, ab, col, dd, k0, k1, k2, k3, k5, hC, hbm⟩ := T.cls
  have hcl : clsIn K C = some { name := nm, bases := bs, mro := .ref C :: bm, ns := N, qualname := q, hasDict := true, slotNames := sn, subclasses := sub, abstract := ab, collection := col, hasDel := false } := by unfold clsIn; rw [hC] <;> rfl
  refine ks_codeAny_call_defAt (body := iB txt a1 a2 a3 a4 a5 a6 q1 q2 q3 q4) (binds := [("self", .ref x), ("value", v)]) hroom (X _ _ ho) rfl hlim (codeRec_of X hcd) rfl (BindsTo.of_eq (by first | rfl | with_unfolding_all rfl)) iS_cell (iS_loc _ _) (fun h₁ hn k => ?_) rfl rfl rfl
  have hxL : s.heap.objs.size ≠ x := Nat.ne_of_gt (Heap.lt_size hx)
  have X₁ : K.In h₁ := X.keeps k
  have hx₁ := k _ _ hx
  obtain ⟨ccl, cdd, vs, ccs, file, tf, hcode, hvs, hfile⟩ := T.code
  obtain ⟨cl, cld, csl, hcell⟩ := T.cell
  obtain ⟨cdD, hD⟩ := T.hD
  obtain ⟨oD, hD1, hD2⟩ : ∃ oD, h₁.get? D = some oD ∧ oD.data = .cls cdD := by
    unfold clsIn at hD
    split at hD
    · rename_i c d cd' sl hoD
      cases hD
      exact ⟨_, X₁ _ _ hoD, rfl⟩
    · cases hD
  -- super().__init__(txt)
  refine ks_wpAt_execs_cons (ks_wpAt_Expr_any (ks_wpAt_MethodCall ?_ (he_call hpos)))
  refine ks_wpAt_super_base (env := callEnv (fnX "__init__" qn (iA p1 p2) (iB txt a1 a2 a3 a4 a5 a6 q1 q2 q3 q4) iS [("__class__", cc)] .none .none doc pm an (.ref cda) ct) s.heap.objs.size fI) rfl rfl rfl rfl (X₁ _ _ ho) rfl rfl rfl (X₁ _ _ hcode) rfl hvs hfile T.htop ?_
  refine ks_loadName_global rfl rfl (loadGlobal_builtin (hg.keeps k) hms (hb.keeps k) hbs ⟨rfl, ?_⟩)
  refine wpAny_loadName_free rfl rfl rfl ⟨_, X₁ _ _ hcell, rfl⟩ ?_
  refine wpAny_loadName_local rfl rfl hn (by first | rfl | with_unfolding_all rfl | kernel_rfl) ?_
  refine ks_wpAny_isType_cls hD1 hD2 ⟨rfl, ?_⟩
  refine ks_wpAny_call_super hD1 hD2 hx₁ rfl (fun c e => by cases e) (looks_mroIn X₁ T.hsub) (fun h₂ e₂ k₂ => ?_)
  have X₂ : K.In h₂ := X₁.keeps k₂
  have hx₂ := k₂ _ _ hx₁
  have I₂ : InstAt h₂ x (excO C t0) C none := ⟨hx₂, rfl, rfl, trivial⟩
  have hsup : alongIn K "__init__" ((((Value.ref C :: bm)).dropWhile (· != .ref D)).drop 1) = some (some (.builtin "ValueError.__init__")) := by
    have := T.sup
    unfold ks_superIn at this
    rw [hcl] at this
    exact this
  refine kxs_getMethod kxs_ValueError e₂ (looks_opaque X₂ T.tp) (l₀ := .ref C :: bm) (fun A Q E s k q => wpAny_bind ((looks_clsIn X₂ hcl) A _ E s k (wpAny_pure q))) rfl X₂ hsup (I₂.type.andThen (looks_subIn X₂ T.sVE)) (ks_ne X₂ I₂ hcl) (by decide) ?_
  have k₃ : ∀ b o, h₂.get? b = some o → (h₂.push (kxs_mw "ValueError.__init__" x)).get? b = some o := fun b o e => Heap.get?_push_of_some _ e
  have hu : (h₂.push (kxs_mw "ValueError.__init__" x)).get? h₂.objs.size = some (kxs_mw "ValueError.__init__" x) := Heap.get?_push_at rfl rfl
  have up : ∀ b o, s.heap.get? b = some o → h₂.get? b = some o := fun b o e => k₂ b o (k b o e)
  have nu : s.heap.get? h₂.objs.size = none := by
    cases z : s.heap.get? h₂.objs.size with
    | none => rfl
    | some o => exact absurd (Heap.lt_size (up _ _ z)) (Nat.lt_irrefl _)
  obtain ⟨oL, es, ep, hL, hr⟩ := hn
  have nL : h₂.objs.size ≠ s.heap.objs.size := fun z => by
    have := Heap.lt_size (k₂ _ _ hL)
    rw [z] at this
    exact absurd this (Nat.lt_irrefl _)
  refine kxs_callWith1 (i := "ValueError.__init__") (x := x) (u := h₂.objs.size) (h₀ := s.heap) (L := s.heap.objs.size) (news := [(h₂.objs.size, kxs_mw "ValueError.__init__" x)]) (fun p hp => by rw [List.mem_singleton.mp hp]; exact ⟨hu, nL, nu⟩) (List.mem_singleton.mpr rfl) ?_
  refine spliced_more (wpAny_Constant_str (spliced_none ⟨hu, ?_⟩))
  refine call_mw (C := C) (t0 := t0) (X₂.keeps k₃ _ _ hC) hu (k₃ _ _ hx₂) (one_size _) fun h₄ t1 k₄ hx₄ => ?_
  -- self.value = value
  have all : ∀ b o, b ≠ x → h₁.get? b = some o → h₄.get? b = some o := fun b o hb e => k₄ b o hb (k₃ _ _ (k₂ _ _ e))
  have X₄ : K.In h₄ := fun a o e => all a o (fun z => by rw [z, hnx] at e; cases e) (X₁ a o e)
  have hn₄ : h₄.Ns s.heap.objs.size _ := ⟨oL, es, ep, all _ _ hxL hL, hr⟩
  refine ks_wpAt_execs_cons (ks_wpAt_Assign_Attr (wpAt_of_wpAny ?_))
  refine ldE rfl rfl hn₄ (by first | rfl | with_unfolding_all rfl | kernel_rfl) (ldE rfl rfl hn₄ (by first | rfl | with_unfolding_all rfl | kernel_rfl) ?_)
  refine set_plain X₄ (ox := excO C t1) (od := none) ⟨hx₄, rfl, rfl, trivial⟩ T.sa ?_
  refine exc_osa X₄ hx₄ hcl (show refsVE (.ref C :: bm) = true from hbm) rfl T.noN (fun h₅ tk₅ dx k₅ dn dne hx₅ hn₅ => ?_)
  have z0 : s.heap.objs.size < h₁.objs.size := Heap.lt_size hL
  have z1 : s.heap.objs.size < h₄.objs.size := Heap.lt_size (all _ _ hxL hL)
  exact wpAt_of_wpAny (wpAny_execs_nil (hq h₅ tk₅ dx t1 ⟨fun b o hb e => k₅ b o hb (all b o hb (k b o e)), hx₅, Nat.le_of_lt (Nat.lt_of_lt_of_le z1 dn), dne, hn₅⟩))
theorem own_made (T : OwnTxt prog K C D fI cc cda qn txt) {v : Value} (X : K.In s.heap) (hlim : s.heap.NoLimit) (hg : s.heap.Ns mainGlobals mg) (hms : mg "super" = none) (hb : s.heap.Ns builtinsNs mb) (hbs : mb "super" = some (.type "super")) (hroom : A.depth + 1 < recursionLimit)
    (hq : ∀ h' tk e d, OwnMade s.heap h' e C d v → R (.ok (.ret (.ref e))) { s with heap := h', toks := tk }) :
    codeAny (model prog w) A (.call (.ref C) ⟨[v], []⟩) R s := by
  obtain ⟨nm, q, N, bs, bm, sn, sub, ab, col, dd, k0, k1, k2, k3, k5, hC, hbm⟩ := T.cls
  obtain ⟨hp, g, dr, tk, os⟩ := s
  have k : ∀ b o, hp.get? b = some o → ((hp.push (kdv_tup [v])).push (excO C hp.objs.size)).get? b = some o := fun b o e => Heap.get?_push_of_some _ (Heap.get?_push_of_some _ e)
  have hget : ((hp.push (kdv_tup [v])).push (excO C hp.objs.size)).get? (hp.objs.size + 1) = some (excO C hp.objs.size) := by heap_get
  have hnx : K.lookup (hp.objs.size + 1) = none := by
    cases e : K.lookup (hp.objs.size + 1) with
    | none => rfl
    | some o =>
      have z : hp.get? (hp.objs.size + 1) = some o := X _ _ e
      exact absurd (Nat.lt_of_succ_lt (Heap.lt_size z)) (Nat.lt_irrefl _)
  refine call_own F.excBase_ValueError (fun X => refsVE_contains X bm hbm) (X _ _ hC) (looks_findIn X T.iC) (fun self => bind_fn X self T.tC) (one_size v) ?_
  refine own_init (s := ⟨(hp.push (kdv_tup [v])).push (excO C hp.objs.size), g, dr, tk, os⟩) T (X.keeps k) (hlim.keeps k) (hg.keeps k) hms (hb.keeps k) hbs hget hnx ?_ fun h' tk' dx t1 ⟨k', hx, dn, dne, hns⟩ => ?_
  · show A.depth + 1 < recursionLimit
    exact hroom
  · have old : ∀ b o, hp.get? b = some o → h'.get? b = some o := fun b o e => k' b o (Nat.ne_of_lt (Nat.lt_succ_of_lt (Heap.lt_size e))) (k b o e)
    have z : hp.objs.size + 1 + 1 ≤ dx := by
      first
        | (simpa only [Heap.size_push] using dn)
        | exact dn
        | (have q := dn; rw [Heap.size_push, Heap.size_push] at q; exact q)
    exact ⟨rfl, hq h' tk' (hp.objs.size + 1) dx ⟨old, Nat.le_succ _, ⟨_, _, hx, rfl, rfl, rfl, rfl⟩, Nat.le_trans (Nat.le_trans (Nat.le_succ _) (Nat.le_succ _)) z, dne, hns⟩⟩
end
end OwnX
end PySem

namespace L2.DL
open PySem PySem.Spec PyProof.Rows
/-! ### try: .. except X as n: y = n : the caught error is kept in y and tracked from then on -/
/-- a caught error at a: its class, its own dict -/
def ExK (cls : Value) (d : Option Addr) (a : Addr) : HO := .ext fun h => ∃ (oe : Obj) (vs : Array Value), h.get? a = some oe ∧ Zc cls d oe ∧ oe.data = .fields vs
theorem exK_ok {P : Program} {w : World} {H : Hp} {h : Heap} {a : Addr} {cls : Value} {d : Option Addr} {oe : Obj} {vs : Array Value} (e : h.get? a = some oe) (z : Zc cls d oe) (q : oe.data = .fields vs) : ObjOk P w H h a (ExK cls d a) :=
  ⟨⟨oe, vs, e, z, q⟩, ⟨oe, e⟩, fun _ _ ⟨o, v, q1, r⟩ k => ⟨o, v, k o q1, r⟩⟩
section
variable {X : Cx} {pins : List (Addr × Obj)} {σ : St} {H : Hp} {s : Shared}
theorem upd_of_none {H : Hp} {a b : Addr} {o u : HO} (n : H a = none) (e : H b = some u) : upd H a o b = some u := by
  rw [upd_ne (fun z => by rw [z, n] at e; cases e)]
  exact e
/-- an object that stands there already, not there at the entry, is tracked from now on -/
theorem inv_track {a : Addr} {o : HO} (I : Inv X pins σ H s) (n : H a = none) (new0 : X.s_0.heap.get? a = none) (nl : a ≠ X.env.locals) (nc : ∀ x c, X.env.cells.lookup x = some c → c ≠ a) (np : ∀ p ∈ X.pn ++ pins, p.1 ≠ a) (ok : ObjOk X.prog X.w (upd H a o) s.heap a o) :
    Inv X pins σ (upd H a o) s where
  ok := I.ok
  os := I.os
  bare := I.bare
  base := {
    keep := I.base.keep
    slot := I.base.slot
    free := fun b u q m x => by rw [upd_ne (fun z => by rw [z, new0] at q; cases q)]; exact I.base.free b u q m x
    there := I.base.there
    tups := fun b xs q => upd_of_none n (I.base.tups b xs q)
    frzs := fun b u v q => upd_of_none n (I.base.frzs b u v q)
    tbls := fun b ps q => (I.base.tbls b ps q).imp fun more e => upd_of_none n e }
  loc := I.loc
  cell := I.cell
  free := by rw [upd_ne (Ne.symm nl)]; exact I.free
  freeC := fun x c e => by rw [upd_ne (nc x c e)]; exact I.freeC x c e
  pin := fun p hp => by
    obtain ⟨e1, e2, e3⟩ := I.pin p hp
    exact ⟨e1, by rw [upd_ne (np p hp)]; exact e2, e3⟩
  hok := fun b u e => by
    by_cases hb : b = a
    · subst hb
      rw [upd_same] at e
      cases e
      exact ok
    · rw [upd_ne hb] at e
      exact (I.hok b u e).stay (fun c v _ q => q) (fun c q => upd_of_none n q) fun c xs q => upd_of_none n q
  len := I.len
/-- the suite's context, without a pin of its own -/
theorem inv_suite {a : Addr} (I : Inv X pins σ H s) : Inv (X.suite a (X.pn ++ pins)) [] σ H s :=
  ⟨I.ok.suite a _, I.os, I.bare, I.base, I.loc, I.cell, I.free, I.freeC, fun p hp => I.pin p (by simpa using hp), I.hok, I.len⟩
theorem inv_unsuite {a : Addr} {σ' : St} {H' : Hp} {s' : Shared} (ok : X.Ok) (I : Inv (X.suite a (X.pn ++ pins)) [] σ' H' s') : Inv X pins σ' H' s' :=
  ⟨ok, I.os, I.bare, I.base, I.loc, I.cell, I.free, I.freeC, fun p hp => I.pin p (by simpa using hp), I.hok, I.len⟩
end
/-- the wish for an error of the body -/
def wKeep (K : PySem.W.Frag) (c : Value) (i y n : Nat) (D : Ends) : WX := fun cls d σ H =>
  PySem.W.exmOne K cls c = some true ∧ (σ.length = n → ∀ a, H a = none → D.nx (((σ.set i (some (.ref a))).set y (some (.ref a))).set i none) (upd H a (ExK cls d a)))
section
variable {X : Cx} {x n m : Str} {c : Value} {i y : Nat} {body : List Stmt} {np pos pos' p1 p2 p3 : Pos} {tb : WX → TS}
theorem ps_try_keep (hs : X.stack = X.env :: X.outer) (hf : X.env.frame = some X.env.locals) (hex : X.ex = []) (hcl : X.env.cells = []) (hpn : X.pn = []) (hN : X.N.Nodup) (hi : X.N[i]? = some n) (hln : X.env.kindOf n = some .local) (hy : X.N[y]? = some m) (hym : X.env.scope.names.lookup m = some .local) (hc : Names X x c)
    (hb : ∀ (W : WX) (pn : List (Addr × Obj)) (xe : Value → Shared → Prop), Takes (X.tr pn xe) W → PassesOwn (model X.prog X.w) X.A X.env xe → PSs (X.tr pn xe) body (tb W))
    (hsw : swapsWith (.Name n p2) (some (.Name m p1)) p3.line X.env = pure false := by rfl) (hd : (n == ("__debug__" : Str)) = false := by decide) (hcd : (n == ("__classdict__" : Str)) = false := by decide) :
    PS X (.Try body [.ExceptHandler (some (.Name x np)) (some n) [.Assign [.Name m p1] (.Name n p2) p3] pos'] [] [] pos) (fun D σ H => tb (wKeep X.K c i y X.N.length D) D σ H) := by
  refine ⟨fun pins s σ H D I h => ?_⟩
  have ok := I.ok
  have frames : X.A.frames = some (X.env :: X.outer) := by rw [ok.frames, hs]
  have catch_ : ∀ u s', XE (X.tr (X.pn ++ pins) fun e s₁ => wpAny (model X.prog X.w) X.A (noteFrame e X.env) (fun _ s₂ => wpAny (model X.prog X.w) X.A (setFlight e none) (fun _ s₃ =>
      wpAny (model X.prog X.w) X.A (handleBy e X.env [.ExceptHandler (some (.Name x np)) (some n) [.Assign [.Name m p1] (.Name n p2) p3] pos']) (SP X pins D) X.xe s₃) X.xe s₂) X.xe s₁) (wKeep X.K c i y X.N.length D) u s' →
      wpAny (model X.prog X.w) X.A (noteFrame u X.env) (fun _ s₂ => wpAny (model X.prog X.w) X.A (setFlight u none) (fun _ s₃ =>
      wpAny (model X.prog X.w) X.A (handleBy u X.env [.ExceptHandler (some (.Name x np)) (some n) [.Assign [.Name m p1] (.Name n p2) p3] pos']) (SP X pins D) X.xe s₃) X.xe s₂) X.xe s' := by
    rintro u s' ⟨a, B, sI, pins', σ', H', cls, d, rfl, J', nb, up, sky, na, os, ag, match_, go⟩
    have J : Inv X pins σ' H' sI := J'.ofTry ok
    have sky2 : Sky B (X.env :: X.outer) a (Zc cls d) X.env.locals s'.heap := by rw [← hs]; exact sky
    refine Sky.land Zc.steady frames hf sky2 fun h3 fl up3 => ?_
    have J3 : Inv X pins σ' H' { s' with heap := h3 } := J.landed nb fl.1 (up.trans up3) os ag
    obtain ⟨oe, vs, he, hz, hdat⟩ := fl.there
    have far : a ∉ frs (X.env :: X.outer) := fun hm => by
      obtain ⟨_, o', e', hnf⟩ := fl.2.2.1.mem hm
      rw [he] at e'
      cases e'
      exact hnf _ hdat
    have away : a ≠ X.env.locals := fun z => far (List.mem_filterMap.mpr ⟨X.env, List.mem_cons_self, by rw [hf, z]⟩)
    have unseen : ∀ o, sI.heap.get? a ≠ some o := fun o q => by
      have r := nb a o q (by rw [show (X.tr (X.pn ++ pins) _).stack = X.stack from rfl, hs]; exact far)
      rw [fl.2.1] at r
      cases r
    have young : X.s_0.heap.get? a = none := by
      cases q : X.s_0.heap.get? a with
      | none => rfl
      | some o =>
        obtain ⟨o', q'⟩ := J.base.there a o q (by rw [hex]; exact List.not_mem_nil)
        exact absurd q' (unseen o')
    have nocell : ∀ z b, X.env.cells.lookup z = some b → b ≠ a := fun z b e => by rw [hcl] at e; cases e
    have nopin : ∀ p ∈ X.pn ++ pins, p.1 ≠ a := fun p hp z => unseen _ (z ▸ (J.pin p hp).1)
    have LT : PySem.W.Looks (model X.prog X.w) h3 (typeOf (.ref a)) cls := fun A Q E t k q => wpAny_typeOf_ref (k _ _ he) (by rw [hz.1]; exact q)
    refine wpAny_handleBy_cons (codeAny_handlers_test ?_) (fun q => by cases q)
    have named : ∀ {Q : Value → Shared → Prop} {E : Value → Shared → Prop}, Q c { s' with heap := h3 } → wpAny (model X.prog X.w) (X.A.mark (some (.ref a))) (eval (.Name x np) X.env) Q E { s' with heap := h3 } := fun {Q E} q => by
      obtain ⟨g1, g2, g3 | ⟨g3, g4, g5⟩⟩ := hc
      · exact ld_glob (X := X.suite a (X.pn ++ pins)) (inv_suite J3) g1 g3 q g2
      · exact ld_blt (X := X.suite a (X.pn ++ pins)) (inv_suite J3) g1 g3 g4 q g5 g2
    refine named ((PySem.W.exm_one (M := model X.prog X.w) J3.kIn LT match_).here ?_)
    refine codeAny_handlers_suite_as (HandSPX.lands_againZ fl fun h4 fl4 up4 => ?_)
    have J4 : Inv X pins σ' H' { s' with heap := h4 } := J.landed nb fl4.1 ((up.trans up3).trans up4) os ag
    obtain ⟨oe4, vs4, he4, hz4, hdat4⟩ := fl4.there
    have K4 := inv_track J4 na young away nocell nopin (exK_ok (cls := cls) (d := d) he4 hz4 hdat4)
    refine L2.store_ok (X := X.suite a (X.pn ++ pins)) (v := .ref a) (inv_suite K4) hN hi (.inl hln) rfl (fun s5 S5 => ?_) (.inr hln)
    have len : i < σ'.length := by rw [J.len]; exact (List.getElem?_eq_some_iff.mp hi).1
    refine wpAny_mono ((pss_one (ps_set (X := X.suite a (X.pn ++ pins)) (i := y) (pos' := p1) hN hy (.inl hym) (pe_var (i := i) hi (.inl hln) hd hcd) hsw (.inr hym))).run [] s5 _ _ { nx := fun σ6 H6 => σ6 = ((σ'.set i (some (.ref a))).set y (some (.ref a))) ∧ H6 = upd H' a (ExK cls d a), bk := fun _ _ => False, ct := fun _ _ => False, rt := fun _ _ => False } S5 ⟨.ref a, by rw [List.getElem?_set_self len], rfl, rfl⟩) (fun f s6 hsp => ?_) (fun _ _ z => z.elim)
    cases f with
    | next =>
      obtain ⟨σ6, H6, S6, rfl, rfl⟩ := hsp
      exact gone_ok (inv_unsuite ok S6) hN hi hln fun s7 J7 => ⟨_, _, J7, go J.len a na⟩
    | brk => exact hsp.elim fun _ h => h.elim fun _ h => h.2.elim
    | cont => exact hsp.elim fun _ h => h.elim fun _ h => h.2.elim
    | ret u => exact hsp.elim fun _ h => h.elim fun _ h => h.elim fun _ h => h.2.2.elim
  refine wpAny_Try_except (wpAny_mono ((hb (wKeep X.K c i y X.N.length D) (X.pn ++ pins) _ catch_ PassesOwn.looking).run [] s σ H D (I.toTry _) h) (fun f s1 hsp => ?_) fun e s1 he => he)
  cases f with
  | next => exact wpAny_execs_nil (hsp.imp fun _ h => h.imp fun _ h => ⟨h.1.ofTry ok, h.2⟩)
  | brk => exact hsp.imp fun _ h => h.imp fun _ h => ⟨h.1.ofTry ok, h.2⟩
  | cont => exact hsp.imp fun _ h => h.imp fun _ h => ⟨h.1.ofTry ok, h.2⟩
  | ret u => exact hsp.imp fun _ h => h.imp fun _ h => h.imp fun _ h => ⟨h.1.ofTry ok, h.2⟩
end
end L2.DL

namespace L2.DL
open PySem PySem.Spec PyProof.Rows
/-! ### raise C(e), C an own class -/
/-- the class c may be raised -/
structure ExCls (prog : Program) (K : PySem.W.Frag) (mg : Str → Option Value) (c : Str) (C : Addr) : Prop where
  mgC : mg c = some (.ref C)
  kC : PySem.W.keepIn K (.ref C) = true
  exC : PySem.W.subIn K (.ref C) (.type "BaseException") = some true
  tyC : PySem.W.typeIn K (.ref C) = some (.type "type")
  sup : mg "super" = none
  txt : ∃ D fI cc cda qn tx, PySem.OwnX.OwnTxt prog K C D fI cc cda qn tx
theorem relO_val {v : V} {v' : Value} (r : RelV v v') (f : Str) : RelO (List.lookup f [(("value" : Str), v)]) (if f = "value" then some v' else none) := by
  by_cases hw : f = "value"
  · subst hw
    rw [if_pos rfl, show List.lookup ("value" : Str) [(("value" : Str), v)] = some v by simp [List.lookup]]
    exact r
  · have qw : (f == ("value" : Str)) = false := by simpa using hw
    rw [if_neg hw, show List.lookup f [(("value" : Str), v)] = none by simp [List.lookup, qw]]
    trivial
def tMk (C : Addr) (ta : TA) : St → Hp → XK → Prop := fun σ H Q => ta σ H fun vs H1 => ∃ v, vs = [v] ∧ ∀ d, H1 d = none → Q (.ref C) (some d) (upd H1 d (.xd [(("value" : Str), v)]))
section
variable {X : Cx} {C : Addr} {c : Str}
theorem pmk_own2 {a : Expr} {ta : TA} {p pos : Pos} {k : Nat} (T : ExCls X.prog X.K X.mg c C) (hr : Room k X.A) (ha : PA X [a] ta) (hg : Gl X c := by rfl) (hdb : (c == ("__debug__" : Str)) = false := by decide)
    (he : starEach (a :: []) X.env = (false, eval a X.env) :: starEach [] X.env := by rfl) (hpl : (backTo pos (starEach [] X.env)).any (·.1) = false := by rfl) :
    PMk X (.Call (.Name c p) [a] [] pos) (tMk C ta) := by
  intro pins s σ H Q I h
  refine wpAny_Call_Name_kw (ld_glob I hg T.mgC ?_ hdb)
  refine PySem.W.callWith_K (h₀ := X.base) I.ok.mod.kin T.kC (thn (ha.run pos pins s σ H _ I h) fun us s1 hh => ?_) he hpl
  obtain ⟨vs, H1, I1, r1, v, ev, q1⟩ := hh
  subst ev
  refine ⟨I1.kIn, ?_⟩
  cases r1 with
  | cons rv rn =>
    rename_i v' us'
    cases rn
    show wpAny _ _ (call (.ref C) [v']) _ _ _
    obtain ⟨D, fI, cc, cda, qn, tx, Tx⟩ := T.txt
    have lim := I1.nolimit
    obtain ⟨mb, b1, b2⟩ := I1.mod.blt
    have gl := I1.mod.glob.keeps I1.bk
    have bl := b1.keeps I1.bk
    have bs : mb "super" = some (.type "super") := (b2 _ (by decide)).trans (by decide +kernel)
    obtain ⟨hp, g, dr, tk, os⟩ := s1
    refine wpAny_call (PySem.OwnX.own_made Tx I1.kIn lim gl T.sup bl bs (by have := hr.dp; omega) fun h' tk' e d M => ?_)
    show MkP X pins σ Q (.ref e) ⟨h', g, dr, tk', os⟩
    obtain ⟨oe, fv, hoe, hc, hd, hdat, h1⟩ := M.obj
    have hns := M.ns
    obtain ⟨G', g1, g2⟩ := restrict h' fun b => decide (b ≠ e)
    have gk : ∀ b, b ≠ e → G'.get? b = h'.get? b := fun b hb => g1 b (decide_eq_true hb)
    have ge : G'.get? e = none := g2 e (by simp)
    have old : ∀ b o, hp.get? b = some o → G'.get? b = some o := fun b o q => (gk b (Nat.ne_of_lt (Nat.lt_of_lt_of_le (Heap.lt_size q) M.new))).trans (M.keep b o q)
    have ob : ObjOk X.prog X.w (upd H1 d (.xd [(("value" : Str), v)])) G' d (.xd [(("value" : Str), v)]) :=
      ⟨_, hns.at (fun o q => (gk d M.dne).trans q), fun f => relO_val rv f⟩
    have J : Inv X pins σ (upd H1 d (.xd [(("value" : Str), v)])) ⟨G', g, dr, tk', os⟩ := I1.laid (t' := tk') old M.dbig ob
    refine ⟨e, oe, fv, ⟨G', g, dr, tk', os⟩, _, .ref C, some d, rfl, J, fun b o q => ?_, ge, hoe, ⟨hc, hd⟩, hdat, h1, ?_, rfl, I1.bare, raises_own T.exC T.tyC, q1 d (I1.hok.fresh M.dbig)⟩
    · by_cases hb : b = e
      · have q' : G'.get? b = some o := q
        rw [hb, ge] at q'
        cases q'
      · exact (gk b hb).symm.trans q
    · rw [upd_ne (Ne.symm M.dne)]
      exact I1.hok.fresh M.new
def sRaise (c : Str) (ar : Mo (List Vl)) : Mo Fl := Mo.bnd ar fun rs => Mo.bnd (freezes rs) fun ds => match ds with
  | [d] => fun e => some (.exc c d e)
  | _ => Mo.lift none
theorem ps_raise2 {a : Expr} {ta : TA} {W : WX} {p pos pos2 : Pos} {k : Nat} (hc : X.calm = true) (T : ExCls X.prog X.K X.mg c C) (hr : Room k X.A) (tk : Takes X W) (ha : PA X [a] ta) (hg : Gl X c := by rfl) (hdb : (c == ("__debug__" : Str)) = false := by decide)
    (he : starEach (a :: []) X.env = (false, eval a X.env) :: starEach [] X.env := by rfl) (hpl : (backTo pos (starEach [] X.env)).any (·.1) = false := by rfl) :
    PS X (.Raise (some (.Call (.Name c p) [a] [] pos)) none pos2) (fun _ σ H => tMk C ta σ H fun cls d H' => W cls d σ H') := ps_raise hc tk (pmk_own2 T hr ha hg hdb he hpl)
end
end L2.DL

namespace L2.DL
open PySem PySem.Spec PyProof.Rows
section
variable {X : Cx} {B : Bs} {W : XW} {K : PySem.W.Frag} {XC : XCl} {E : XK} {c : Str} {C : Addr}
theorem same_new {H : Hp} {d : Addr} {o : HO} (h : H d = none) : Same H (upd H d o) := fun a u q => by
  rw [upd_ne (fun z => by rw [z, h] at q; cases q)]
  exact q
theorem raise_imp {ar : Mo (List Vl)} (hE : ∀ c C d σ H, XC c C → W c d σ H → E (.ref C) (some d) H) (hC : XC c C) : ∀ D σ H, tS K B W (sRaise c ar) D σ H → tMk C (tA K B W ar) σ H fun cls d H' => E cls d H' := by
  rintro D σ H ⟨e, t, val, s, h⟩
  refine ⟨e, t, val, s, (Fin.bnd h).imp fun rs e1 _ h1 vs H1 t1 val1 ag1 s1 at1 => ?_⟩
  obtain ⟨ds, e2, p, h2⟩ := Fin.freezes (Fin.bnd h1)
  obtain ⟨t1', l1, l2, s2, _, hd⟩ := freezes_ok s1 at1.weak p
  match ds, hd, h2 with
  | [], _, h2 => exact h2.elim
  | _ :: _ :: _, _, h2 => exact h2.elim
  | [x], hd, h2 =>
    cases hd with
    | cons hv hn =>
      cases hn
      rename_i v
      refine ⟨v, rfl, fun d hd0 => hE c C d σ _ hC ?_⟩
      have g := same_new (o := .xd [(("value" : Str), v)]) hd0
      refine h2 σ _ d v t1' val1 ?_ (s2.grow g) upd_same (Dp.mono ?_ _ _ hv)
      · have := s2.ln
        rw [← l2, this] at ag1
        exact ag1.T
      · exact minus_mono fun b o g1 g2 => ⟨fun z => g1 (by
          rcases z with z | z
          · exact .inl z
          · exact .inr z), g _ _ g2⟩
theorem pds_raise {a : Expr} {ar : Mo (List Vl)} {p pos pos2 : Pos} {k : Nat} (T : ExCls X.prog X.K X.mg c C) (hc : X.calm = true) (hr : Room k X.A) (tk : Takes X fun cls d _ H => E cls d H) (hE : ∀ c C d σ H, XC c C → W c d σ H → E (.ref C) (some d) H) (hC : XC c C) (ha : PA X [a] (tA X.K B W ar)) (hg : Gl X c := by rfl) (hdb : (c == ("__debug__" : Str)) = false := by decide)
    (he : starEach (a :: []) X.env = (false, eval a X.env) :: starEach [] X.env := by rfl) (hpl : (backTo pos (starEach [] X.env)).any (·.1) = false := by rfl) :
    PS X (.Raise (some (.Call (.Name c p) [a] [] pos)) none pos2) (tS X.K B W (sRaise c ar)) := (ps_raise2 hc T hr tk ha hg hdb he hpl).imp fun D σ H h => raise_imp hE hC D σ H h
end
end L2.DL

namespace L2.DL
open PySem PySem.Spec PyProof.Rows
/-! ### a caught error that is kept: isinstance, its value -/
structure ExcK (K : PySem.W.Frag) (C : Addr) : Prop where
  hc : (PySem.W.clsIn K C).isSome = true
  hg : PySem.W.findIn K (.ref C) "__getattribute__" = some (some (.builtin "BaseException.__getattribute__"))
  hk : PySem.W.findIn K (.ref C) "__getattr__" = some none
  hs : PySem.W.subIn K (.ref C) (.type "BaseException") = some true
  ha : PySem.W.findIn K (.ref C) "__class__" = some (some (.builtin "object.__class__"))
  hn : PySem.W.specialIn K (.builtin "object.__class__") "__get__" = some (some (.builtin "getset_descriptor.__get__"))
  ht : PySem.W.takesIn K (.builtin "object.__class__") = some true
  hm : PySem.W.mroIn K C (.type "object") = some true
  hd : PySem.W.hasDictIn K C = true
  hv : PySem.W.findIn K (.ref C) "value" = some none
/-- a kept error: at a, of the class C, its dict at d, its value v -/
structure Kept (K : PySem.W.Frag) (H : Hp) (a C d : Addr) (v : V) : Prop where
  cls : ExcK K C
  at_ : H a = some (ExK (.ref C) (some d) a)
  own : H d = some (.xd [(("value" : Str), v)])
section
variable {X : Cx} {pins : List (Addr × Obj)} {σ : St} {H : Hp} {s : Shared}
theorem kept_inst {a C d : Addr} {v : V} (I : Inv X pins σ H s) (k : Kept X.K H a C d v) : ∃ oe od, PySem.W.InstAt s.heap a oe C (some od) ∧ ∃ u, PySem.W.lookIn ("value" : Str) od = some (some u) ∧ RelV v u := by
  obtain ⟨⟨oe, vs, e1, e2, e3⟩, _, _⟩ := I.hok a _ k.at_
  have hx : ObjOk X.prog X.w H s.heap d (.xd [(("value" : Str), v)]) := I.hok d _ k.own
  obtain ⟨mA, hns, hr⟩ := hx
  obtain ⟨od, ho, hl⟩ := lookIn_ns hns
  have l : List.lookup ("value" : Str) [(("value" : Str), v)] = some v := by simp [List.lookup]
  obtain ⟨u, hu, ru⟩ := RelO.some_of (v := v) (o := mA "value") (by rw [← l]; exact hr "value")
  exact ⟨oe, od, ⟨e1, e2.1, by unfold PySem.W.notCls; rw [e3] <;> rfl, by rw [e2.2]; exact ho⟩, u, by rw [hl, hu], ru⟩
def rIsK (K : PySem.W.Frag) : List V → Hp → VK → Prop := fun xs H Q => ∃ (a C d : Addr) (v c : V) (cv : Value) (b : Bool), xs = [.ref a, c] ∧ Kept K H a C d v ∧ (∀ u, RelV c u → u = cv) ∧ PySem.W.kitOne K (.ref C) cv = some b ∧ Q (.bl b) H
theorem call_isK : CallR X (.builtin "isinstance") (rIsK X.K) := by
  intro pins s σ H xs us Q I r h
  obtain ⟨a, C, d, v, c, cv, b, rfl, k, hcv, e, q⟩ := h
  cases r with
  | cons rx rr =>
    cases rr with
    | cons rt rr =>
      cases rr
      cases rx
      have ec := hcv _ rt
      subst ec
      obtain ⟨oe, od, J, _⟩ := kept_inst I k
      have T := k.cls
      exact PySem.W.kia_one (PySem.W.kitx_exc T.hc T.hg T.hk T.hs T.ha T.hn T.ht T.hm) I.kIn J e (fun z => nomatch z) fun tk => ⟨.bl b, H, I.kept (t' := tk) fun _ _ z => z, rfl, q⟩
def tVal (K : PySem.W.Frag) (te : TE) : TE := fun σ H Q => te σ H fun x H1 => ∃ a C d v, x = .ref a ∧ Kept K H1 a C d v ∧ Q v H1
theorem pe_value {e : Expr} {te : TE} {pos : Pos} (he : PE X e te) (hb : attributeBase e "value" X.env (eval e X.env) = eval e X.env := by rfl) : PE X (.Attribute e "value" pos) (tVal X.K te) := by
  refine ⟨fun pins s σ H Q I h => ?_⟩
  refine attr_of hb (thn (he.run pins s σ H _ I h) fun u s1 hh => ?_)
  obtain ⟨x, H1, I1, rx, a, C, d, v, ex, k, q⟩ := hh
  subst ex
  obtain rfl : u = Value.ref a := rx
  obtain ⟨oe, od, J, u, hu, ru⟩ := kept_inst I1 k
  have T := k.cls
  exact HandSPX.exc_get I1.kIn J T.hg T.hk T.hs (PySem.W.findObj_own T.hd T.hv rfl hu) (handed_of ru) ⟨v, H1, I1.tok _, ru, q⟩
end
end L2.DL

namespace L2.DL
open PySem PySem.Spec PyProof.Rows RZ
/-! ### a def: y = None; try: body / except X as i: y = i; tail — called only where the body raises -/
theorem tS_mono {K : PySem.W.Frag} {B : Bs} {W W' : XW} {f : Mo Fl} {D D' : Ends} {σ : St} {H : Hp} (h : tS K B W f D σ H) (hw : ∀ c d σ H, W c d σ H → W' c d σ H) (h1 : ∀ σ H, D.nx σ H → D'.nx σ H) (h2 : ∀ σ H, D.bk σ H → D'.bk σ H) (h3 : ∀ σ H, D.ct σ H → D'.ct σ H) (h4 : ∀ v H, D.rt v H → D'.rt v H) :
    tS K B W' f D' σ H := by
  obtain ⟨e, t, val, s, h⟩ := h
  refine ⟨e, t, val, s, ?_⟩
  unfold Fin at h ⊢
  split at h
  · exact h
  · exact fun σ H' d v t' val' a s hd hv => hw _ _ _ _ (h σ H' d v t' val' a s hd hv)
  · exact FlC.ends h (fun _ => h1) (fun _ => h2) (fun _ => h3) h4
def runC (kk y : Nat) (mb : Mo Fl) (tailF : Str → PyData → Option FR) (ds : List PyData) : Option FR := match mb ((ds.map Md.d ++ List.replicate kk Md.un).set y (.d .none)) with
  | some (.exc c x _) => tailF c x
  | _ => none
/-- the wish of the body's calls -/
def XWW (XC : XCl) (W : WX) : XW := fun c d _ H => ∀ C, XC c C → ∀ σ, W (.ref C) (some d) σ H
abbrev EWW (W : WX) : XK := fun cls d H => ∀ σ, W cls d σ H
theorem hEWW {XC : XCl} {W : WX} : ∀ (c : Str) (C d : Addr) (σ : St) (H : Hp), XC c C → XWW XC W c d σ H → EWW W (.ref C) (some d) H := fun _ C _ _ _ h w => w C h
theorem passWW {X : Cx} {W : WX} (tk : Takes X W) : Passes (L2.CX X.prog X.w) X (EWW W) := fun pins σ H s e s' I c => passes_call tk (fun cls d σ H h => h σ) pins σ H s e s' I c
section
variable {P : Program} {w : World} {K : PySem.W.Frag} {mg : Str → Option Value} {base : Heap} {XC : XCl}
theorem defC {k n kk y i : Nat} {x xn nm m : Str} {st S1 : Stmt} {body tail : List Stmt} {np pos pos' p1 p2 p3 : Pos} {f : Addr} {fd : FuncData} {N ps : List Str} {mb : Mo Fl} {tailF : Str → PyData → Option FR} {c0 : Value} {tt : TS} (F : Fun K x x st f fd) (S : FnScope N ps (defScope st)) (hps : ps.length = n) (hN : N.length = n + kk)
    (hst : defBody st = S1 :: .Try body [.ExceptHandler (some (.Name xn np)) (some nm) [.Assign [.Name m p1] (.Name nm p2) p3] pos'] [] [] pos :: tail)
    (s1 : ∀ (cdv : Value) (A : Around) (fr : List Env) (s : Shared) (H : Hp) (E : XK) (B : Bs) (W : XW), B.n = n + kk → B.mp = [] → A.guards = some [] → Room k (A.deeper (envOfC x (defScope st) s.heap.objs.size f cdv)) →
      PS (cxOf (L2.CX P w) P w K mg base N x (defScope st) f cdv A fr s H E) S1 (tS K B W (sSet y (eC .none))))
    (tr : ∀ (cdv : Value) (A : Around) (fr : List Env) (s : Shared) (H : Hp) (E : XK) (B : Bs), B.n = n + kk → B.mp = [] → A.guards = some [] → Room k (A.deeper (envOfC x (defScope st) s.heap.objs.size f cdv)) →
      PS (cxOf (L2.CX P w) P w K mg base N x (defScope st) f cdv A fr s H E) (.Try body [.ExceptHandler (some (.Name xn np)) (some nm) [.Assign [.Name m p1] (.Name nm p2) p3] pos'] [] [] pos) (fun D σ H' => tS K B (XWW XC (wKeep K c0 i y N.length D)) mb D σ H'))
    (tl : ∀ (cdv : Value) (A : Around) (fr : List Env) (s : Shared) (H : Hp) (E : XK), A.guards = some [] → Room k (A.deeper (envOfC x (defScope st) s.heap.objs.size f cdv)) → PSs (cxOf (L2.CX P w) P w K mg base N x (defScope st) f cdv A fr s H E) tail tt)
    (hXC : ∀ c C, XC c C → ExcK K C ∧ PySem.W.exmOne K (.ref C) c0 = some true)
    (htl : ∀ (c : Str) (z : PyData) (r : FR) (C d a : Addr) (v : V) (σ : St) (G H H' : Hp) (D : Ends), tailF c z = some r → XC c C → Same G H → Same H H' → Kept K H' a C d v → Dp K (gext G H H') v z → σ[y]? = some (some (.ref a)) → (∀ w, r = .ret w → ∀ v' H'', Res K G H w v' H'' → D.rt v' H'') → tt D σ H')
    (hiy : y ≠ i) (hyn : y < N.length) (hret : ∀ c z r, tailF c z = some r → ∃ w, r = .ret w) : FnG P w K mg base (L2.CX P w) (k + 1) f fd ps (spP K XC n (runC kk y mb tailF)) := by
  refine fnG_of F S (fun {vs H Q E} h => ?_) fun cdv A fr s H vs Q E hg hr h => ?_
  · obtain ⟨G, ds, _, hd, hn, _⟩ := h
    rw [hd.length, hn, hps]
  · let D : Ends := { nx := fun _ H' => Q .non H', rt := Q }
    let E' : XK := fun cls d H' => PySem.W.exmOne K cls c0 = some true ∧ ∀ σ' : St, σ'.length = N.length → ∀ a, H' a = none → tt D (((σ'.set i (some (.ref a))).set y (some (.ref a))).set i none) (upd H' a (ExK cls d a))
    obtain ⟨G, ds, sg, hd, hn, hF⟩ := h
    have hsp : spP K XC n (runP kk (sSeq (sSet y (eC .none)) mb)) vs H (fun _ _ => False) E' := by
      refine ⟨G, ds, sg, hd, hn, ?_⟩
      have run : (sSeq (sSet y (eC .none)) mb) (ds.map Md.d ++ List.replicate kk Md.un) = mb ((ds.map Md.d ++ List.replicate kk Md.un).set y (.d .none)) := rfl
      unfold runP
      rw [run]
      unfold runC at hF
      cases q : mb ((ds.map Md.d ++ List.replicate kk Md.un).set y (.d .none)) with
      | none => rw [q] at hF; exact hF
      | some r =>
        rw [q] at hF
        cases r with
        | ok a e => exact hF.elim
        | exc c z e =>
          show ∀ C d v H', XC c C → Same H H' → H' d = some (.xd [("value", v)]) → Dp K (gext G H H') v z → E' (.ref C) (some d) H'
          intro C d v H' hC hs hd' hv
          obtain ⟨k1, k2⟩ := hXC c C hC
          refine ⟨k2, fun σ' hl a ha => ?_⟩
          cases qt : tailF c z with
          | none => simp only [qt] at hF
          | some r =>
            obtain ⟨w', rfl⟩ := hret c z r qt
            simp only [qt] at hF
            have g := same_new (o := ExK (.ref C) (some d) a) ha
            have hda : H' d ≠ none := by rw [hd']; simp
            have dne : d ≠ a := fun z => hda (z ▸ ha)
            refine htl c z _ C d a v _ G H _ D qt hC sg (hs.trans g) ⟨k1, upd_same, by rw [upd_ne dne]; exact hd'⟩ (Dp.mono (fun b o q => ?_) _ _ hv) ?_ ?_
            · unfold gext at q ⊢
              cases e : H b with
              | some u => rw [e] at q; exact q
              | none => rw [e] at q; exact g _ _ q
            · rw [List.getElem?_set_ne (Ne.symm hiy)]
              exact List.getElem?_set_self (by rw [List.length_set, hl]; exact hyn)
            · intro w2 e2 v' H'' res
              cases e2
              exact hF v' H'' res
    obtain ⟨G', hb⟩ := body_ok hN hsp
    have hb2 := seq_imp _ _ _ hb
    refine ⟨_, by rw [hst]; exact pss_cons (s1 cdv A fr s H E (bsP (n + kk) G' H) (fun c d _ H' => ∀ C, XC c C → E' (.ref C) (some d) H') rfl rfl hg hr) (pss_cons (tr cdv A fr s H E (bsP (n + kk) G' H) rfl rfl hg hr) (tl cdv A fr s H E hg hr)), ?_⟩
    show tS K _ _ (sSet y (eC .none)) _ (start N vs) H
    refine tS_mono hb2 (fun _ _ _ _ h => h) (fun σ1 H1 h1 => ?_) (fun _ _ h => h.elim) (fun _ _ h => h.elim) fun _ _ h => h.elim
    show tS K _ (XWW XC (wKeep K c0 i y N.length _)) mb _ σ1 H1
    refine tS_mono h1 (fun c d σ2 H2 h2 C hC σ3 => ?_) (fun _ _ h => h.elim) (fun _ _ h => h.elim) (fun _ _ h => h.elim) fun _ _ h => h.elim
    exact ⟨(h2 C hC).1, fun hl a ha => (h2 C hC).2 σ3 hl a ha⟩
end
end L2.DL

namespace PySem.W
open PySem PySem.Spec PyProof.Rows
/-! ### enumerate(v), v told by how its iterator begins -/
theorem meets_enum1 {v : Value} {o : Obj} {H : Heap → Prop} (B : Begins v o H) :
    Meets (Builtin.«enumerate.__new__» ⟨[.type "enumerate", v], []⟩) (fun _ R s => H s.heap ∧
      R (.ok (.ret (.ref (s.heap.push o).objs.size))) { s with heap := (s.heap.push o).push { cls := .type "enumerate", data := .fields #[.none, .bool false, .ref s.heap.objs.size, rawInt 0, .none, .none] } }) :=
  .of_wp fun prog w A R s h => by
    obtain ⟨hh, g, d, tk, os⟩ := s
    obtain ⟨h0, h⟩ := h
    have hsub := sub_enumerate
    have begin_ : ∀ {A' : Around} {E : Value → Shared → Prop} {Q : Value → Shared → Prop}, Q (.ref hh.objs.size) ⟨hh.push o, g, d, tk, os⟩ → wpAny (model prog w) A' (pyIter v) Q E ⟨hh, g, d, tk, os⟩ := fun q => B.iter prog w _ _ ⟨hh, g, d, tk, os⟩ _ h0 q
    wp_walk using begin_
    refine wpAny_stack_any fun st => wpAny_pure ?_
    split
    · rename_i c _ _ _ _ _
      cases (c == Value.type "enumerate") <;> (wp_walk using begin_; exact ⟨_, rfl, h⟩)
    · wp_walk using begin_
      exact ⟨_, rfl, h⟩
theorem call_enum1 {prog : Program} {w : World} {A : Around} {E : Value → Shared → Prop} {s : Shared} {v : Value} {o : Obj} {H : Heap → Prop} {Q : Value → Shared → Prop} (B : Begins v o H) (h0 : H s.heap)
    (h : ∀ h', IsEnum h' (s.heap.objs.size + 1) s.heap.objs.size 0 .none → h'.get? s.heap.objs.size = some o → (∀ b u, s.heap.get? b = some u → h'.get? b = some u) → Q (.ref (s.heap.objs.size + 1)) { s with heap := h' }) :
    wpAny (model prog w) A (call (.type "enumerate") [v]) Q E s := by
  refine callType_new F.called_enumerate (by decide) (F.typeCall_enumerate_1 _) (F.newCall_enumerate_1 _) (fun obj => F.args_object_init_2 obj _) F.entry_enumerate_new (meets_enum1 B) ⟨h0, ?_⟩
  have z : (s.heap.push o).objs.size = s.heap.objs.size + 1 := Heap.size_push ..
  show _ ∧ _
  rw [z]
  have e : IsEnum ((s.heap.push o).push { cls := .type "enumerate", data := .fields #[.none, .bool false, .ref s.heap.objs.size, rawInt 0, .none, .none] }) (s.heap.objs.size + 1) s.heap.objs.size 0 .none := by
    have := Heap.get?_push_size (s.heap.push o) (o := { cls := .type "enumerate", data := .fields #[.none, .bool false, .ref s.heap.objs.size, rawInt 0, .none, .none] }) rfl
    rw [z] at this
    exact this
  exact ⟨⟨_, e, rfl⟩, h _ e (Heap.get?_push_of_some _ (Heap.get?_push_size _ B.free)) fun b u x => Heap.get?_push_of_some _ (Heap.get?_push_of_some _ x)⟩
end PySem.W
namespace L2.DL
open PySem PySem.Spec PyProof.Rows
/-! ### enumerate of a tuple -/
def IteT (K : PySem.W.Frag) (a : Addr) : It :=
  ⟨fun i H => ∃ (xs : List V) (x : V), SqT K H a xs ∧ xs[i]? = some x, fun i H v H' => ∃ T x, v = .ref T ∧ H T = none ∧ H' = upd H T (.tup [.int (i : Nat), x]) ∧ ∀ xs, SqT K H a xs → xs[i]? = some x, fun i H => ∃ xs : List V, SqT K H a xs ∧ xs.length ≤ i⟩
theorem turn_enumT {P : Program} {w : World} {K : PySem.W.Frag} {elts : List Expr} {kk : Nat} {tpos : Pos} (a e it : Addr) :
    Turn P w K (.Tuple elts kk tpos) (IteT K a) [e, it] e (fun i h => (∃ old, IsEnum h e it ((i : Nat) : Int) old) ∧ h.IsTupleIter it a i ∧ e ≠ it) where
  mem := by simp
  obj := fun i h st b hb => by
    obtain ⟨⟨old, he⟩, ⟨o, ho, hc, hd⟩, _⟩ := st
    rcases (show b = e ∨ b = it by simpa using hb) with z | z
    · exact z ▸ ⟨_, he, fun v q => nomatch q⟩
    · exact z ▸ ⟨o, ho, fun v q => by rw [hd] at q; cases q⟩
  keep := fun i h h' st k => by
    obtain ⟨⟨old, he⟩, ⟨o, ho, r⟩, n1⟩ := st
    exact ⟨⟨old, k e (by simp) _ he⟩, ⟨o, k it (by simp) _ ho, r⟩, n1⟩
  item := by
    intro X hP hw hK hc i pins s σ H E I hf st hg
    subst hP hw hK
    obtain ⟨⟨old, he⟩, hit, hne⟩ := st
    obtain ⟨xs, x, hq, hx⟩ := hg
    obtain ⟨its, rv, p, hz⟩ := I.tuple hq
    obtain ⟨u, hu, ru⟩ := rv.get hx
    have tup : s.heap.IsTuple a its.toArray := p
    have na : a ≠ it := fun z => by
      obtain ⟨o1, e1, c1, _⟩ := tup
      obtain ⟨o2, e2, c2, _⟩ := hit
      rw [z, e2] at e1
      cases e1
      rw [c2] at c1
      exact absurd c1 (by decide)
    have hlt : i < its.toArray.size := by
      have := (List.getElem?_eq_some_iff.mp hu).1
      simpa using this
    have hel : e < s.heap.objs.size := Heap.lt_size he
    have hil : it < s.heap.objs.size := by obtain ⟨_, q, _⟩ := hit; exact Heap.lt_size q
    have ne2 : e ∉ [it, a] := fun z => by
      rcases (show e = it ∨ e = a by simpa using z) with z | z
      · exact hne z
      · obtain ⟨o1, e1, c1, _⟩ := tup
        rw [← z, show s.heap.get? e = _ from he] at e1
        cases e1
        exact absurd (Value.type.inj c1) (by decide)
    refine wpAny_pyNext_enum_itemD (Draws.tuple (A := X.A.in1) (I.ok.hd hc) it a na its.toArray) he ⟨hit, tup⟩ hlt hne ne2 fun x' h' tk hPx ho hst' hT hsz hk => ?_
    have ex : x' = u := by
      have : its.toArray[i]? = some u := by simpa using hu
      rw [hPx] at this
      exact Option.some.inj this
    subst ex
    refine ⟨_, rfl, wpAny_letOwnedTupleGo_enum (s := { s with heap := h', toks := tk + 1 }) ho fun h'' he' sb => ?_⟩
    have hT2 : h''.get? s.heap.objs.size = some { cls := .type "tuple", data := .seq #[.int i tk, x'] } := (sb.2 _ (Nat.ne_of_gt hel)).trans hT
    have new : ObjOk X.prog X.w (upd H s.heap.objs.size (.tup [.int (i : Nat), x])) h'' s.heap.objs.size (.tup [.int (i : Nat), x]) :=
      ⟨by show 2 ≤ sizeLine; decide, [.int i tk, x'], .cons ⟨_, rfl⟩ (.cons ru .nil), ⟨_, hT2, rfl, _, rfl⟩⟩
    have I1 : Inv X pins σ (upd H s.heap.objs.size (.tup [.int (i : Nat), x])) { s with heap := h'', toks := tk + 1 } :=
      I.turnedNew (ch := [e, it]) (fun b ob hb q => (sb.2 b (fun z => hb (by simp [z]))).trans (hk b ob (fun z => hb (by simp [z])) (fun z => hb (by simp [z])) q)) hf (Nat.le_refl _) new
    obtain ⟨⟨ot, h1, h2⟩, _⟩ := hst'
    refine ⟨.ref s.heap.objs.size, _, I1, rfl, ⟨_, x, rfl, I.hok.fresh (Nat.le_refl _), rfl, fun ys hy => by rw [I.tuple_inj hy hq]; exact hx⟩, ⟨⟨x', ?_⟩, ⟨ot, (sb.2 it (Ne.symm hne)).trans h1, h2⟩, hne⟩, fun b hb => ?_⟩
    · rw [show ((i + 1 : Nat) : Int) = (i : Int) + 1 by omega]
      exact he'
    · have hb' : b < s.heap.objs.size := by
        rcases (show b = e ∨ b = it by simpa using hb) with z | z
        · rw [z]; exact hel
        · rw [z]; exact hil
      rw [upd_ne (Nat.ne_of_lt hb')]
      exact (hf b hb).1
  done := by
    intro X hP hw hK hc i pins s σ H E I hf st hg
    subst hP hw hK
    obtain ⟨⟨old, he⟩, hit, hne⟩ := st
    obtain ⟨xs, hq, hx⟩ := hg
    obtain ⟨its, rv, p, hz⟩ := I.tuple hq
    have tup : s.heap.IsTuple a its.toArray := p
    have na : a ≠ it := fun z => by
      obtain ⟨o1, e1, c1, _⟩ := tup
      obtain ⟨o2, e2, c2, _⟩ := hit
      rw [z, e2] at e1
      cases e1
      rw [c2] at c1
      exact absurd c1 (by decide)
    obtain ⟨f0, f1, f2, f3, f4, f5⟩ := hf it (by simp)
    have hl := rv.length
    have D : Draws X.prog X.w X.A.in1 it [it, a] i (fun _ _ => True) (fun j h => j = i ∧ h.IsTupleIter it a i ∧ h.IsTuple a its.toArray) := {
      live := fun _ _ st => let ⟨o, ho, _⟩ := st.2.1; ⟨o, ho⟩
      frame := fun _ _ _ st hk => ⟨st.1, (let ⟨o, ho, r⟩ := st.2.1; ⟨o, hk it (by simp) o ho, r⟩), (let ⟨o, ho, r⟩ := st.2.2; ⟨o, hk a (by simp) o ho, r⟩)⟩
      item := fun j s Q E hj st _ => absurd st.1 (by omega)
      done := fun s Q E st hE => wpAny_nextOf_tuple_end (I.ok.hd hc) st.2.1 st.2.2 (by simp; omega) hE }
    exact wpAny_pyNext_enum_endD D he ⟨rfl, hit, tup⟩ fun h' eb => ⟨rfl, I.turned (t' := s.toks) (fun b o hb q => eb b o hb q) f0 f1 f3 f4 f5⟩
  self := fun A i s Q E st h => let ⟨⟨_, he⟩, _⟩ := st; wpAny_pyIter_enum he h
def iEnT (K : PySem.W.Frag) (ta : TA) : TI := fun σ H R => ta σ H fun vs H1 => ∃ a xs, vs = [.ref a] ∧ SqT K H1 a xs ∧ R (IteT K a) H1
theorem pi_enumT {X : Cx} {e : Expr} {ta : TA} {p pos tpos : Pos} {elts : List Expr} {kk : Nat} (hg : Gl X "enumerate") (hm : X.mg "enumerate" = none) (ha : PA X [e] ta) (hs : starEach [e] X.env = [(false, eval e X.env)] := by rfl) :
    PI X (.Tuple elts kk tpos) (.Call (.Name "enumerate" p) [e] [] pos) (iEnT X.K ta) := by
  refine ⟨fun pins s σ H R I h => Call_ (ld_blt I hg hm boot_enumerate (PyProof.Rows.callWith_type1 (thn (ha.run pos pins s σ H _ I h) fun us s1 ⟨vs, H1, I1, r1, q1⟩ => ?_) hs rfl))⟩
  obtain ⟨a, xs, ex, hq, q⟩ := q1
  subst ex
  cases r1 with
  | cons r rr =>
    cases rr
    cases r
    obtain ⟨its, rv, p', hz⟩ := I1.tuple hq
    refine PySem.W.call_enum1 (begins_tuple a its.toArray) p' fun h' he hit hk => wpAny_pyIter_enum he ?_
    have I2 : Inv X pins σ H1 { s1 with heap := h' } := I1.kept (t' := s1.toks) hk
    refine ⟨s1.heap.objs.size + 1, [s1.heap.objs.size + 1, s1.heap.objs.size], _, _, H1, rfl, I2, turn_enumT a (s1.heap.objs.size + 1) s1.heap.objs.size, ⟨⟨.none, he⟩, ⟨_, hit, rfl, rfl⟩, Nat.succ_ne_self _⟩, fun b hb => ?_, q⟩
    have low : s1.heap.objs.size ≤ b := by
      rcases (show b = s1.heap.objs.size + 1 ∨ b = s1.heap.objs.size by simpa using hb) with z | z
      · rw [z]; exact Nat.le_add_right _ _
      · rw [z]; exact Nat.le_refl _
    exact I1.fpOk low (I1.hok.fresh low)
theorem itOk_enumT {K : PySem.W.Frag} {a : Addr} {ds : List PyData} : ItOk K (IteT K a) [.ref a] [.tuple ds] (enumL ds) := fun G H sg hd => by
  cases hd with
  | cons h1 _ =>
    cases h1 with
    | tup h2 h3 =>
      rename_i vs
      have hs := SqT.mono sg h2
      have hl := h3.length
      refine ⟨fun i d hi => ?_, vs, hs, by simp [enumL]; omega⟩
      unfold enumL at hi
      rw [List.getElem?_map] at hi
      obtain ⟨⟨d0, n⟩, q, hd0⟩ := Option.map_eq_some_iff.mp hi
      rw [List.getElem?_zip_eq_some] at q
      have hn : n = i := by
        have := q.2
        rw [List.getElem?_range (List.getElem?_eq_some_iff.mp q.1).1] at this
        exact (Option.some.inj this).symm
      subst hn
      subst hd0
      obtain ⟨v, hv, hd⟩ := h3.get q.1
      refine ⟨⟨vs, v, hs, hv⟩, ?_⟩
      rintro z H' ⟨T, x', rfl, hT, rfl, q1⟩
      have e1 := q1 vs hs
      rw [hv] at e1
      cases e1
      exact ⟨Same.updN hT, dp_pair sg hT (.int _) hd⟩
def enT : List PyData → Option (List PyData)
  | [.tuple xs] => some (enumL xs)
  | _ => none
section
variable {X : Cx} {B : Bs} {W : XW} {tg : Expr}
theorem pdi_enumT0 {it : Expr} {ar : Mo (List Vl)} (h : PI X tg it (iEnT X.K (tA X.K B W ar))) : PI X tg it (tI X.K B W (iZips enT ar)) := by
  refine h.imp fun σ H R ⟨e, t, val, s, h⟩ => ?_
  refine ⟨e, t, val, s, (Fin.bnd h).imp fun r e1 _ h1 vs H1 t1 val1 ag1 s1 at1 => ?_⟩
  obtain ⟨d, e2, p, h2⟩ := Fin.freezes (Fin.bnd h1)
  obtain ⟨t1', l1, l2, s2, _, hd⟩ := freezes_ok s1 at1.weak p
  obtain ⟨ds, hs, h3⟩ := Fin.lift h2
  obtain ⟨val', ag, s3, tm⟩ := s2.pushAll hd
  have ag2 : Ag (B.n + t.length) val val' := Ag.trans (by simp) (ag_n s1 ag1) ag
  rw [List.append_assoc] at s3 tm
  unfold enT at hs
  split at hs
  · cases hs
    cases hd with
    | cons g1 hd =>
      cases hd
      cases g1 with
      | tup a1 a2 => exact ⟨_, _, rfl, SqT.mono minus_sub a1, h3 _ _ _ _ _ _ ag2 s3 tm itOk_enumT⟩
  · cases hs
theorem pdi_enumT {elts : List Expr} {kk : Nat} {tpos p pos : Pos} {e : Expr} {ar : Mo (List Vl)} (hm : X.mg "enumerate" = none) (ha : PA X [e] (tA X.K B W ar)) (hg : Gl X "enumerate" := by rfl) (hs : starEach [e] X.env = [(false, eval e X.env)] := by rfl) :
    PI X (.Tuple elts kk tpos) (.Call (.Name "enumerate" p) [e] [] pos) (tI X.K B W (iZips enT ar)) := pdi_enumT0 (pi_enumT hg hm ha hs)
end
/-! ### min of two -/
def minF : List PyData → Option Vl
  | [.int a, .int b] => some (.d (.int (if b < a then b else a)))
  | _ => none
theorem minD {K : PySem.W.Frag} : CallD K (fun xs H Q => ∃ i j, xs = [.int i, .int j] ∧ Q (.int (if j < i then j else i)) H) minF := by
  intro G H vs ds w Q sg hv hf q
  unfold minF at hf
  split at hf
  · cases hf
    cases vs with
    | nil => cases hv
    | cons v vs =>
      obtain ⟨_, _, e, h1, hv⟩ := hv
      cases e
      obtain ⟨u, rfl, h2⟩ := pk1 hv
      exact ⟨_, _, by rw [h1.int, h2.int], q _ _ (Res.same sg (.int _))⟩
  · cases hf
end L2.DL

namespace L2.K72
open PySem PySem.Spec PyProof.Rows RZ L2.DL
def topS (i : Nat) : Stmt := PySem.Challenge.pw_cutswhole_k72_halvings_of_rows.main.body.getD i (.Pass ⟨0, 0, 0, 0⟩)
structure Bts (mg : Str → Option Value) : Prop where
  b_abs : mg "abs" = none
  b_all : mg "all" = none
  b_bool : mg "bool" = none
  b_enumerate : mg "enumerate" = none
  b_int : mg "int" = none
  b_isinstance : mg "isinstance" = none
  b_len : mg "len" = none
  b_list : mg "list" = none
  b_min : mg "min" = none
  b_range : mg "range" = none
  b_repr : mg "repr" = none
  b_sorted : mg "sorted" = none
  b_str : mg "str" = none
  b_sum : mg "sum" = none
  b_tuple : mg "tuple" = none
  b_zip : mg "zip" = none
section
variable {P : Program} {w : World} {K : PySem.W.Frag} {mg : Str → Option Value} {base : Heap} {XC : XCl}
/-! is_integer -/
abbrev s_is_integer : Stmt := topS 6
theorem sc_is_integer : FnScope ["value"] ["value"] (defScope s_is_integer) := ⟨rfl, rfl, rfl, by decide +kernel, rfl, by decide +kernel, by decide +kernel⟩
def m_is_integer_1 : Mo Fl :=
    (sRet (eAnd (eUn (isiF "int") (eVar 0)) (eUn notF (eUn (isiF "bool") (eVar 0)))))
def m_is_integer : Mo Fl :=
    m_is_integer_1
def F_is_integer := runP 0 m_is_integer
abbrev Cal_is_integer (P : Program) (w : World) (K : PySem.W.Frag) (mg : Str → Option Value) (base : Heap) (XC : XCl) : Prop := Cal P w K mg base "is_integer" s_is_integer 1 ["value"] (spP K XC 1 F_is_integer)
theorem ok_is_integer {f : Addr} {fd : FuncData} (T : Bts mg) (F : Fun K "is_integer" "is_integer" s_is_integer f fd) (hmg : mg "is_integer" = some (.ref f)) : Cal_is_integer P w K mg base XC := by
  refine ⟨f, fd, F, defP F sc_is_integer rfl rfl fun cdv A fr s H E B hn hp hG hr => ?_, hmg, F.binds fun _ _ _ _ _ _ us hl => match us, hl with | [_], _ => rfl⟩
  have nd := (sc_is_integer).nd
  have hi : ∀ i, i < 1 → i < B.n := fun i h => by rw [hn]; exact h
  have hm : ∀ i, True → i ∉ B.mp := fun i _ q => by rw [hp] at q; cases q
  have hu := hr.units
  have hu1 := room65 hr
  have hu2 := room65 hr
  unfold m_is_integer m_is_integer_1
  exact (pdss_one (pds_ret (pd_and (d_isi (d_var 0) T.b_isinstance (ty_int T.b_int)) (pd_one (d_not (d_isi (d_var 0) T.b_isinstance (ty_bool T.b_bool)))))))
/-! is_between -/
abbrev s_is_between : Stmt := topS 7
theorem sc_is_between : FnScope ["value", "low", "high"] ["value", "low", "high"] (defScope s_is_between) := ⟨rfl, rfl, rfl, by decide +kernel, rfl, by decide +kernel, by decide +kernel⟩
def m_is_between_1 : Mo Fl :=
    (sRet (eAnd (eFn 1 F_is_integer (aCons (eVar 0) aNil)) (eChain leF leF (eVar 1) (eVar 0) (eVar 2))))
def m_is_between : Mo Fl :=
    m_is_between_1
def F_is_between := runP 0 m_is_between
abbrev Cal_is_between (P : Program) (w : World) (K : PySem.W.Frag) (mg : Str → Option Value) (base : Heap) (XC : XCl) : Prop := Cal P w K mg base "is_between" s_is_between 2 ["value", "low", "high"] (spP K XC 3 F_is_between)
theorem ok_is_between {f : Addr} {fd : FuncData} (T : Bts mg) (F : Fun K "is_between" "is_between" s_is_between f fd) (hmg : mg "is_between" = some (.ref f)) (C_is_integer : Cal_is_integer P w K mg base XC) : Cal_is_between P w K mg base XC := by
  refine ⟨f, fd, F, defP F sc_is_between rfl rfl fun cdv A fr s H E B hn hp hG hr => ?_, hmg, F.binds fun _ _ _ _ _ _ us hl => match us, hl with | [_, _, _], _ => rfl⟩
  have nd := (sc_is_between).nd
  have hi : ∀ i, i < 3 → i < B.n := fun i h => by rw [hn]; exact h
  have hm : ∀ i, True → i ∉ B.mp := fun i _ q => by rw [hp] at q; cases q
  have hu := hr.units
  have hu1 := room65 hr
  have hu2 := room65 hr
  unfold m_is_between m_is_between_1
  exact (pdss_one (pds_ret (pd_and (d_call C_is_integer hG (hr.mono (by decide)) passE hEW (pda_cons (d_var 0) pda_nil)) (pd_one (d_lele (d_var 1) (d_var 0) (d_var 2))))))
/-! is_tuple -/
abbrev s_is_tuple : Stmt := topS 8
theorem sc_is_tuple : FnScope ["value", "low", "high"] ["value", "low", "high"] (defScope s_is_tuple) := ⟨rfl, rfl, rfl, by decide +kernel, rfl, by decide +kernel, by decide +kernel⟩
def m_is_tuple_1 : Mo Fl :=
    (sRet (eAnd (eUn (isiF "tuple") (eVar 0)) (eChain leF leF (eVar 1) (eCall lenF (aCons (eVar 0) aNil)) (eVar 2))))
def m_is_tuple : Mo Fl :=
    m_is_tuple_1
def F_is_tuple := runP 0 m_is_tuple
abbrev Cal_is_tuple (P : Program) (w : World) (K : PySem.W.Frag) (mg : Str → Option Value) (base : Heap) (XC : XCl) : Prop := Cal P w K mg base "is_tuple" s_is_tuple 1 ["value", "low", "high"] (spP K XC 3 F_is_tuple)
theorem ok_is_tuple {f : Addr} {fd : FuncData} (T : Bts mg) (F : Fun K "is_tuple" "is_tuple" s_is_tuple f fd) (hmg : mg "is_tuple" = some (.ref f)) : Cal_is_tuple P w K mg base XC := by
  refine ⟨f, fd, F, defP F sc_is_tuple rfl rfl fun cdv A fr s H E B hn hp hG hr => ?_, hmg, F.binds fun _ _ _ _ _ _ us hl => match us, hl with | [_, _, _], _ => rfl⟩
  have nd := (sc_is_tuple).nd
  have hi : ∀ i, i < 3 → i < B.n := fun i h => by rw [hn]; exact h
  have hm : ∀ i, True → i ∉ B.mp := fun i _ q => by rw [hp] at q; cases q
  have hu := hr.units
  have hu1 := room65 hr
  have hu2 := room65 hr
  unfold m_is_tuple m_is_tuple_1
  exact (pdss_one (pds_ret (pd_and (d_isi (d_var 0) T.b_isinstance (ty_tuple T.b_tuple)) (pd_one (d_lele (d_var 1) (pd_call (pe_callB call_len_seq rfl T.b_len (by decide +kernel) (pda_cons (d_var 0) pda_nil)) lenD) (d_var 2))))))
/-! is_word -/
abbrev s_is_word : Stmt := topS 9
theorem sc_is_word : FnScope ["value", "words"] ["value", "words"] (defScope s_is_word) := ⟨rfl, rfl, rfl, by decide +kernel, rfl, by decide +kernel, by decide +kernel⟩
def m_is_word_1 : Mo Fl :=
    (sRet (eAnd (eUn (isiF "str") (eVar 0)) (eBin inF (eVar 0) (eVar 1))))
def m_is_word : Mo Fl :=
    m_is_word_1
def F_is_word := runP 0 m_is_word
abbrev Cal_is_word (P : Program) (w : World) (K : PySem.W.Frag) (mg : Str → Option Value) (base : Heap) (XC : XCl) : Prop := Cal P w K mg base "is_word" s_is_word 1 ["value", "words"] (spP K XC 2 F_is_word)
theorem ok_is_word {f : Addr} {fd : FuncData} (T : Bts mg) (F : Fun K "is_word" "is_word" s_is_word f fd) (hmg : mg "is_word" = some (.ref f)) : Cal_is_word P w K mg base XC := by
  refine ⟨f, fd, F, defP F sc_is_word rfl rfl fun cdv A fr s H E B hn hp hG hr => ?_, hmg, F.binds fun _ _ _ _ _ _ us hl => match us, hl with | [_, _], _ => rfl⟩
  have nd := (sc_is_word).nd
  have hi : ∀ i, i < 2 → i < B.n := fun i h => by rw [hn]; exact h
  have hm : ∀ i, True → i ∉ B.mp := fun i _ q => by rw [hp] at q; cases q
  have hu := hr.units
  have hu1 := room65 hr
  have hu2 := room65 hr
  unfold m_is_word m_is_word_1
  exact (pdss_one (pds_ret (pd_and (d_isi (d_var 0) T.b_isinstance (ty_str T.b_str)) (pd_one (d_isin (d_var 0) (d_var 1) hu1)))))
/-! are_rising -/
abbrev s_are_rising : Stmt := topS 10
theorem sc_are_rising : FnScope ["values", "one", "other"] ["values"] (defScope s_are_rising) := ⟨rfl, rfl, rfl, by decide +kernel, rfl, by decide +kernel, by decide +kernel⟩
def m_are_rising_1 : Mo Vl :=
    (eLc (iZips zip2 (aCons (eVar 0) (aCons (eSl (eVar 0) (partS (eC (.int 1))) partN) aNil))) (bTup [(bName 1), (bName 2)]) cYes (eBin ltF (eVar 1) (eVar 2)) [1, 2])
def m_are_rising_2 : Mo Fl :=
    (sRet (eCall allF (aCons m_are_rising_1 aNil)))
def m_are_rising : Mo Fl :=
    m_are_rising_2
def F_are_rising := runP 2 m_are_rising
abbrev Cal_are_rising (P : Program) (w : World) (K : PySem.W.Frag) (mg : Str → Option Value) (base : Heap) (XC : XCl) : Prop := Cal P w K mg base "are_rising" s_are_rising 1 ["values"] (spP K XC 1 F_are_rising)
theorem ok_are_rising {f : Addr} {fd : FuncData} (T : Bts mg) (F : Fun K "are_rising" "are_rising" s_are_rising f fd) (hmg : mg "are_rising" = some (.ref f)) : Cal_are_rising P w K mg base XC := by
  refine ⟨f, fd, F, defP F sc_are_rising rfl rfl fun cdv A fr s H E B hn hp hG hr => ?_, hmg, F.binds fun _ _ _ _ _ _ us hl => match us, hl with | [_], _ => rfl⟩
  have nd := (sc_are_rising).nd
  have hi : ∀ i, i < 3 → i < B.n := fun i h => by rw [hn]; exact h
  have hm : ∀ i, True → i ∉ B.mp := fun i _ q => by rw [hp] at q; cases q
  have hu := hr.units
  have hu1 := room65 hr
  have hu2 := room65 hr
  unfold m_are_rising m_are_rising_2 m_are_rising_1
  exact (pdss_one (pds_ret (pd_call (pe_callB (cr_all rfl) rfl T.b_all (by decide +kernel) (pda_cons (d_lc (own := [("one", 1), ("other", 2)]) rfl nd (blkOk_by (own := [("one", 1), ("other", 2)]) (by kernel_rfl)) (pdi_zip (pi_zipA (by rfl) T.b_zip (pda_cons (d_var 0) (pda_cons (d_slice (d_var 0) (pdo_some d_int) pdo_none) pda_nil)))) (fun _ _ _ _ _ => (pdg_tup (pg_tup rfl (pdgs_cons (pdg_name (pg_name (i := 1) nd rfl (Or.inl rfl)) (hi 1 (by decide)) (hm 1 (by decide))) (pdgs_cons (pdg_name (pg_name (i := 2) nd rfl (Or.inl rfl)) (hi 2 (by decide)) (hm 2 (by decide))) pdgs_nil))) rfl)) (fun _ _ _ _ _ => pdts_nil) (fun _ _ _ _ _ => (d_lt (d_var 1) (d_var 2))) (by decide)) pda_nil)) allD)))
/-! are_integers -/
abbrev s_are_integers : Stmt := topS 11
theorem sc_are_integers : FnScope ["value", "item"] ["value"] (defScope s_are_integers) := ⟨rfl, rfl, rfl, by decide +kernel, rfl, by decide +kernel, by decide +kernel⟩
def m_are_integers_1 : Mo Vl :=
    (eLc (iSeq (eVar 0)) (bName 1) cYes (eFn 1 F_is_integer (aCons (eVar 1) aNil)) [1])
def m_are_integers_2 : Mo Fl :=
    (sRet (eAnd (eUn (isiF "tuple") (eVar 0)) (eCall allF (aCons m_are_integers_1 aNil))))
def m_are_integers : Mo Fl :=
    m_are_integers_2
def F_are_integers := runP 1 m_are_integers
abbrev Cal_are_integers (P : Program) (w : World) (K : PySem.W.Frag) (mg : Str → Option Value) (base : Heap) (XC : XCl) : Prop := Cal P w K mg base "are_integers" s_are_integers 2 ["value"] (spP K XC 1 F_are_integers)
theorem ok_are_integers {f : Addr} {fd : FuncData} (T : Bts mg) (F : Fun K "are_integers" "are_integers" s_are_integers f fd) (hmg : mg "are_integers" = some (.ref f)) (C_is_integer : Cal_is_integer P w K mg base XC) : Cal_are_integers P w K mg base XC := by
  refine ⟨f, fd, F, defP F sc_are_integers rfl rfl fun cdv A fr s H E B hn hp hG hr => ?_, hmg, F.binds fun _ _ _ _ _ _ us hl => match us, hl with | [_], _ => rfl⟩
  have nd := (sc_are_integers).nd
  have hi : ∀ i, i < 2 → i < B.n := fun i h => by rw [hn]; exact h
  have hm : ∀ i, True → i ∉ B.mp := fun i _ q => by rw [hp] at q; cases q
  have hu := hr.units
  have hu1 := room65 hr
  have hu2 := room65 hr
  unfold m_are_integers m_are_integers_2 m_are_integers_1
  exact (pdss_one (pds_ret (pd_and (d_isi (d_var 0) T.b_isinstance (ty_tuple T.b_tuple)) (pd_one (pd_call (pe_callB (cr_all rfl) rfl T.b_all (by decide +kernel) (pda_cons (d_lc (own := [("item", 1)]) rfl nd (blkOk_by (own := [("item", 1)]) (by kernel_rfl)) (pdi_seq (d_var 0)) (fun _ _ _ _ _ => (pdg_name (pg_name (i := 1) nd rfl (Or.inl rfl)) (hi 1 (by decide)) (hm 1 (by decide)))) (fun _ _ _ _ _ => pdts_nil) (fun _ _ _ _ _ => (d_call C_is_integer hG (hr.mono (by decide)) passL hE0 (pda_cons (d_var 1) pda_nil))) (by decide)) pda_nil)) allD)))))
/-! is_rising -/
abbrev s_is_rising : Stmt := topS 12
theorem sc_is_rising : FnScope ["value", "item"] ["value"] (defScope s_is_rising) := ⟨rfl, rfl, rfl, by decide +kernel, rfl, by decide +kernel, by decide +kernel⟩
def m_is_rising_1 : Mo Vl :=
    (eLc (iSeq (eVar 0)) (bName 1) cYes (eFn 1 F_are_integers (aCons (eVar 1) aNil)) [1])
def m_is_rising_2 : Mo Fl :=
    (sRet (eC (.bool false)))
def m_is_rising_3 : Mo Fl :=
    (sIf (cAnd (cNot (cV (eFn 1 F_are_integers (aCons (eVar 0) aNil)))) (cNot (cAnd (cV (eUn (isiF "tuple") (eVar 0))) (cV (eCall allF (aCons m_is_rising_1 aNil))))))
    m_is_rising_2
    sNx)
def m_is_rising_4 : Mo Fl :=
    (sRet (eFn 1 F_are_rising (aCons (eVar 0) aNil)))
def m_is_rising : Mo Fl :=
    (sSeq m_is_rising_3
    m_is_rising_4)
def F_is_rising := runP 1 m_is_rising
abbrev Cal_is_rising (P : Program) (w : World) (K : PySem.W.Frag) (mg : Str → Option Value) (base : Heap) (XC : XCl) : Prop := Cal P w K mg base "is_rising" s_is_rising 3 ["value"] (spP K XC 1 F_is_rising)
theorem ok_is_rising {f : Addr} {fd : FuncData} (T : Bts mg) (F : Fun K "is_rising" "is_rising" s_is_rising f fd) (hmg : mg "is_rising" = some (.ref f)) (C_are_integers : Cal_are_integers P w K mg base XC) (C_are_rising : Cal_are_rising P w K mg base XC) : Cal_is_rising P w K mg base XC := by
  refine ⟨f, fd, F, defP F sc_is_rising rfl rfl fun cdv A fr s H E B hn hp hG hr => ?_, hmg, F.binds fun _ _ _ _ _ _ us hl => match us, hl with | [_], _ => rfl⟩
  have nd := (sc_is_rising).nd
  have hi : ∀ i, i < 2 → i < B.n := fun i h => by rw [hn]; exact h
  have hm : ∀ i, True → i ∉ B.mp := fun i _ q => by rw [hp] at q; cases q
  have hu := hr.units
  have hu1 := room65 hr
  have hu2 := room65 hr
  unfold m_is_rising m_is_rising_4 m_is_rising_3 m_is_rising_2 m_is_rising_1
  exact (pdss_cons (pds_if (PW.pt (pdw_and (pdt_not (t_val (d_call C_are_integers hG (hr.mono (by decide)) passE hEW (pda_cons (d_var 0) pda_nil)))) (pdw_and1 (pdt_not (PW.pt (pdw_and (t_val (d_isi (d_var 0) T.b_isinstance (ty_tuple T.b_tuple))) (pdw_and1 (t_val (pd_call (pe_callB (cr_all rfl) rfl T.b_all (by decide +kernel) (pda_cons (d_lc (own := [("item", 1)]) rfl nd (blkOk_by (own := [("item", 1)]) (by kernel_rfl)) (pdi_seq (d_var 0)) (fun _ _ _ _ _ => (pdg_name (pg_name (i := 1) nd rfl (Or.inl rfl)) (hi 1 (by decide)) (hm 1 (by decide)))) (fun _ _ _ _ _ => pdts_nil) (fun _ _ _ _ _ => (d_call C_are_integers hG (hr.mono (by decide)) passL hE0 (pda_cons (d_var 1) pda_nil))) (by decide)) pda_nil)) allD)))))))))
      (pdss_one (pds_ret d_bl))
      pdss_nil)
      (pdss_one (pds_ret (d_call C_are_rising hG (hr.mono (by decide)) passE hEW (pda_cons (d_var 0) pda_nil)))))
/-! anew -/
abbrev s_anew : Stmt := topS 13
theorem sc_anew : FnScope ["value", "part"] ["value"] (defScope s_anew) := ⟨rfl, rfl, rfl, by decide +kernel, rfl, by decide +kernel, by decide +kernel⟩
def m_anew_1 (Fs : List PyData → Option FR) : Mo Vl :=
    (eLc (iSeq (eVar 0)) (bName 1) cYes (eFn 1 Fs (aCons (eVar 1) aNil)) [1])
def m_anew_2 (Fs : List PyData → Option FR) : Mo Fl :=
    (sRet (m_anew_1 Fs))
def m_anew_3 (Fs : List PyData → Option FR) : Mo Fl :=
    (sIf (cV (eUn (isiF "list") (eVar 0)))
    (m_anew_2 Fs)
    sNx)
def m_anew_4 (Fs : List PyData → Option FR) : Mo Vl :=
    (eLc (iSeq (eVar 0)) (bName 1) cYes (eFn 1 Fs (aCons (eVar 1) aNil)) [1])
def m_anew_5 (Fs : List PyData → Option FR) : Mo Fl :=
    (sRet (eCall tupF (aCons (m_anew_4 Fs) aNil)))
def m_anew_6 (Fs : List PyData → Option FR) : Mo Fl :=
    (sIf (cV (eUn (isiF "tuple") (eVar 0)))
    (m_anew_5 Fs)
    sNx)
def m_anew_7 (Fs : List PyData → Option FR) : Mo Fl :=
    (sRet (eVar 0))
def m_anew (Fs : List PyData → Option FR) : Mo Fl :=
    (sSeq (m_anew_3 Fs)
    (sSeq (m_anew_6 Fs)
    (m_anew_7 Fs)))
def G_anew (Fs : List PyData → Option FR) : List PyData → Option FR := runP 1 (m_anew Fs)
def F_anew : List PyData → Option FR := (G_anew (G_anew (G_anew (fun _ => none))))
abbrev Cal_anew (P : Program) (w : World) (K : PySem.W.Frag) (mg : Str → Option Value) (base : Heap) (XC : XCl) : Prop := Cal P w K mg base "anew" s_anew 3 ["value"] (spP K XC 1 F_anew)
theorem step_anew {Fs : List PyData → Option FR} {k0 : Nat} {f : Addr} {fd : FuncData} (T : Bts mg) (F : Fun K "anew" "anew" s_anew f fd) (hmg : mg "anew" = some (.ref f)) (C_self : Cal P w K mg base "anew" s_anew k0 ["value"] (spP K XC 1 Fs)) : Cal P w K mg base "anew" s_anew (k0 + 1) ["value"] (spP K XC 1 (G_anew Fs)) := by
  refine ⟨f, fd, F, defP F sc_anew rfl rfl fun cdv A fr s H E B hn hp hG hr => ?_, hmg, F.binds fun _ _ _ _ _ _ us hl => match us, hl with | [_], _ => rfl⟩
  have nd := (sc_anew).nd
  have hi : ∀ i, i < 2 → i < B.n := fun i h => by rw [hn]; exact h
  have hm : ∀ i, True → i ∉ B.mp := fun i _ q => by rw [hp] at q; cases q
  have hu := hr.units
  have hu1 := room65 hr
  have hu2 := room65 hr
  unfold m_anew m_anew_7 m_anew_6 m_anew_5 m_anew_4 m_anew_3 m_anew_2 m_anew_1
  exact (pdss_cons (pds_if (t_val (d_isi (d_var 0) T.b_isinstance (ty_list T.b_list)))
      (pdss_one (pds_ret (d_lc (own := [("part", 1)]) rfl nd (blkOk_by (own := [("part", 1)]) (by kernel_rfl)) (pdi_seq (d_var 0)) (fun _ _ _ _ _ => (pdg_name (pg_name (i := 1) nd rfl (Or.inl rfl)) (hi 1 (by decide)) (hm 1 (by decide)))) (fun _ _ _ _ _ => pdts_nil) (fun _ _ _ _ _ => (d_call C_self hG hr passL hE0 (pda_cons (d_var 1) pda_nil))) (by decide))))
      pdss_nil)
      (pdss_cons (pds_if (t_val (d_isi (d_var 0) T.b_isinstance (ty_tuple T.b_tuple)))
      (pdss_one (pds_ret (pd_call (pe_callTy call_tuple_of rfl T.b_tuple (by decide +kernel) (pda_cons (d_lc (own := [("part", 1)]) rfl nd (blkOk_by (own := [("part", 1)]) (by kernel_rfl)) (pdi_seq (d_var 0)) (fun _ _ _ _ _ => (pdg_name (pg_name (i := 1) nd rfl (Or.inl rfl)) (hi 1 (by decide)) (hm 1 (by decide)))) (fun _ _ _ _ _ => pdts_nil) (fun _ _ _ _ _ => (d_call C_self hG hr passL hE0 (pda_cons (d_var 1) pda_nil))) (by decide)) pda_nil)) tupD)))
      pdss_nil)
      (pdss_one (pds_ret (d_var 0)))))
theorem ok_anew {f : Addr} {fd : FuncData} (T : Bts mg) (F : Fun K "anew" "anew" s_anew f fd) (hmg : mg "anew" = some (.ref f)) : Cal_anew P w K mg base XC := by
  have C0 : Cal P w K mg base "anew" s_anew 0 ["value"] (spP K XC 1 fun _ => none) := ⟨f, fd, F, ⟨fun {vs H Q E} h => h.elim fun _ h => h.elim fun _ h => h.2.2.2.elim, fun _ _ _ _ _ h => h.elim fun _ h => h.elim fun _ h => h.2.2.2.elim⟩, hmg, F.binds fun _ _ _ _ _ _ us hl => match us, hl with | [_], _ => rfl⟩
  exact (step_anew T F hmg (step_anew T F hmg (step_anew T F hmg C0)))
/-! is_a_table -/
abbrev s_is_a_table : Stmt := topS 17
theorem sc_is_a_table : FnScope ["value", "row", "item"] ["value"] (defScope s_is_a_table) := ⟨rfl, rfl, rfl, by decide +kernel, rfl, by decide +kernel, by decide +kernel⟩
def m_is_a_table_1 : Mo Vl :=
    (eLc (iSeq (eVar 0)) (bName 1) cYes (eFn 3 F_is_tuple (aCons (eVar 1) (aCons (eC (.int 1)) (aCons (eC (.int 6)) aNil)))) [1])
def m_is_a_table_2 : Mo Fl :=
    (sRet (eC (.bool false)))
def m_is_a_table_3 : Mo Fl :=
    (sIf (cOr (cNot (cV (eFn 3 F_is_tuple (aCons (eVar 0) (aCons (eC (.int 1)) (aCons (eC (.int 6)) aNil)))))) (cNot (cV (eCall allF (aCons m_is_a_table_1 aNil)))))
    m_is_a_table_2
    sNx)
def m_is_a_table_4 : Mo Vl :=
    (eLc (iSeq (eVar 1)) (bName 2) cYes (eFn 3 F_is_between (aCons (eVar 2) (aCons (eUn negF (eC (.int 9))) (aCons (eC (.int 9)) aNil)))) [2])
def m_is_a_table_5 : Mo Fl :=
    (sRet (eC (.bool false)))
def m_is_a_table_6 : Mo Fl :=
    (sIf (cOr (cV (eBin neF (eCall lenF (aCons (eVar 1) aNil)) (eCall lenF (aCons (eBin ixF (eVar 0) (eC (.int 0))) aNil)))) (cNot (cV (eCall allF (aCons m_is_a_table_4 aNil)))))
    m_is_a_table_5
    sNx)
def m_is_a_table_7 : Mo Fl :=
    (sFor (iSeq (eVar 0)) (bName 1)
    m_is_a_table_6)
def m_is_a_table_8 : Mo Fl :=
    (sRet (eC (.bool true)))
def m_is_a_table : Mo Fl :=
    (sSeq m_is_a_table_3
    (sSeq m_is_a_table_7
    m_is_a_table_8))
def F_is_a_table := runP 2 m_is_a_table
abbrev Cal_is_a_table (P : Program) (w : World) (K : PySem.W.Frag) (mg : Str → Option Value) (base : Heap) (XC : XCl) : Prop := Cal P w K mg base "is_a_table" s_is_a_table 3 ["value"] (spP K XC 1 F_is_a_table)
theorem ok_is_a_table {f : Addr} {fd : FuncData} (T : Bts mg) (F : Fun K "is_a_table" "is_a_table" s_is_a_table f fd) (hmg : mg "is_a_table" = some (.ref f)) (C_is_between : Cal_is_between P w K mg base XC) (C_is_tuple : Cal_is_tuple P w K mg base XC) {t_MOST_ITEM : Tok} (c_MOST_ITEM : mg "MOST_ITEM" = some (.int 9 t_MOST_ITEM)) {t_MOST_SIDE : Tok} (c_MOST_SIDE : mg "MOST_SIDE" = some (.int 6 t_MOST_SIDE)) : Cal_is_a_table P w K mg base XC := by
  refine ⟨f, fd, F, defP F sc_is_a_table rfl rfl fun cdv A fr s H E B hn hp hG hr => ?_, hmg, F.binds fun _ _ _ _ _ _ us hl => match us, hl with | [_], _ => rfl⟩
  have nd := (sc_is_a_table).nd
  have hi : ∀ i, i < 3 → i < B.n := fun i h => by rw [hn]; exact h
  have hm : ∀ i, True → i ∉ B.mp := fun i _ q => by rw [hp] at q; cases q
  have hu := hr.units
  have hu1 := room65 hr
  have hu2 := room65 hr
  unfold m_is_a_table m_is_a_table_8 m_is_a_table_7 m_is_a_table_6 m_is_a_table_5 m_is_a_table_4 m_is_a_table_3 m_is_a_table_2 m_is_a_table_1
  exact (pdss_cons (pds_if (PW.pt (pdw_or (pdt_not (t_val (d_call C_is_tuple hG (hr.mono (by decide)) passE hEW (pda_cons (d_var 0) (pda_cons d_int (pda_cons (d_gint c_MOST_SIDE) pda_nil)))))) (pdw_or1 (pdt_not (t_val (pd_call (pe_callB (cr_all rfl) rfl T.b_all (by decide +kernel) (pda_cons (d_lc (own := [("row", 1)]) rfl nd (blkOk_by (own := [("row", 1)]) (by kernel_rfl)) (pdi_seq (d_var 0)) (fun _ _ _ _ _ => (pdg_name (pg_name (i := 1) nd rfl (Or.inl rfl)) (hi 1 (by decide)) (hm 1 (by decide)))) (fun _ _ _ _ _ => pdts_nil) (fun _ _ _ _ _ => (d_call C_is_tuple hG (hr.mono (by decide)) passL hE0 (pda_cons (d_var 1) (pda_cons d_int (pda_cons (d_gint c_MOST_SIDE) pda_nil))))) (by decide)) pda_nil)) allD))))))
      (pdss_one (pds_ret d_bl))
      pdss_nil)
      (pdss_cons (pds_for passOwn rfl (pdi_seq (d_var 0)) (pdg_name (pg_name (i := 1) nd rfl (Or.inl rfl)) (hi 1 (by decide)) (hm 1 (by decide)))
      (pdss_one (pds_if (PW.pt (pdw_or (t_ne (pd_call (pe_callB call_len_seq rfl T.b_len (by decide +kernel) (pda_cons (d_var 1) pda_nil)) lenD) (pd_call (pe_callB call_len_seq rfl T.b_len (by decide +kernel) (pda_cons (d_ix (d_var 0) d_int) pda_nil)) lenD) hu) (pdw_or1 (pdt_not (t_val (pd_call (pe_callB (cr_all rfl) rfl T.b_all (by decide +kernel) (pda_cons (d_lc (own := [("item", 2)]) rfl nd (blkOk_by (own := [("item", 2)]) (by kernel_rfl)) (pdi_seq (d_var 1)) (fun _ _ _ _ _ => (pdg_name (pg_name (i := 2) nd rfl (Or.inl rfl)) (hi 2 (by decide)) (hm 2 (by decide)))) (fun _ _ _ _ _ => pdts_nil) (fun _ _ _ _ _ => (d_call C_is_between hG (hr.mono (by decide)) passL hE0 (pda_cons (d_var 2) (pda_cons (d_neg (d_gint c_MOST_ITEM)) (pda_cons (d_gint c_MOST_ITEM) pda_nil))))) (by decide)) pda_nil)) allD))))))
      (pdss_one (pds_ret d_bl))
      pdss_nil)))
      (pdss_one (pds_ret d_bl))))
/-! need_table -/
abbrev s_need_table : Stmt := topS 18
theorem sc_need_table : FnScope ["table"] ["table"] (defScope s_need_table) := ⟨rfl, rfl, rfl, by decide +kernel, rfl, by decide +kernel, by decide +kernel⟩
def m_need_table_1 : Mo Fl :=
    sDead
def m_need_table_2 : Mo Fl :=
    (sIf (cNot (cV (eFn 1 F_is_a_table (aCons (eVar 0) aNil))))
    m_need_table_1
    sNx)
def m_need_table : Mo Fl :=
    m_need_table_2
def F_need_table := runP 0 m_need_table
abbrev Cal_need_table (P : Program) (w : World) (K : PySem.W.Frag) (mg : Str → Option Value) (base : Heap) (XC : XCl) : Prop := Cal P w K mg base "need_table" s_need_table 4 ["table"] (spP K XC 1 F_need_table)
theorem ok_need_table {f : Addr} {fd : FuncData} (T : Bts mg) (F : Fun K "need_table" "need_table" s_need_table f fd) (hmg : mg "need_table" = some (.ref f)) (C_is_a_table : Cal_is_a_table P w K mg base XC) : Cal_need_table P w K mg base XC := by
  refine ⟨f, fd, F, defP F sc_need_table rfl rfl fun cdv A fr s H E B hn hp hG hr => ?_, hmg, F.binds fun _ _ _ _ _ _ us hl => match us, hl with | [_], _ => rfl⟩
  have nd := (sc_need_table).nd
  have hi : ∀ i, i < 1 → i < B.n := fun i h => by rw [hn]; exact h
  have hm : ∀ i, True → i ∉ B.mp := fun i _ q => by rw [hp] at q; cases q
  have hu := hr.units
  have hu1 := room65 hr
  have hu2 := room65 hr
  unfold m_need_table m_need_table_2 m_need_table_1
  exact (pdss_one (pds_if (pdt_not (t_val (d_call C_is_a_table hG (hr.mono (by decide)) passE hEW (pda_cons (d_var 0) pda_nil))))
      (pdss_one pds_dead)
      pdss_nil))
/-! are_indexes -/
abbrev s_are_indexes : Stmt := topS 19
theorem sc_are_indexes : FnScope ["value", "many", "at"] ["value", "many"] (defScope s_are_indexes) := ⟨rfl, rfl, rfl, by decide +kernel, rfl, by decide +kernel, by decide +kernel⟩
def m_are_indexes_1 : Mo Vl :=
    (eLc (iSeq (eVar 0)) (bName 2) cYes (eFn 3 F_is_between (aCons (eVar 2) (aCons (eC (.int 0)) (aCons (eBin subF (eVar 1) (eC (.int 1))) aNil)))) [2])
def m_are_indexes_2 : Mo Fl :=
    (sRet (eC (.bool false)))
def m_are_indexes_3 : Mo Fl :=
    (sIf (cOr (cNot (cV (eFn 3 F_is_tuple (aCons (eVar 0) (aCons (eC (.int 1)) (aCons (eVar 1) aNil)))))) (cNot (cV (eCall allF (aCons m_are_indexes_1 aNil)))))
    m_are_indexes_2
    sNx)
def m_are_indexes_4 : Mo Fl :=
    (sRet (eFn 1 F_is_rising (aCons (eVar 0) aNil)))
def m_are_indexes : Mo Fl :=
    (sSeq m_are_indexes_3
    m_are_indexes_4)
def F_are_indexes := runP 1 m_are_indexes
abbrev Cal_are_indexes (P : Program) (w : World) (K : PySem.W.Frag) (mg : Str → Option Value) (base : Heap) (XC : XCl) : Prop := Cal P w K mg base "are_indexes" s_are_indexes 4 ["value", "many"] (spP K XC 2 F_are_indexes)
theorem ok_are_indexes {f : Addr} {fd : FuncData} (T : Bts mg) (F : Fun K "are_indexes" "are_indexes" s_are_indexes f fd) (hmg : mg "are_indexes" = some (.ref f)) (C_is_between : Cal_is_between P w K mg base XC) (C_is_rising : Cal_is_rising P w K mg base XC) (C_is_tuple : Cal_is_tuple P w K mg base XC) : Cal_are_indexes P w K mg base XC := by
  refine ⟨f, fd, F, defP F sc_are_indexes rfl rfl fun cdv A fr s H E B hn hp hG hr => ?_, hmg, F.binds fun _ _ _ _ _ _ us hl => match us, hl with | [_, _], _ => rfl⟩
  have nd := (sc_are_indexes).nd
  have hi : ∀ i, i < 3 → i < B.n := fun i h => by rw [hn]; exact h
  have hm : ∀ i, True → i ∉ B.mp := fun i _ q => by rw [hp] at q; cases q
  have hu := hr.units
  have hu1 := room65 hr
  have hu2 := room65 hr
  unfold m_are_indexes m_are_indexes_4 m_are_indexes_3 m_are_indexes_2 m_are_indexes_1
  exact (pdss_cons (pds_if (PW.pt (pdw_or (pdt_not (t_val (d_call C_is_tuple hG (hr.mono (by decide)) passE hEW (pda_cons (d_var 0) (pda_cons d_int (pda_cons (d_var 1) pda_nil)))))) (pdw_or1 (pdt_not (t_val (pd_call (pe_callB (cr_all rfl) rfl T.b_all (by decide +kernel) (pda_cons (d_lc (own := [("at", 2)]) rfl nd (blkOk_by (own := [("at", 2)]) (by kernel_rfl)) (pdi_seq (d_var 0)) (fun _ _ _ _ _ => (pdg_name (pg_name (i := 2) nd rfl (Or.inl rfl)) (hi 2 (by decide)) (hm 2 (by decide)))) (fun _ _ _ _ _ => pdts_nil) (fun _ _ _ _ _ => (d_call C_is_between hG (hr.mono (by decide)) passL hE0 (pda_cons (d_var 2) (pda_cons d_int (pda_cons (d_sub (d_var 1) d_int) pda_nil))))) (by decide)) pda_nil)) allD))))))
      (pdss_one (pds_ret d_bl))
      pdss_nil)
      (pdss_one (pds_ret (d_call C_is_rising hG (hr.mono (by decide)) passE hEW (pda_cons (d_var 0) pda_nil)))))
/-! halves -/
abbrev s_halves : Stmt := topS 21
theorem sc_halves : FnScope ["table", "rows", "signs", "j", "i", "sign"] ["table", "rows", "signs"] (defScope s_halves) := ⟨rfl, rfl, rfl, by decide +kernel, rfl, by decide +kernel, by decide +kernel⟩
def m_halves_1 : Mo Vl :=
    (eLc (iZips zip2 (aCons (eVar 1) (aCons (eVar 2) aNil))) (bTup [(bName 4), (bName 5)]) cYes (eBin mulF (eVar 5) (eBin ixF (eBin ixF (eVar 0) (eVar 4)) (eVar 3))) [4, 5])
def m_halves_2 : Mo Fl :=
    (sRet (eC (.bool false)))
def m_halves_3 : Mo Fl :=
    (sIf (cV (eBin gtF (eCall absF (aCons (eCall sumF (aCons m_halves_1 aNil)) aNil)) (eC (.int 1))))
    m_halves_2
    sNx)
def m_halves_4 : Mo Fl :=
    (sFor (iRng rng1 (aCons (eCall lenF (aCons (eBin ixF (eVar 0) (eC (.int 0))) aNil)) aNil)) (bName 3)
    m_halves_3)
def m_halves_5 : Mo Fl :=
    (sRet (eC (.bool true)))
def m_halves : Mo Fl :=
    (sSeq m_halves_4
    m_halves_5)
def F_halves := runP 3 m_halves
abbrev Cal_halves (P : Program) (w : World) (K : PySem.W.Frag) (mg : Str → Option Value) (base : Heap) (XC : XCl) : Prop := Cal P w K mg base "halves" s_halves 1 ["table", "rows", "signs"] (spP K XC 3 F_halves)
theorem ok_halves {f : Addr} {fd : FuncData} (T : Bts mg) (F : Fun K "halves" "halves" s_halves f fd) (hmg : mg "halves" = some (.ref f)) : Cal_halves P w K mg base XC := by
  refine ⟨f, fd, F, defP F sc_halves rfl rfl fun cdv A fr s H E B hn hp hG hr => ?_, hmg, F.binds fun _ _ _ _ _ _ us hl => match us, hl with | [_, _, _], _ => rfl⟩
  have nd := (sc_halves).nd
  have hi : ∀ i, i < 6 → i < B.n := fun i h => by rw [hn]; exact h
  have hm : ∀ i, True → i ∉ B.mp := fun i _ q => by rw [hp] at q; cases q
  have hu := hr.units
  have hu1 := room65 hr
  have hu2 := room65 hr
  unfold m_halves m_halves_5 m_halves_4 m_halves_3 m_halves_2 m_halves_1
  exact (pdss_cons (pds_for passOwn rfl (pdi_range1 (pi_range1 rfl T.b_range (pda_cons (pd_call (pe_callB call_len_seq rfl T.b_len (by decide +kernel) (pda_cons (d_ix (d_var 0) d_int) pda_nil)) lenD) pda_nil))) (pdg_name (pg_name (i := 3) nd rfl (Or.inr rfl)) (hi 3 (by decide)) (hm 3 (by decide)))
      (pdss_one (pds_if (t_gt (pd_call (pe_callB call_abs rfl T.b_abs (by decide +kernel) (pda_cons (pd_call (pe_callB (cr_sum rfl) rfl T.b_sum (by decide +kernel) (pda_cons (d_lc (own := [("i", 4), ("sign", 5)]) rfl nd (blkOk_by (own := [("i", 4), ("sign", 5)]) (by kernel_rfl)) (pdi_zip (pi_zipA (by rfl) T.b_zip (pda_cons (d_var 1) (pda_cons (d_var 2) pda_nil)))) (fun _ _ _ _ _ => (pdg_tup (pg_tup rfl (pdgs_cons (pdg_name (pg_name (i := 4) nd rfl (Or.inl rfl)) (hi 4 (by decide)) (hm 4 (by decide))) (pdgs_cons (pdg_name (pg_name (i := 5) nd rfl (Or.inl rfl)) (hi 5 (by decide)) (hm 5 (by decide))) pdgs_nil))) rfl)) (fun _ _ _ _ _ => pdts_nil) (fun _ _ _ _ _ => (d_mul (d_var 5) (d_ix (d_ix (d_var 0) (d_var 4)) (d_var 3)))) (by decide)) pda_nil)) sumD) pda_nil)) absD) d_int)
      (pdss_one (pds_ret d_bl))
      pdss_nil)))
      (pdss_one (pds_ret d_bl)))
/-! sign_rows -/
abbrev s_sign_rows : Stmt := topS 22
theorem sc_sign_rows : FnScope ["many", "found", "longer", "row"] ["many"] (defScope s_sign_rows) := ⟨rfl, rfl, rfl, by decide +kernel, rfl, by decide +kernel, by decide +kernel⟩
def m_sign_rows_1 : Mo Fl :=
    (sSet 1 (eLst (aCons (eTup (aCons (eC (.int 1)) aNil)) aNil)))
def m_sign_rows_2 : Mo Fl :=
    (sSet 2 (eLst aNil))
def m_sign_rows_3 : Mo Fl :=
    (sExpr (eExt (eVar 2) (eLst (aCons (eBin addF (eVar 3) (eTup (aCons (eUn negF (eC (.int 1))) aNil))) (aCons (eBin addF (eVar 3) (eTup (aCons (eC (.int 1)) aNil))) aNil)))))
def m_sign_rows_4 : Mo Fl :=
    (sFor (iSeq (eVar 1)) (bName 3)
    m_sign_rows_3)
def m_sign_rows_5 : Mo Fl :=
    (sSet 1 (eVar 2))
def m_sign_rows_6 : Mo Fl :=
    (sWhile (fun _ => 100) (cV (eBin ltF (eCall lenF (aCons (eBin ixF (eVar 1) (eC (.int 0))) aNil)) (eVar 0)))
    (sSeq m_sign_rows_2
    (sSeq m_sign_rows_4
    m_sign_rows_5)))
def m_sign_rows_7 : Mo Fl :=
    (sRet (eVar 1))
def m_sign_rows : Mo Fl :=
    (sSeq m_sign_rows_1
    (sSeq m_sign_rows_6
    m_sign_rows_7))
def F_sign_rows := runP 3 m_sign_rows
abbrev Cal_sign_rows (P : Program) (w : World) (K : PySem.W.Frag) (mg : Str → Option Value) (base : Heap) (XC : XCl) : Prop := Cal P w K mg base "sign_rows" s_sign_rows 1 ["many"] (spP K XC 1 F_sign_rows)
theorem ok_sign_rows {f : Addr} {fd : FuncData} (T : Bts mg) (F : Fun K "sign_rows" "sign_rows" s_sign_rows f fd) (hmg : mg "sign_rows" = some (.ref f)) : Cal_sign_rows P w K mg base XC := by
  refine ⟨f, fd, F, defP F sc_sign_rows rfl rfl fun cdv A fr s H E B hn hp hG hr => ?_, hmg, F.binds fun _ _ _ _ _ _ us hl => match us, hl with | [_], _ => rfl⟩
  have nd := (sc_sign_rows).nd
  have hi : ∀ i, i < 4 → i < B.n := fun i h => by rw [hn]; exact h
  have hm : ∀ i, True → i ∉ B.mp := fun i _ q => by rw [hp] at q; cases q
  have hu := hr.units
  have hu1 := room65 hr
  have hu2 := room65 hr
  unfold m_sign_rows m_sign_rows_7 m_sign_rows_6 m_sign_rows_5 m_sign_rows_4 m_sign_rows_3 m_sign_rows_2 m_sign_rows_1
  exact (pdss_cons (pds_set (ps_set (i := 1) nd rfl (Or.inl rfl) (pd_lst (pda_cons (pd_tup (pda_cons d_int pda_nil)) pda_nil))) (fun _ _ _ h => h) (hi 1 (by decide)) (hm 1 (by decide)))
      (pdss_cons (pds_while passOwn (t_lt (pd_call (pe_callB call_len_seq rfl T.b_len (by decide +kernel) (pda_cons (d_ix (d_var 1) d_int) pda_nil)) lenD) (d_var 0))
      (pdss_cons (pds_set (ps_set (i := 2) nd rfl (Or.inl rfl) (pd_lst pda_nil)) (fun _ _ _ h => h) (hi 2 (by decide)) (hm 2 (by decide)))
      (pdss_cons (pds_for passOwn rfl (pdi_seq (d_var 1)) (pdg_name (pg_name (i := 3) nd rfl (Or.inl rfl)) (hi 3 (by decide)) (hm 3 (by decide)))
      (pdss_one (pds_expr (d_lextend1 (d_var 2) (pd_lst (pda_cons (d_add (d_var 3) (pd_tup (pda_cons (d_neg d_int) pda_nil))) (pda_cons (d_add (d_var 3) (pd_tup (pda_cons d_int pda_nil))) pda_nil)))))))
      (pdss_one (pds_set (ps_set (i := 1) nd rfl (Or.inl rfl) (d_var 2)) (fun _ _ _ h => h) (hi 1 (by decide)) (hm 1 (by decide)))))))
      (pdss_one (pds_ret (d_var 1)))))
/-! first_halving -/
abbrev s_first_halving : Stmt := topS 23
theorem sc_first_halving : FnScope ["table", "rows", "signs"] ["table", "rows"] (defScope s_first_halving) := ⟨rfl, rfl, rfl, by decide +kernel, rfl, by decide +kernel, by decide +kernel⟩
def m_first_halving_1 : Mo Fl :=
    (sRet (eVar 2))
def m_first_halving_2 : Mo Fl :=
    (sIf (cV (eFn 3 F_halves (aCons (eVar 0) (aCons (eVar 1) (aCons (eVar 2) aNil)))))
    m_first_halving_1
    sNx)
def m_first_halving_3 : Mo Fl :=
    (sFor (iSeq (eFn 1 F_sign_rows (aCons (eCall lenF (aCons (eVar 1) aNil)) aNil))) (bName 2)
    m_first_halving_2)
def m_first_halving_4 : Mo Fl :=
    (sRet (eC .none))
def m_first_halving : Mo Fl :=
    (sSeq m_first_halving_3
    m_first_halving_4)
def F_first_halving := runP 1 m_first_halving
abbrev Cal_first_halving (P : Program) (w : World) (K : PySem.W.Frag) (mg : Str → Option Value) (base : Heap) (XC : XCl) : Prop := Cal P w K mg base "first_halving" s_first_halving 2 ["table", "rows"] (spP K XC 2 F_first_halving)
theorem ok_first_halving {f : Addr} {fd : FuncData} (T : Bts mg) (F : Fun K "first_halving" "first_halving" s_first_halving f fd) (hmg : mg "first_halving" = some (.ref f)) (C_halves : Cal_halves P w K mg base XC) (C_sign_rows : Cal_sign_rows P w K mg base XC) : Cal_first_halving P w K mg base XC := by
  refine ⟨f, fd, F, defP F sc_first_halving rfl rfl fun cdv A fr s H E B hn hp hG hr => ?_, hmg, F.binds fun _ _ _ _ _ _ us hl => match us, hl with | [_, _], _ => rfl⟩
  have nd := (sc_first_halving).nd
  have hi : ∀ i, i < 3 → i < B.n := fun i h => by rw [hn]; exact h
  have hm : ∀ i, True → i ∉ B.mp := fun i _ q => by rw [hp] at q; cases q
  have hu := hr.units
  have hu1 := room65 hr
  have hu2 := room65 hr
  unfold m_first_halving m_first_halving_4 m_first_halving_3 m_first_halving_2 m_first_halving_1
  exact (pdss_cons (pds_for passOwn rfl (pdi_seq (d_call C_sign_rows hG (hr.mono (by decide)) passE hEW (pda_cons (pd_call (pe_callB call_len_seq rfl T.b_len (by decide +kernel) (pda_cons (d_var 1) pda_nil)) lenD) pda_nil))) (pdg_name (pg_name (i := 2) nd rfl (Or.inl rfl)) (hi 2 (by decide)) (hm 2 (by decide)))
      (pdss_one (pds_if (t_val (d_call C_halves hG (hr.mono (by decide)) passE hEW (pda_cons (d_var 0) (pda_cons (d_var 1) (pda_cons (d_var 2) pda_nil)))))
      (pdss_one (pds_ret (d_var 2)))
      pdss_nil)))
      (pdss_one (pds_ret d_non)))
/-! choices -/
abbrev s_choices : Stmt := topS 24
theorem sc_choices : FnScope ["table", "found", "many"] ["table"] (defScope s_choices) := ⟨rfl, rfl, rfl, by decide +kernel, rfl, by decide +kernel, by decide +kernel⟩
def m_choices_1 : Mo Fl :=
    (sSet 1 (eLst aNil))
def m_choices_2 : Mo Fl :=
    (sExpr (eExt (eVar 1) (eCombs (eCall lenF (aCons (eVar 0) aNil)) (eVar 2))))
def m_choices_3 : Mo Fl :=
    (sFor (iRng rng2 (aCons (eC (.int 1)) (aCons (eBin addF (eCall lenF (aCons (eVar 0) aNil)) (eC (.int 1))) aNil))) (bName 2)
    m_choices_2)
def m_choices_4 : Mo Fl :=
    (sRet (eVar 1))
def m_choices : Mo Fl :=
    (sSeq m_choices_1
    (sSeq m_choices_3
    m_choices_4))
def F_choices := runP 2 m_choices
abbrev Cal_choices (P : Program) (w : World) (K : PySem.W.Frag) (mg : Str → Option Value) (base : Heap) (XC : XCl) : Prop := Cal P w K mg base "choices" s_choices 1 ["table"] (spP K XC 1 F_choices)
theorem ok_choices {f : Addr} {fd : FuncData} (T : Bts mg) (F : Fun K "choices" "choices" s_choices f fd) (hmg : mg "choices" = some (.ref f)) (hcomb : mg "combinations" = some (.type "itertools.combinations")) : Cal_choices P w K mg base XC := by
  refine ⟨f, fd, F, defP F sc_choices rfl rfl fun cdv A fr s H E B hn hp hG hr => ?_, hmg, F.binds fun _ _ _ _ _ _ us hl => match us, hl with | [_], _ => rfl⟩
  have nd := (sc_choices).nd
  have hi : ∀ i, i < 3 → i < B.n := fun i h => by rw [hn]; exact h
  have hm : ∀ i, True → i ∉ B.mp := fun i _ q => by rw [hp] at q; cases q
  have hu := hr.units
  have hu1 := room65 hr
  have hu2 := room65 hr
  unfold m_choices m_choices_4 m_choices_3 m_choices_2 m_choices_1
  exact (pdss_cons (pds_set (ps_set (i := 1) nd rfl (Or.inl rfl) (pd_lst pda_nil)) (fun _ _ _ h => h) (hi 1 (by decide)) (hm 1 (by decide)))
      (pdss_cons (pds_for passOwn rfl (pdi_range2 (pi_range2 rfl T.b_range (pda_cons d_int (pda_cons (d_add (pd_call (pe_callB call_len_seq rfl T.b_len (by decide +kernel) (pda_cons (d_var 0) pda_nil)) lenD) d_int) pda_nil)))) (pdg_name (pg_name (i := 2) nd rfl (Or.inl rfl)) (hi 2 (by decide)) (hm 2 (by decide)))
      (pdss_one (pds_expr (d_lextend1 (d_var 1) (d_combs (pd_call (pe_callB call_len_seq rfl T.b_len (by decide +kernel) (pda_cons (d_var 0) pda_nil)) lenD) (d_var 2) hcomb T.b_list T.b_range)))))
      (pdss_one (pds_ret (d_var 1)))))
/-! halving -/
abbrev s_halving : Stmt := topS 25
theorem sc_halving : FnScope ["table", "rows"] ["table", "rows"] (defScope s_halving) := ⟨rfl, rfl, rfl, by decide +kernel, rfl, by decide +kernel, by decide +kernel⟩
def m_halving_1 : Mo Fl :=
    (sExpr (eFn 1 F_need_table (aCons (eVar 0) aNil)))
def m_halving_2 : Mo Fl :=
    (sRaise "InvalidPart" (aCons (eFn 1 F_anew (aCons (eVar 1) aNil)) aNil))
def m_halving_3 : Mo Fl :=
    (sIf (cNot (cV (eFn 2 F_are_indexes (aCons (eVar 1) (aCons (eCall lenF (aCons (eVar 0) aNil)) aNil)))))
    m_halving_2
    sNx)
def m_halving_4 : Mo Fl :=
    (sRet (eFn 2 F_first_halving (aCons (eVar 0) (aCons (eVar 1) aNil))))
def m_halving : Mo Fl :=
    (sSeq m_halving_1
    (sSeq m_halving_3
    m_halving_4))
def F_halving := runP 0 m_halving
abbrev Cal_halving (P : Program) (w : World) (K : PySem.W.Frag) (mg : Str → Option Value) (base : Heap) (XC : XCl) : Prop := Cal P w K mg base "halving" s_halving 5 ["table", "rows"] (spP K XC 2 F_halving)
theorem ok_halving {f : Addr} {fd : FuncData} (T : Bts mg) (F : Fun K "halving" "halving" s_halving f fd) (hmg : mg "halving" = some (.ref f)) (C_anew : Cal_anew P w K mg base XC) (C_are_indexes : Cal_are_indexes P w K mg base XC) (C_first_halving : Cal_first_halving P w K mg base XC) (C_need_table : Cal_need_table P w K mg base XC) {A_InvalidPart : Addr} (X_InvalidPart : ExCls P K mg "InvalidPart" A_InvalidPart) (hXC_InvalidPart : XC "InvalidPart" A_InvalidPart) : Cal_halving P w K mg base XC := by
  refine ⟨f, fd, F, defP F sc_halving rfl rfl fun cdv A fr s H E B hn hp hG hr => ?_, hmg, F.binds fun _ _ _ _ _ _ us hl => match us, hl with | [_, _], _ => rfl⟩
  have nd := (sc_halving).nd
  have hi : ∀ i, i < 2 → i < B.n := fun i h => by rw [hn]; exact h
  have hm : ∀ i, True → i ∉ B.mp := fun i _ q => by rw [hp] at q; cases q
  have hu := hr.units
  have hu1 := room65 hr
  have hu2 := room65 hr
  unfold m_halving m_halving_4 m_halving_3 m_halving_2 m_halving_1
  exact (pdss_cons (pds_expr (d_call C_need_table hG (hr.mono (by decide)) passE hEW (pda_cons (d_var 0) pda_nil)))
      (pdss_cons (pds_if (pdt_not (t_val (d_call C_are_indexes hG (hr.mono (by decide)) passE hEW (pda_cons (d_var 1) (pda_cons (pd_call (pe_callB call_len_seq rfl T.b_len (by decide +kernel) (pda_cons (d_var 0) pda_nil)) lenD) pda_nil)))))
      (pdss_one (pds_raise X_InvalidPart rfl hr (takes_of rfl rfl rfl rfl) hEW hXC_InvalidPart (pda_cons (d_call C_anew hG (hr.mono (by decide)) passE hEW (pda_cons (d_var 1) pda_nil)) pda_nil)))
      pdss_nil)
      (pdss_one (pds_ret (d_call C_first_halving hG (hr.mono (by decide)) passE hEW (pda_cons (d_var 0) (pda_cons (d_var 1) pda_nil)))))))
/-! halvings -/
abbrev s_halvings : Stmt := topS 26
theorem sc_halvings : FnScope ["table", "found", "rows", "signs"] ["table"] (defScope s_halvings) := ⟨rfl, rfl, rfl, by decide +kernel, rfl, by decide +kernel, by decide +kernel⟩
def m_halvings_1 : Mo Fl :=
    (sExpr (eFn 1 F_need_table (aCons (eVar 0) aNil)))
def m_halvings_2 : Mo Fl :=
    (sSet 1 (eLst aNil))
def m_halvings_3 : Mo Fl :=
    (sSet 3 (eFn 2 F_first_halving (aCons (eVar 0) (aCons (eVar 2) aNil))))
def m_halvings_4 : Mo Fl :=
    (sRet (eTup (aCons (eC (.str "none")) (aCons (eVar 2) aNil))))
def m_halvings_5 : Mo Fl :=
    (sIf (cV (eBin isF (eVar 3) (eC .none)))
    m_halvings_4
    sNx)
def m_halvings_6 : Mo Fl :=
    (sExpr (eMut appendF (eVar 1) (aCons (eTup (aCons (eVar 2) (aCons (eVar 3) aNil))) aNil)))
def m_halvings_7 : Mo Fl :=
    (sFor (iSeq (eFn 1 F_choices (aCons (eVar 0) aNil))) (bName 2)
    (sSeq m_halvings_3
    (sSeq m_halvings_5
    m_halvings_6)))
def m_halvings_8 : Mo Fl :=
    (sRet (eTup (aCons (eC (.str "all")) (aCons (eCall tupF (aCons (eCall sortF (aCons (eVar 1) aNil)) aNil)) aNil))))
def m_halvings : Mo Fl :=
    (sSeq m_halvings_1
    (sSeq m_halvings_2
    (sSeq m_halvings_7
    m_halvings_8)))
def F_halvings := runP 3 m_halvings
abbrev Cal_halvings (P : Program) (w : World) (K : PySem.W.Frag) (mg : Str → Option Value) (base : Heap) (XC : XCl) : Prop := Cal P w K mg base "halvings" s_halvings 5 ["table"] (spP K XC 1 F_halvings)
theorem ok_halvings {f : Addr} {fd : FuncData} (T : Bts mg) (F : Fun K "halvings" "halvings" s_halvings f fd) (hmg : mg "halvings" = some (.ref f)) (C_choices : Cal_choices P w K mg base XC) (C_first_halving : Cal_first_halving P w K mg base XC) (C_need_table : Cal_need_table P w K mg base XC) : Cal_halvings P w K mg base XC := by
  refine ⟨f, fd, F, defP F sc_halvings rfl rfl fun cdv A fr s H E B hn hp hG hr => ?_, hmg, F.binds fun _ _ _ _ _ _ us hl => match us, hl with | [_], _ => rfl⟩
  have nd := (sc_halvings).nd
  have hi : ∀ i, i < 4 → i < B.n := fun i h => by rw [hn]; exact h
  have hm : ∀ i, True → i ∉ B.mp := fun i _ q => by rw [hp] at q; cases q
  have hu := hr.units
  have hu1 := room65 hr
  have hu2 := room65 hr
  unfold m_halvings m_halvings_8 m_halvings_7 m_halvings_6 m_halvings_5 m_halvings_4 m_halvings_3 m_halvings_2 m_halvings_1
  exact (pdss_cons (pds_expr (d_call C_need_table hG (hr.mono (by decide)) passE hEW (pda_cons (d_var 0) pda_nil)))
      (pdss_cons (pds_set (ps_set (i := 1) nd rfl (Or.inl rfl) (pd_lst pda_nil)) (fun _ _ _ h => h) (hi 1 (by decide)) (hm 1 (by decide)))
      (pdss_cons (pds_for passOwn rfl (pdi_seq (d_call C_choices hG (hr.mono (by decide)) passE hEW (pda_cons (d_var 0) pda_nil))) (pdg_name (pg_name (i := 2) nd rfl (Or.inl rfl)) (hi 2 (by decide)) (hm 2 (by decide)))
      (pdss_cons (pds_set (ps_set (i := 3) nd rfl (Or.inl rfl) (d_call C_first_halving hG (hr.mono (by decide)) passE hEW (pda_cons (d_var 0) (pda_cons (d_var 2) pda_nil)))) (fun _ _ _ h => h) (hi 3 (by decide)) (hm 3 (by decide)))
      (pdss_cons (pds_if (t_is (d_var 3) d_non)
      (pdss_one (pds_ret (pd_tup (pda_cons d_str (pda_cons (d_var 2) pda_nil)))))
      pdss_nil)
      (pdss_one (pds_expr (d_lappend (d_var 1) (pd_tup (pda_cons (d_var 2) (pda_cons (d_var 3) pda_nil)))))))))
      (pdss_one (pds_ret (pd_tup (pda_cons d_str (pda_cons (pd_call (pe_callTy call_tuple_of rfl T.b_tuple (by decide +kernel) (pda_cons (pd_call (pe_callB (call_sortedD hu2) rfl T.b_sorted (by decide +kernel) (pda_cons (d_var 1) pda_nil)) sortD) pda_nil)) tupD) pda_nil))))))))
/-! is_halving -/
abbrev s_is_halving : Stmt := topS 27
theorem sc_is_halving : FnScope ["table", "rows", "value", "sign"] ["table", "rows", "value"] (defScope s_is_halving) := ⟨rfl, rfl, rfl, by decide +kernel, rfl, by decide +kernel, by decide +kernel⟩
def m_is_halving_1 : Mo Vl :=
    (eLc (iSeq (eVar 2)) (bName 3) cYes (eFn 3 F_is_between (aCons (eVar 3) (aCons (eUn negF (eC (.int 1))) (aCons (eC (.int 1)) aNil)))) [3])
def m_is_halving_2 : Mo Fl :=
    (sRet (eC (.bool false)))
def m_is_halving_3 : Mo Fl :=
    (sIf (cOr (cNot (cV (eFn 3 F_is_tuple (aCons (eVar 2) (aCons (eCall lenF (aCons (eVar 1) aNil)) (aCons (eCall lenF (aCons (eVar 1) aNil)) aNil)))))) (cNot (cV (eCall allF (aCons m_is_halving_1 aNil)))))
    m_is_halving_2
    sNx)
def m_is_halving_4 : Mo Fl :=
    (sRet (eAnd (eBin ninF (eC (.int 0)) (eVar 2)) (eAnd (eBin eqF (eBin ixF (eVar 2) (eC (.int 0))) (eC (.int 1))) (eFn 3 F_halves (aCons (eVar 0) (aCons (eVar 1) (aCons (eVar 2) aNil)))))))
def m_is_halving : Mo Fl :=
    (sSeq m_is_halving_3
    m_is_halving_4)
def F_is_halving := runP 1 m_is_halving
abbrev Cal_is_halving (P : Program) (w : World) (K : PySem.W.Frag) (mg : Str → Option Value) (base : Heap) (XC : XCl) : Prop := Cal P w K mg base "is_halving" s_is_halving 3 ["table", "rows", "value"] (spP K XC 3 F_is_halving)
theorem ok_is_halving {f : Addr} {fd : FuncData} (T : Bts mg) (F : Fun K "is_halving" "is_halving" s_is_halving f fd) (hmg : mg "is_halving" = some (.ref f)) (C_halves : Cal_halves P w K mg base XC) (C_is_between : Cal_is_between P w K mg base XC) (C_is_tuple : Cal_is_tuple P w K mg base XC) : Cal_is_halving P w K mg base XC := by
  refine ⟨f, fd, F, defP F sc_is_halving rfl rfl fun cdv A fr s H E B hn hp hG hr => ?_, hmg, F.binds fun _ _ _ _ _ _ us hl => match us, hl with | [_, _, _], _ => rfl⟩
  have nd := (sc_is_halving).nd
  have hi : ∀ i, i < 4 → i < B.n := fun i h => by rw [hn]; exact h
  have hm : ∀ i, True → i ∉ B.mp := fun i _ q => by rw [hp] at q; cases q
  have hu := hr.units
  have hu1 := room65 hr
  have hu2 := room65 hr
  unfold m_is_halving m_is_halving_4 m_is_halving_3 m_is_halving_2 m_is_halving_1
  exact (pdss_cons (pds_if (PW.pt (pdw_or (pdt_not (t_val (d_call C_is_tuple hG (hr.mono (by decide)) passE hEW (pda_cons (d_var 2) (pda_cons (pd_call (pe_callB call_len_seq rfl T.b_len (by decide +kernel) (pda_cons (d_var 1) pda_nil)) lenD) (pda_cons (pd_call (pe_callB call_len_seq rfl T.b_len (by decide +kernel) (pda_cons (d_var 1) pda_nil)) lenD) pda_nil)))))) (pdw_or1 (pdt_not (t_val (pd_call (pe_callB (cr_all rfl) rfl T.b_all (by decide +kernel) (pda_cons (d_lc (own := [("sign", 3)]) rfl nd (blkOk_by (own := [("sign", 3)]) (by kernel_rfl)) (pdi_seq (d_var 2)) (fun _ _ _ _ _ => (pdg_name (pg_name (i := 3) nd rfl (Or.inl rfl)) (hi 3 (by decide)) (hm 3 (by decide)))) (fun _ _ _ _ _ => pdts_nil) (fun _ _ _ _ _ => (d_call C_is_between hG (hr.mono (by decide)) passL hE0 (pda_cons (d_var 3) (pda_cons (d_neg d_int) (pda_cons d_int pda_nil))))) (by decide)) pda_nil)) allD))))))
      (pdss_one (pds_ret d_bl))
      pdss_nil)
      (pdss_one (pds_ret (pd_and (d_notin d_int (d_var 2) hu1) (pd_and (d_eq (d_ix (d_var 2) d_int) d_int hu) (pd_one (d_call C_halves hG (hr.mono (by decide)) passE hEW (pda_cons (d_var 0) (pda_cons (d_var 1) (pda_cons (d_var 2) pda_nil))))))))))
/-! halvings_hold -/
abbrev s_halvings_hold : Stmt := topS 28
theorem sc_halvings_hold : FnScope ["table", "value", "rows", "signs", "own"] ["table", "value"] (defScope s_halvings_hold) := ⟨rfl, rfl, rfl, by decide +kernel, rfl, by decide +kernel, by decide +kernel⟩
def m_halvings_hold_1 : Mo Fl :=
    (sExpr (eFn 1 F_need_table (aCons (eVar 0) aNil)))
def m_halvings_hold_2 : Mo Fl :=
    (sRet (eC (.bool false)))
def m_halvings_hold_3 : Mo Fl :=
    (sIf (cOr (cNot (cV (eFn 3 F_is_tuple (aCons (eVar 1) (aCons (eC (.int 2)) (aCons (eC (.int 2)) aNil)))))) (cNot (cV (eFn 2 F_is_word (aCons (eBin ixF (eVar 1) (eC (.int 0))) (aCons (eLst (aCons (eC (.str "all")) (aCons (eC (.str "none")) aNil))) aNil))))))
    m_halvings_hold_2
    sNx)
def m_halvings_hold_4 : Mo Fl :=
    (sRet (eAnd (eFn 2 F_are_indexes (aCons (eBin ixF (eVar 1) (eC (.int 1))) (aCons (eCall lenF (aCons (eVar 0) aNil)) aNil))) (eBin isF (eFn 2 F_first_halving (aCons (eVar 0) (aCons (eBin ixF (eVar 1) (eC (.int 1))) aNil))) (eC .none))))
def m_halvings_hold_5 : Mo Fl :=
    (sIf (cV (eBin eqF (eBin ixF (eVar 1) (eC (.int 0))) (eC (.str "none"))))
    m_halvings_hold_4
    sNx)
def m_halvings_hold_6 : Mo Vl :=
    (eLc (iSeq (eBin ixF (eVar 1) (eC (.int 1)))) (bName 4) cYes (eFn 3 F_is_tuple (aCons (eVar 4) (aCons (eC (.int 2)) (aCons (eC (.int 2)) aNil)))) [4])
def m_halvings_hold_7 : Mo Fl :=
    (sRet (eC (.bool false)))
def m_halvings_hold_8 : Mo Fl :=
    (sIf (cOr (cNot (cV (eUn (isiF "tuple") (eBin ixF (eVar 1) (eC (.int 1)))))) (cNot (cV (eCall allF (aCons m_halvings_hold_6 aNil)))))
    m_halvings_hold_7
    sNx)
def m_halvings_hold_9 : Mo Vl :=
    (eLc (iSeq (eBin ixF (eVar 1) (eC (.int 1)))) (bTup [(bName 2), (bName 3)]) cYes (eFn 2 F_are_indexes (aCons (eVar 2) (aCons (eCall lenF (aCons (eVar 0) aNil)) aNil))) [2, 3])
def m_halvings_hold_10 : Mo Fl :=
    (sRet (eC (.bool false)))
def m_halvings_hold_11 : Mo Fl :=
    (sIf (cNot (cV (eCall allF (aCons m_halvings_hold_9 aNil))))
    m_halvings_hold_10
    sNx)
def m_halvings_hold_12 : Mo Vl :=
    (eLc (iSeq (eBin ixF (eVar 1) (eC (.int 1)))) (bTup [(bName 2), (bName 3)]) cYes (eVar 2) [2, 3])
def m_halvings_hold_13 : Mo Fl :=
    (sRet (eC (.bool false)))
def m_halvings_hold_14 : Mo Fl :=
    (sIf (cV (eBin neF m_halvings_hold_12 (eCall sortF (aCons (eFn 1 F_choices (aCons (eVar 0) aNil)) aNil))))
    m_halvings_hold_13
    sNx)
def m_halvings_hold_15 : Mo Vl :=
    (eLc (iSeq (eBin ixF (eVar 1) (eC (.int 1)))) (bTup [(bName 2), (bName 3)]) cYes (eFn 3 F_is_halving (aCons (eVar 0) (aCons (eVar 2) (aCons (eVar 3) aNil)))) [2, 3])
def m_halvings_hold_16 : Mo Fl :=
    (sRet (eCall allF (aCons m_halvings_hold_15 aNil)))
def m_halvings_hold : Mo Fl :=
    (sSeq m_halvings_hold_1
    (sSeq m_halvings_hold_3
    (sSeq m_halvings_hold_5
    (sSeq m_halvings_hold_8
    (sSeq m_halvings_hold_11
    (sSeq m_halvings_hold_14
    m_halvings_hold_16))))))
def F_halvings_hold := runP 3 m_halvings_hold
abbrev Cal_halvings_hold (P : Program) (w : World) (K : PySem.W.Frag) (mg : Str → Option Value) (base : Heap) (XC : XCl) : Prop := Cal P w K mg base "halvings_hold" s_halvings_hold 5 ["table", "value"] (spP K XC 2 F_halvings_hold)
theorem ok_halvings_hold {f : Addr} {fd : FuncData} (T : Bts mg) (F : Fun K "halvings_hold" "halvings_hold" s_halvings_hold f fd) (hmg : mg "halvings_hold" = some (.ref f)) (C_are_indexes : Cal_are_indexes P w K mg base XC) (C_choices : Cal_choices P w K mg base XC) (C_first_halving : Cal_first_halving P w K mg base XC) (C_is_halving : Cal_is_halving P w K mg base XC) (C_is_tuple : Cal_is_tuple P w K mg base XC) (C_is_word : Cal_is_word P w K mg base XC) (C_need_table : Cal_need_table P w K mg base XC) : Cal_halvings_hold P w K mg base XC := by
  refine ⟨f, fd, F, defP F sc_halvings_hold rfl rfl fun cdv A fr s H E B hn hp hG hr => ?_, hmg, F.binds fun _ _ _ _ _ _ us hl => match us, hl with | [_, _], _ => rfl⟩
  have nd := (sc_halvings_hold).nd
  have hi : ∀ i, i < 5 → i < B.n := fun i h => by rw [hn]; exact h
  have hm : ∀ i, True → i ∉ B.mp := fun i _ q => by rw [hp] at q; cases q
  have hu := hr.units
  have hu1 := room65 hr
  have hu2 := room65 hr
  unfold m_halvings_hold m_halvings_hold_16 m_halvings_hold_15 m_halvings_hold_14 m_halvings_hold_13 m_halvings_hold_12 m_halvings_hold_11 m_halvings_hold_10 m_halvings_hold_9 m_halvings_hold_8 m_halvings_hold_7 m_halvings_hold_6 m_halvings_hold_5 m_halvings_hold_4 m_halvings_hold_3 m_halvings_hold_2 m_halvings_hold_1
  exact (pdss_cons (pds_expr (d_call C_need_table hG (hr.mono (by decide)) passE hEW (pda_cons (d_var 0) pda_nil)))
      (pdss_cons (pds_if (PW.pt (pdw_or (pdt_not (t_val (d_call C_is_tuple hG (hr.mono (by decide)) passE hEW (pda_cons (d_var 1) (pda_cons d_int (pda_cons d_int pda_nil)))))) (pdw_or1 (pdt_not (t_val (d_call C_is_word hG (hr.mono (by decide)) passE hEW (pda_cons (d_ix (d_var 1) d_int) (pda_cons (pd_lst (pda_cons d_str (pda_cons d_str pda_nil))) pda_nil))))))))
      (pdss_one (pds_ret d_bl))
      pdss_nil)
      (pdss_cons (pds_if (t_eq (d_ix (d_var 1) d_int) d_str hu)
      (pdss_one (pds_ret (pd_and (d_call C_are_indexes hG (hr.mono (by decide)) passE hEW (pda_cons (d_ix (d_var 1) d_int) (pda_cons (pd_call (pe_callB call_len_seq rfl T.b_len (by decide +kernel) (pda_cons (d_var 0) pda_nil)) lenD) pda_nil))) (pd_one (d_is (d_call C_first_halving hG (hr.mono (by decide)) passE hEW (pda_cons (d_var 0) (pda_cons (d_ix (d_var 1) d_int) pda_nil))) d_non)))))
      pdss_nil)
      (pdss_cons (pds_if (PW.pt (pdw_or (pdt_not (t_val (d_isi (d_ix (d_var 1) d_int) T.b_isinstance (ty_tuple T.b_tuple)))) (pdw_or1 (pdt_not (t_val (pd_call (pe_callB (cr_all rfl) rfl T.b_all (by decide +kernel) (pda_cons (d_lc (own := [("own", 4)]) rfl nd (blkOk_by (own := [("own", 4)]) (by kernel_rfl)) (pdi_seq (d_ix (d_var 1) d_int)) (fun _ _ _ _ _ => (pdg_name (pg_name (i := 4) nd rfl (Or.inl rfl)) (hi 4 (by decide)) (hm 4 (by decide)))) (fun _ _ _ _ _ => pdts_nil) (fun _ _ _ _ _ => (d_call C_is_tuple hG (hr.mono (by decide)) passL hE0 (pda_cons (d_var 4) (pda_cons d_int (pda_cons d_int pda_nil))))) (by decide)) pda_nil)) allD))))))
      (pdss_one (pds_ret d_bl))
      pdss_nil)
      (pdss_cons (pds_if (pdt_not (t_val (pd_call (pe_callB (cr_all rfl) rfl T.b_all (by decide +kernel) (pda_cons (d_lc (own := [("rows", 2), ("signs", 3)]) rfl nd (blkOk_by (own := [("rows", 2), ("signs", 3)]) (by kernel_rfl)) (pdi_seq (d_ix (d_var 1) d_int)) (fun _ _ _ _ _ => (pdg_tup (pg_tup rfl (pdgs_cons (pdg_name (pg_name (i := 2) nd rfl (Or.inl rfl)) (hi 2 (by decide)) (hm 2 (by decide))) (pdgs_cons (pdg_name (pg_name (i := 3) nd rfl (Or.inl rfl)) (hi 3 (by decide)) (hm 3 (by decide))) pdgs_nil))) rfl)) (fun _ _ _ _ _ => pdts_nil) (fun _ _ _ _ _ => (d_call C_are_indexes hG (hr.mono (by decide)) passL hE0 (pda_cons (d_var 2) (pda_cons (pd_call (pe_callB call_len_seq rfl T.b_len (by decide +kernel) (pda_cons (d_var 0) pda_nil)) lenD) pda_nil)))) (by decide)) pda_nil)) allD)))
      (pdss_one (pds_ret d_bl))
      pdss_nil)
      (pdss_cons (pds_if (t_ne (d_lc (own := [("rows", 2), ("signs", 3)]) rfl nd (blkOk_by (own := [("rows", 2), ("signs", 3)]) (by kernel_rfl)) (pdi_seq (d_ix (d_var 1) d_int)) (fun _ _ _ _ _ => (pdg_tup (pg_tup rfl (pdgs_cons (pdg_name (pg_name (i := 2) nd rfl (Or.inl rfl)) (hi 2 (by decide)) (hm 2 (by decide))) (pdgs_cons (pdg_name (pg_name (i := 3) nd rfl (Or.inl rfl)) (hi 3 (by decide)) (hm 3 (by decide))) pdgs_nil))) rfl)) (fun _ _ _ _ _ => pdts_nil) (fun _ _ _ _ _ => (d_var 2)) (by decide)) (pd_call (pe_callB (call_sortedD hu2) rfl T.b_sorted (by decide +kernel) (pda_cons (d_call C_choices hG (hr.mono (by decide)) passE hEW (pda_cons (d_var 0) pda_nil)) pda_nil)) sortD) hu)
      (pdss_one (pds_ret d_bl))
      pdss_nil)
      (pdss_one (pds_ret (pd_call (pe_callB (cr_all rfl) rfl T.b_all (by decide +kernel) (pda_cons (d_lc (own := [("rows", 2), ("signs", 3)]) rfl nd (blkOk_by (own := [("rows", 2), ("signs", 3)]) (by kernel_rfl)) (pdi_seq (d_ix (d_var 1) d_int)) (fun _ _ _ _ _ => (pdg_tup (pg_tup rfl (pdgs_cons (pdg_name (pg_name (i := 2) nd rfl (Or.inl rfl)) (hi 2 (by decide)) (hm 2 (by decide))) (pdgs_cons (pdg_name (pg_name (i := 3) nd rfl (Or.inl rfl)) (hi 3 (by decide)) (hm 3 (by decide))) pdgs_nil))) rfl)) (fun _ _ _ _ _ => pdts_nil) (fun _ _ _ _ _ => (d_call C_is_halving hG (hr.mono (by decide)) passL hE0 (pda_cons (d_var 0) (pda_cons (d_var 2) (pda_cons (d_var 3) pda_nil))))) (by decide)) pda_nil)) allD)))))))))
/-! _law_pool -/
abbrev s__law_pool : Stmt := topS 30
theorem sc__law_pool : FnScope ["script", "many", "pool", "seed", "cell", "k", "left"] ["script", "many"] (defScope s__law_pool) := ⟨rfl, rfl, rfl, by decide +kernel, rfl, by decide +kernel, by decide +kernel⟩
def m__law_pool_1 : Mo Fl :=
    (sSet 2 (eLst aNil))
def m__law_pool_2 : Mo Fl :=
    (sSet 3 (eC (.int 22664)))
def m__law_pool_3 : Mo Fl :=
    (sSet 6 (eCall absF (aCons (eCall intF (aCons (eVar 4) aNil)) aNil)))
def m__law_pool_4 : Mo Fl :=
    (sSet 3 (eBin modF (eBin addF (eBin addF (eBin addF (eBin mulF (eVar 3) (eC (.int 48271))) (eBin modF (eCall intF (aCons (eVar 6) aNil)) (eC (.int 2147483629)))) (eBin mulF (eC (.int 7)) (eCall lenF (aCons (eVar 2) aNil)))) (eCall intF (aCons (eBin ltF (eVar 4) (eC (.int 0))) aNil))) (eC (.int 2147483647))))
def m__law_pool_5 : Mo Fl :=
    (sExpr (eMut appendF (eVar 2) (aCons (eBin modF (eCall intF (aCons (eVar 6) aNil)) (eC (.int 1000))) aNil)))
def m__law_pool_6 : Mo Fl :=
    (sSet 6 (eBin fdivF (eVar 6) (eC (.int 1000))))
def m__law_pool_7 : Mo Fl :=
    (sIf (cV (eBin gtF (eVar 6) (eC (.int 0))))
    (sSeq m__law_pool_5
    m__law_pool_6)
    sNx)
def m__law_pool_8 : Mo Fl :=
    (sFor (iRng rng1 (aCons (eC (.int 60)) aNil)) (bName 5)
    m__law_pool_7)
def m__law_pool_9 : Mo Fl :=
    (sIf (cV (eBin geF (eVar 6) (eBin powF (eC (.int 10)) (eC (.int 18)))))
    m__law_pool_8
    sNx)
def m__law_pool_10 : Mo Fl :=
    (sFor (iSeq (eSl (eVar 0) partN (partS (eC (.int 63))))) (bName 4)
    (sSeq m__law_pool_3
    (sSeq m__law_pool_4
    m__law_pool_9)))
def m__law_pool_11 : Mo Fl :=
    (sSet 3 (eBin modF (eBin addF (eBin addF (eBin mulF (eVar 3) (eC (.int 69621))) (eC (.int 12347))) (eVar 5)) (eC (.int 2147483647))))
def m__law_pool_12 : Mo Fl :=
    (sExpr (eMut appendF (eVar 2) (aCons (eBin modF (eBin fdivF (eBin modF (eCall intF (aCons (eBin mulF (eVar 3) (eBin addF (eBin addF (eVar 3) (eBin mulF (eC (.int 2)) (eVar 5))) (eC (.int 1)))) aNil)) (eC (.int 2147483629))) (eC (.int 1009))) (eC (.int 1000))) aNil)))
def m__law_pool_13 : Mo Fl :=
    (sFor (iRng rng1 (aCons (eVar 1) aNil)) (bName 5)
    (sSeq m__law_pool_11
    m__law_pool_12))
def m__law_pool_14 : Mo Fl :=
    (sRet (eUn revA (eVar 2)))
def m__law_pool : Mo Fl :=
    (sSeq m__law_pool_1
    (sSeq m__law_pool_2
    (sSeq m__law_pool_10
    (sSeq m__law_pool_13
    m__law_pool_14))))
def F__law_pool := runP 5 m__law_pool
abbrev Cal__law_pool (P : Program) (w : World) (K : PySem.W.Frag) (mg : Str → Option Value) (base : Heap) (XC : XCl) : Prop := Cal P w K mg base "_law_pool" s__law_pool 1 ["script", "many"] (spP K XC 2 F__law_pool)
theorem ok__law_pool {f : Addr} {fd : FuncData} (T : Bts mg) (F : Fun K "_law_pool" "_law_pool" s__law_pool f fd) (hmg : mg "_law_pool" = some (.ref f)) : Cal__law_pool P w K mg base XC := by
  refine ⟨f, fd, F, defP F sc__law_pool rfl rfl fun cdv A fr s H E B hn hp hG hr => ?_, hmg, F.binds fun _ _ _ _ _ _ us hl => match us, hl with | [_, _], _ => rfl⟩
  have nd := (sc__law_pool).nd
  have hi : ∀ i, i < 7 → i < B.n := fun i h => by rw [hn]; exact h
  have hm : ∀ i, True → i ∉ B.mp := fun i _ q => by rw [hp] at q; cases q
  have hu := hr.units
  have hu1 := room65 hr
  have hu2 := room65 hr
  unfold m__law_pool m__law_pool_14 m__law_pool_13 m__law_pool_12 m__law_pool_11 m__law_pool_10 m__law_pool_9 m__law_pool_8 m__law_pool_7 m__law_pool_6 m__law_pool_5 m__law_pool_4 m__law_pool_3 m__law_pool_2 m__law_pool_1
  exact (pdss_cons (pds_set (ps_set (i := 2) nd rfl (Or.inl rfl) (pd_lst pda_nil)) (fun _ _ _ h => h) (hi 2 (by decide)) (hm 2 (by decide)))
      (pdss_cons (pds_set (ps_set (i := 3) nd rfl (Or.inl rfl) d_int) (fun _ _ _ h => h) (hi 3 (by decide)) (hm 3 (by decide)))
      (pdss_cons (pds_for passOwn rfl (pdi_seq (d_slice (d_var 0) pdo_none (pdo_some d_int))) (pdg_name (pg_name (i := 4) nd rfl (Or.inl rfl)) (hi 4 (by decide)) (hm 4 (by decide)))
      (pdss_cons (pds_set (ps_set (i := 6) nd rfl (Or.inl rfl) (pd_call (pe_callB call_abs rfl T.b_abs (by decide +kernel) (pda_cons (pd_call (pe_callTy call_int1 rfl T.b_int (by decide +kernel) (pda_cons (d_var 4) pda_nil)) intD) pda_nil)) absD)) (fun _ _ _ h => h) (hi 6 (by decide)) (hm 6 (by decide)))
      (pdss_cons (pds_set (ps_set (i := 3) nd rfl (Or.inl rfl) (d_mod (d_add (d_add (d_add (d_mul (d_var 3) d_int) (d_mod (pd_call (pe_callTy call_int1 rfl T.b_int (by decide +kernel) (pda_cons (d_var 6) pda_nil)) intD) d_int)) (d_mul d_int (pd_call (pe_callB call_len_seq rfl T.b_len (by decide +kernel) (pda_cons (d_var 2) pda_nil)) lenD))) (pd_call (pe_callTy call_int1 rfl T.b_int (by decide +kernel) (pda_cons (d_lt (d_var 4) d_int) pda_nil)) intD)) d_int)) (fun _ _ _ h => h) (hi 3 (by decide)) (hm 3 (by decide)))
      (pdss_one (pds_if (t_ge (d_var 6) (d_pow d_int d_int))
      (pdss_one (pds_for passOwn rfl (pdi_range1 (pi_range1 rfl T.b_range (pda_cons d_int pda_nil))) (pdg_name (pg_name (i := 5) nd rfl (Or.inl rfl)) (hi 5 (by decide)) (hm 5 (by decide)))
      (pdss_one (pds_if (t_gt (d_var 6) d_int)
      (pdss_cons (pds_expr (d_lappend (d_var 2) (d_mod (pd_call (pe_callTy call_int1 rfl T.b_int (by decide +kernel) (pda_cons (d_var 6) pda_nil)) intD) d_int)))
      (pdss_one (pds_set (ps_set (i := 6) nd rfl (Or.inl rfl) (d_fdiv (d_var 6) d_int)) (fun _ _ _ h => h) (hi 6 (by decide)) (hm 6 (by decide)))))
      pdss_nil))))
      pdss_nil)))))
      (pdss_cons (pds_for passOwn rfl (pdi_range1 (pi_range1 rfl T.b_range (pda_cons (d_var 1) pda_nil))) (pdg_name (pg_name (i := 5) nd rfl (Or.inl rfl)) (hi 5 (by decide)) (hm 5 (by decide)))
      (pdss_cons (pds_set (ps_set (i := 3) nd rfl (Or.inl rfl) (d_mod (d_add (d_add (d_mul (d_var 3) d_int) d_int) (d_var 5)) d_int)) (fun _ _ _ h => h) (hi 3 (by decide)) (hm 3 (by decide)))
      (pdss_one (pds_expr (d_lappend (d_var 2) (d_mod (d_fdiv (d_mod (pd_call (pe_callTy call_int1 rfl T.b_int (by decide +kernel) (pda_cons (d_mul (d_var 3) (d_add (d_add (d_var 3) (d_mul d_int (d_var 5))) d_int)) pda_nil)) intD) d_int) d_int) d_int))))))
      (pdss_one (pds_ret (d_revA (d_var 2))))))))
/-! _law_take -/
abbrev s__law_take : Stmt := topS 31
theorem sc__law_take : FnScope ["pool", "limit"] ["pool", "limit"] (defScope s__law_take) := ⟨rfl, rfl, rfl, by decide +kernel, rfl, by decide +kernel, by decide +kernel⟩
def m__law_take_1 : Mo Fl :=
    (sRet (eC (.int 0)))
def m__law_take_2 : Mo Fl :=
    (sIf (cV (eBin eqF (eVar 0) (eLst aNil)))
    m__law_take_1
    sNx)
def m__law_take_3 : Mo Fl :=
    (sRet (eBin modF (eCall intF (aCons (eMut popF (eVar 0) aNil) aNil)) (eVar 1)))
def m__law_take : Mo Fl :=
    (sSeq m__law_take_2
    m__law_take_3)
def F__law_take := runM 0 m__law_take
abbrev Cal__law_take (P : Program) (w : World) (K : PySem.W.Frag) (mg : Str → Option Value) (base : Heap) (XC : XCl) : Prop := Cal P w K mg base "_law_take" s__law_take 1 ["pool", "limit"] (spM K 1 F__law_take)
theorem ok__law_take {f : Addr} {fd : FuncData} (T : Bts mg) (F : Fun K "_law_take" "_law_take" s__law_take f fd) (hmg : mg "_law_take" = some (.ref f)) : Cal__law_take P w K mg base XC := by
  refine ⟨f, fd, F, defM F sc__law_take rfl rfl fun cdv A fr s H E B hn hp hG hr => ?_, hmg, F.binds fun _ _ _ _ _ _ us hl => match us, hl with | [_, _], _ => rfl⟩
  have nd := (sc__law_take).nd
  have hi : ∀ i, i < 2 → i < B.n := fun i h => by rw [hn]; exact h
  have hm : ∀ i, i ≠ 0 → i ∉ B.mp := fun i h q => by rw [hp] at q; exact h (by simpa using q)
  have hu := hr.units
  have hu1 := room65 hr
  have hu2 := room65 hr
  unfold m__law_take m__law_take_3 m__law_take_2 m__law_take_1
  exact (pdss_cons (pds_if (t_eq (d_var 0) (pd_lst pda_nil) hu)
      (pdss_one (pds_ret d_int))
      pdss_nil)
      (pdss_one (pds_ret (d_mod (pd_call (pe_callTy call_int1 rfl T.b_int (by decide +kernel) (pda_cons (d_lpop (d_var 0)) pda_nil)) intD) (d_var 1)))))
/-! _law_table -/
abbrev s__law_table : Stmt := topS 32
theorem sc__law_table : FnScope ["pool", "most", "many", "wide", "kind", "rows", "i", "items", "first", "last", "j"] ["pool", "most"] (defScope s__law_table) := ⟨rfl, rfl, rfl, by decide +kernel, rfl, by decide +kernel, by decide +kernel⟩
def m__law_table_1 : Mo Fl :=
    (sSets [2, 3, 4] (aCons (eBin addF (eC (.int 1)) (eFnM 1 F__law_take (aCons (eVar 0) (aCons (eVar 1) aNil)))) (aCons (eBin addF (eC (.int 1)) (eFnM 1 F__law_take (aCons (eVar 0) (aCons (eVar 1) aNil)))) (aCons (eFnM 1 F__law_take (aCons (eVar 0) (aCons (eC (.int 4)) aNil))) aNil))))
def m__law_table_2 : Mo Fl :=
    (sSet 5 (eLst aNil))
def m__law_table_3 : Mo Vl :=
    (eLc (iRng rng1 (aCons (eVar 3) aNil)) (bName 10) cYes (eBin ixF (eLst (aCons (eC (.int 0)) (aCons (eC (.int 0)) (aCons (eC (.int 1)) (aCons (eC (.int 1)) (aCons (eUn negF (eC (.int 1))) (aCons (eC (.int 0)) (aCons (eC (.int 1)) aNil)))))))) (eFnM 1 F__law_take (aCons (eVar 0) (aCons (eC (.int 7)) aNil)))) [10])
def m__law_table_4 : Mo Fl :=
    (sSet 7 m__law_table_3)
def m__law_table_5 : Mo Fl :=
    (sSets [8, 9] (aCons (eFnM 1 F__law_take (aCons (eVar 0) (aCons (eVar 3) aNil))) (aCons (eFnM 1 F__law_take (aCons (eVar 0) (aCons (eVar 3) aNil))) aNil)))
def m__law_table_6 : Mo Vl :=
    (eLc (iRng rng1 (aCons (eVar 3) aNil)) (bName 10) cYes (eCall intF (aCons (eChain leF leF (eVar 8) (eVar 10) (eVar 9)) aNil)) [10])
def m__law_table_7 : Mo Fl :=
    (sSet 7 m__law_table_6)
def m__law_table_8 : Mo Fl :=
    (sIf (cV (eBin eqF (eVar 4) (eC (.int 0))))
    (sSeq m__law_table_5
    m__law_table_7)
    sNx)
def m__law_table_9 : Mo Fl :=
    (sAsg (eBin subF (eFnM 1 F__law_take (aCons (eVar 0) (aCons (eC (.int 19)) aNil))) (eC (.int 9))) (bSub setF (eVar 7) (eFnM 1 F__law_take (aCons (eVar 0) (aCons (eVar 3) aNil)))))
def m__law_table_10 : Mo Fl :=
    (sIf (cAnd (cV (eBin eqF (eVar 4) (eC (.int 1)))) (cV (eBin eqF (eFnM 1 F__law_take (aCons (eVar 0) (aCons (eC (.int 3)) aNil))) (eC (.int 0)))))
    m__law_table_9
    sNx)
def m__law_table_11 : Mo Fl :=
    (sExpr (eMut appendF (eVar 5) (aCons (eCall tupF (aCons (eVar 7) aNil)) aNil)))
def m__law_table_12 : Mo Fl :=
    (sFor (iRng rng1 (aCons (eVar 2) aNil)) (bName 6)
    (sSeq m__law_table_4
    (sSeq m__law_table_8
    (sSeq m__law_table_10
    m__law_table_11))))
def m__law_table_13 : Mo Fl :=
    (sRet (eCall tupF (aCons (eVar 5) aNil)))
def m__law_table : Mo Fl :=
    (sSeq m__law_table_1
    (sSeq m__law_table_2
    (sSeq m__law_table_12
    m__law_table_13)))
def F__law_table := runM 9 m__law_table
abbrev Cal__law_table (P : Program) (w : World) (K : PySem.W.Frag) (mg : Str → Option Value) (base : Heap) (XC : XCl) : Prop := Cal P w K mg base "_law_table" s__law_table 2 ["pool", "most"] (spM K 1 F__law_table)
theorem ok__law_table {f : Addr} {fd : FuncData} (T : Bts mg) (F : Fun K "_law_table" "_law_table" s__law_table f fd) (hmg : mg "_law_table" = some (.ref f)) (C__law_take : Cal__law_take P w K mg base XC) : Cal__law_table P w K mg base XC := by
  refine ⟨f, fd, F, defM F sc__law_table rfl rfl fun cdv A fr s H E B hn hp hG hr => ?_, hmg, F.binds fun _ _ _ _ _ _ us hl => match us, hl with | [_, _], _ => rfl⟩
  have nd := (sc__law_table).nd
  have hi : ∀ i, i < 11 → i < B.n := fun i h => by rw [hn]; exact h
  have hm : ∀ i, i ≠ 0 → i ∉ B.mp := fun i h q => by rw [hp] at q; exact h (by simpa using q)
  have hu := hr.units
  have hu1 := room65 hr
  have hu2 := room65 hr
  unfold m__law_table m__law_table_13 m__law_table_12 m__law_table_11 m__law_table_10 m__law_table_9 m__law_table_8 m__law_table_7 m__law_table_6 m__law_table_5 m__law_table_4 m__law_table_3 m__law_table_2 m__law_table_1
  exact (pdss_cons (pds_par3 (ps_par3 (i := 2) (j := 3) (l := 4) rfl nd rfl rfl rfl (by decide) (by decide) (by decide) rfl rfl rfl (pda_cons (d_add d_int (d_callM C__law_take hG (hr.mono (by decide)) passE (pda_cons (d_var 0) (pda_cons (d_var 1) pda_nil)))) (pda_cons (d_add d_int (d_callM C__law_take hG (hr.mono (by decide)) passE (pda_cons (d_var 0) (pda_cons (d_var 1) pda_nil)))) (pda_cons (d_callM C__law_take hG (hr.mono (by decide)) passE (pda_cons (d_var 0) (pda_cons d_int pda_nil))) pda_nil))) (by rfl)) ⟨hi 2 (by decide), hm 2 (by decide)⟩ ⟨hi 3 (by decide), hm 3 (by decide)⟩ ⟨hi 4 (by decide), hm 4 (by decide)⟩)
      (pdss_cons (pds_set (ps_set (i := 5) nd rfl (Or.inl rfl) (pd_lst pda_nil)) (fun _ _ _ h => h) (hi 5 (by decide)) (hm 5 (by decide)))
      (pdss_cons (pds_for passOwn rfl (pdi_range1 (pi_range1 rfl T.b_range (pda_cons (d_var 2) pda_nil))) (pdg_name (pg_name (i := 6) nd rfl (Or.inl rfl)) (hi 6 (by decide)) (hm 6 (by decide)))
      (pdss_cons (s_setLc (i := 7) rfl nd rfl rfl (sw_true rfl rfl rfl (by decide +kernel)) (blkOk_by (own := [("j", 10)]) (by kernel_rfl)) (pdi_range1 (pi_range1 rfl T.b_range (pda_cons (d_var 3) pda_nil))) (fun _ _ _ _ _ => (pdg_name (pg_name (i := 10) nd rfl (Or.inl rfl)) (hi 10 (by decide)) (hm 10 (by decide)))) (fun _ _ _ _ _ => pdts_nil) (fun _ _ _ _ _ => (d_ix (pd_lst (pda_cons d_int (pda_cons d_int (pda_cons d_int (pda_cons d_int (pda_cons (d_neg d_int) (pda_cons d_int (pda_cons d_int pda_nil)))))))) (d_callM C__law_take hG (hr.mono (by decide)) passL (pda_cons (d_var 0) (pda_cons d_int pda_nil))))) (by decide) (hi 7 (by decide)) (hm 7 (by decide)))
      (pdss_cons (pds_if (t_eq (d_var 4) d_int hu)
      (pdss_cons (pds_tup (is := [8, 9]) (ps_asg (pe_tup (pda_cons (d_callM C__law_take hG (hr.mono (by decide)) passE (pda_cons (d_var 0) (pda_cons (d_var 3) pda_nil))) (pda_cons (d_callM C__law_take hG (hr.mono (by decide)) passE (pda_cons (d_var 0) (pda_cons (d_var 3) pda_nil))) pda_nil))) (pg_tup rfl (pgs_cons (pg_name (i := 8) nd rfl (Or.inr rfl)) (pgs_cons (pg_name (i := 9) nd rfl (Or.inr rfl)) pgs_nil)))) rfl (by decide) (by intro i h; simp only [List.mem_cons, List.not_mem_nil, or_false] at h; rcases h with rfl | rfl <;> exact ⟨hi _ (by decide), hm _ (by decide)⟩))
      (pdss_one (s_setLc (i := 7) rfl nd rfl rfl (sw_true rfl rfl rfl (by decide +kernel)) (blkOk_by (own := [("j", 10)]) (by kernel_rfl)) (pdi_range1 (pi_range1 rfl T.b_range (pda_cons (d_var 3) pda_nil))) (fun _ _ _ _ _ => (pdg_name (pg_name (i := 10) nd rfl (Or.inl rfl)) (hi 10 (by decide)) (hm 10 (by decide)))) (fun _ _ _ _ _ => pdts_nil) (fun _ _ _ _ _ => (pd_call (pe_callTy call_int1 rfl T.b_int (by decide +kernel) (pda_cons (d_lele (d_var 8) (d_var 10) (d_var 9)) pda_nil)) intD)) (by decide) (hi 7 (by decide)) (hm 7 (by decide)))))
      pdss_nil)
      (pdss_cons (pds_if (PW.pt (pdw_and (t_eq (d_var 4) d_int hu) (pdw_and1 (t_eq (d_callM C__law_take hG (hr.mono (by decide)) passE (pda_cons (d_var 0) (pda_cons d_int pda_nil))) d_int hu))))
      (pdss_one (pds_asg (ps_asg (d_sub (d_callM C__law_take hG (hr.mono (by decide)) passE (pda_cons (d_var 0) (pda_cons d_int pda_nil))) d_int) (pdg_sub (pg_sub (d_var 7) (d_callM C__law_take hG (hr.mono (by decide)) passE (pda_cons (d_var 0) (pda_cons (d_var 3) pda_nil))) set_list) setM)) (fun _ _ _ h => h)))
      pdss_nil)
      (pdss_one (pds_expr (d_lappend (d_var 5) (pd_call (pe_callTy call_tuple_of rfl T.b_tuple (by decide +kernel) (pda_cons (d_var 7) pda_nil)) tupD))))))))
      (pdss_one (pds_ret (pd_call (pe_callTy call_tuple_of rfl T.b_tuple (by decide +kernel) (pda_cons (d_var 5) pda_nil)) tupD))))))
/-! _law_signed -/
abbrev s__law_signed : Stmt := topS 33
theorem sc__law_signed : FnScope ["n", "found", "k", "longer", "sign", "own", "at", "turned"] ["n"] (defScope s__law_signed) := ⟨rfl, rfl, rfl, by decide +kernel, rfl, by decide +kernel, by decide +kernel⟩
def m__law_signed_1 : Mo Fl :=
    (sSet 1 (eLst (aCons (eTup (aCons (eC (.int 1)) (aCons (eTup aNil) aNil))) aNil)))
def m__law_signed_2 : Mo Fl :=
    (sSet 3 (eLst aNil))
def m__law_signed_3 : Mo Fl :=
    (sSet 7 (eBin mulF (eVar 4) (eBin ixF (eLst (aCons (eC (.int 1)) (aCons (eUn negF (eC (.int 1))) aNil))) (eBin modF (eCall intF (aCons (eBin subF (eCall lenF (aCons (eVar 5) aNil)) (eVar 6)) aNil)) (eC (.int 2))))))
def m__law_signed_4 : Mo Fl :=
    (sExpr (eMut appendF (eVar 3) (aCons (eTup (aCons (eVar 7) (aCons (eBin addF (eBin addF (eSl (eVar 5) partN (partS (eVar 6))) (eTup (aCons (eVar 2) aNil))) (eSl (eVar 5) (partS (eVar 6)) partN)) aNil))) aNil)))
def m__law_signed_5 : Mo Fl :=
    (sFor (iRng rng1 (aCons (eBin addF (eCall lenF (aCons (eVar 5) aNil)) (eC (.int 1))) aNil)) (bName 6)
    (sSeq m__law_signed_3
    m__law_signed_4))
def m__law_signed_6 : Mo Fl :=
    (sFor (iSeq (eVar 1)) (bTup [(bName 4), (bName 5)])
    m__law_signed_5)
def m__law_signed_7 : Mo Fl :=
    (sSet 1 (eVar 3))
def m__law_signed_8 : Mo Fl :=
    (sFor (iRng rng1 (aCons (eVar 0) aNil)) (bName 2)
    (sSeq m__law_signed_2
    (sSeq m__law_signed_6
    m__law_signed_7)))
def m__law_signed_9 : Mo Fl :=
    (sRet (eVar 1))
def m__law_signed : Mo Fl :=
    (sSeq m__law_signed_1
    (sSeq m__law_signed_8
    m__law_signed_9))
def F__law_signed := runP 7 m__law_signed
abbrev Cal__law_signed (P : Program) (w : World) (K : PySem.W.Frag) (mg : Str → Option Value) (base : Heap) (XC : XCl) : Prop := Cal P w K mg base "_law_signed" s__law_signed 1 ["n"] (spP K XC 1 F__law_signed)
theorem ok__law_signed {f : Addr} {fd : FuncData} (T : Bts mg) (F : Fun K "_law_signed" "_law_signed" s__law_signed f fd) (hmg : mg "_law_signed" = some (.ref f)) : Cal__law_signed P w K mg base XC := by
  refine ⟨f, fd, F, defP F sc__law_signed rfl rfl fun cdv A fr s H E B hn hp hG hr => ?_, hmg, F.binds fun _ _ _ _ _ _ us hl => match us, hl with | [_], _ => rfl⟩
  have nd := (sc__law_signed).nd
  have hi : ∀ i, i < 8 → i < B.n := fun i h => by rw [hn]; exact h
  have hm : ∀ i, True → i ∉ B.mp := fun i _ q => by rw [hp] at q; cases q
  have hu := hr.units
  have hu1 := room65 hr
  have hu2 := room65 hr
  unfold m__law_signed m__law_signed_9 m__law_signed_8 m__law_signed_7 m__law_signed_6 m__law_signed_5 m__law_signed_4 m__law_signed_3 m__law_signed_2 m__law_signed_1
  exact (pdss_cons (pds_set (ps_set (i := 1) nd rfl (Or.inl rfl) (pd_lst (pda_cons (pd_tup (pda_cons d_int (pda_cons (pd_tup pda_nil) pda_nil))) pda_nil))) (fun _ _ _ h => h) (hi 1 (by decide)) (hm 1 (by decide)))
      (pdss_cons (pds_for passOwn rfl (pdi_range1 (pi_range1 rfl T.b_range (pda_cons (d_var 0) pda_nil))) (pdg_name (pg_name (i := 2) nd rfl (Or.inl rfl)) (hi 2 (by decide)) (hm 2 (by decide)))
      (pdss_cons (pds_set (ps_set (i := 3) nd rfl (Or.inl rfl) (pd_lst pda_nil)) (fun _ _ _ h => h) (hi 3 (by decide)) (hm 3 (by decide)))
      (pdss_cons (pds_for passOwn rfl (pdi_seq (d_var 1)) (pdg_tup (pg_tup rfl (pdgs_cons (pdg_name (pg_name (i := 4) nd rfl (Or.inl rfl)) (hi 4 (by decide)) (hm 4 (by decide))) (pdgs_cons (pdg_name (pg_name (i := 5) nd rfl (Or.inl rfl)) (hi 5 (by decide)) (hm 5 (by decide))) pdgs_nil))) rfl)
      (pdss_one (pds_for passOwn rfl (pdi_range1 (pi_range1 rfl T.b_range (pda_cons (d_add (pd_call (pe_callB call_len_seq rfl T.b_len (by decide +kernel) (pda_cons (d_var 5) pda_nil)) lenD) d_int) pda_nil))) (pdg_name (pg_name (i := 6) nd rfl (Or.inl rfl)) (hi 6 (by decide)) (hm 6 (by decide)))
      (pdss_cons (pds_set (ps_set (i := 7) nd rfl (Or.inl rfl) (d_mul (d_var 4) (d_ix (pd_lst (pda_cons d_int (pda_cons (d_neg d_int) pda_nil))) (d_mod (pd_call (pe_callTy call_int1 rfl T.b_int (by decide +kernel) (pda_cons (d_sub (pd_call (pe_callB call_len_seq rfl T.b_len (by decide +kernel) (pda_cons (d_var 5) pda_nil)) lenD) (d_var 6)) pda_nil)) intD) d_int)))) (fun _ _ _ h => h) (hi 7 (by decide)) (hm 7 (by decide)))
      (pdss_one (pds_expr (d_lappend (d_var 3) (pd_tup (pda_cons (d_var 7) (pda_cons (d_add (d_add (d_slice (d_var 5) pdo_none (pdo_some (d_var 6))) (pd_tup (pda_cons (d_var 2) pda_nil))) (d_slice (d_var 5) (pdo_some (d_var 6)) pdo_none)) pda_nil))))))))))
      (pdss_one (pds_set (ps_set (i := 1) nd rfl (Or.inl rfl) (d_var 3)) (fun _ _ _ h => h) (hi 1 (by decide)) (hm 1 (by decide)))))))
      (pdss_one (pds_ret (d_var 1)))))
/-! _law_det -/
abbrev s__law_det : Stmt := topS 34
theorem sc__law_det : FnScope ["table", "found", "sign", "own", "part", "i", "j"] ["table"] (defScope s__law_det) := ⟨rfl, rfl, rfl, by decide +kernel, rfl, by decide +kernel, by decide +kernel⟩
def m__law_det_1 : Mo Fl :=
    (sSet 1 (eC (.int 0)))
def m__law_det_2 : Mo Fl :=
    (sSet 4 (eVar 2))
def m__law_det_3 : Mo Fl :=
    (sSet 4 (eBin mulF (eVar 4) (eBin ixF (eBin ixF (eVar 0) (eVar 5)) (eVar 6))))
def m__law_det_4 : Mo Fl :=
    (sFor (iZips enT (aCons (eVar 3) aNil)) (bTup [(bName 5), (bName 6)])
    m__law_det_3)
def m__law_det_5 : Mo Fl :=
    (sSet 1 (eBin addF (eVar 1) (eVar 4)))
def m__law_det_6 : Mo Fl :=
    (sFor (iSeq (eFn 1 F__law_signed (aCons (eCall lenF (aCons (eVar 0) aNil)) aNil))) (bTup [(bName 2), (bName 3)])
    (sSeq m__law_det_2
    (sSeq m__law_det_4
    m__law_det_5)))
def m__law_det_7 : Mo Fl :=
    (sRet (eVar 1))
def m__law_det : Mo Fl :=
    (sSeq m__law_det_1
    (sSeq m__law_det_6
    m__law_det_7))
def F__law_det := runP 6 m__law_det
abbrev Cal__law_det (P : Program) (w : World) (K : PySem.W.Frag) (mg : Str → Option Value) (base : Heap) (XC : XCl) : Prop := Cal P w K mg base "_law_det" s__law_det 2 ["table"] (spP K XC 1 F__law_det)
theorem ok__law_det {f : Addr} {fd : FuncData} (T : Bts mg) (F : Fun K "_law_det" "_law_det" s__law_det f fd) (hmg : mg "_law_det" = some (.ref f)) (C__law_signed : Cal__law_signed P w K mg base XC) : Cal__law_det P w K mg base XC := by
  refine ⟨f, fd, F, defP F sc__law_det rfl rfl fun cdv A fr s H E B hn hp hG hr => ?_, hmg, F.binds fun _ _ _ _ _ _ us hl => match us, hl with | [_], _ => rfl⟩
  have nd := (sc__law_det).nd
  have hi : ∀ i, i < 7 → i < B.n := fun i h => by rw [hn]; exact h
  have hm : ∀ i, True → i ∉ B.mp := fun i _ q => by rw [hp] at q; cases q
  have hu := hr.units
  have hu1 := room65 hr
  have hu2 := room65 hr
  unfold m__law_det m__law_det_7 m__law_det_6 m__law_det_5 m__law_det_4 m__law_det_3 m__law_det_2 m__law_det_1
  exact (pdss_cons (pds_set (ps_set (i := 1) nd rfl (Or.inl rfl) d_int) (fun _ _ _ h => h) (hi 1 (by decide)) (hm 1 (by decide)))
      (pdss_cons (pds_for passOwn rfl (pdi_seq (d_call C__law_signed hG (hr.mono (by decide)) passE hEW (pda_cons (pd_call (pe_callB call_len_seq rfl T.b_len (by decide +kernel) (pda_cons (d_var 0) pda_nil)) lenD) pda_nil))) (pdg_tup (pg_tup rfl (pdgs_cons (pdg_name (pg_name (i := 2) nd rfl (Or.inl rfl)) (hi 2 (by decide)) (hm 2 (by decide))) (pdgs_cons (pdg_name (pg_name (i := 3) nd rfl (Or.inl rfl)) (hi 3 (by decide)) (hm 3 (by decide))) pdgs_nil))) rfl)
      (pdss_cons (pds_set (ps_set (i := 4) nd rfl (Or.inl rfl) (d_var 2)) (fun _ _ _ h => h) (hi 4 (by decide)) (hm 4 (by decide)))
      (pdss_cons (pds_for passOwn rfl (pdi_enumT T.b_enumerate (pda_cons (d_var 3) pda_nil)) (pdg_tup (pg_tup rfl (pdgs_cons (pdg_name (pg_name (i := 5) nd rfl (Or.inl rfl)) (hi 5 (by decide)) (hm 5 (by decide))) (pdgs_cons (pdg_name (pg_name (i := 6) nd rfl (Or.inl rfl)) (hi 6 (by decide)) (hm 6 (by decide))) pdgs_nil))) rfl)
      (pdss_one (pds_set (ps_set (i := 4) nd rfl (Or.inl rfl) (d_mul (d_var 4) (d_ix (d_ix (d_var 0) (d_var 5)) (d_var 6)))) (fun _ _ _ h => h) (hi 4 (by decide)) (hm 4 (by decide)))))
      (pdss_one (pds_set (ps_set (i := 1) nd rfl (Or.inl rfl) (d_add (d_var 1) (d_var 4))) (fun _ _ _ h => h) (hi 1 (by decide)) (hm 1 (by decide)))))))
      (pdss_one (pds_ret (d_var 1)))))
/-! _law_lots -/
abbrev s__law_lots : Stmt := topS 35
theorem sc__law_lots : FnScope ["many", "size", "found", "k", "longer", "own", "at"] ["many", "size"] (defScope s__law_lots) := ⟨rfl, rfl, rfl, by decide +kernel, rfl, by decide +kernel, by decide +kernel⟩
def m__law_lots_1 : Mo Fl :=
    (sSet 2 (eLst (aCons (eTup aNil) aNil)))
def m__law_lots_2 : Mo Fl :=
    (sSet 4 (eLst aNil))
def m__law_lots_3 : Mo Vl :=
    (eLc (iRng rng2 (aCons (eIf (cV (eBin neF (eVar 5) (eTup aNil))) (eBin addF (eBin ixF (eVar 5) (eUn negF (eC (.int 1)))) (eC (.int 1))) (eC (.int 0))) (aCons (eVar 0) aNil))) (bName 6) cYes (eBin addF (eVar 5) (eTup (aCons (eVar 6) aNil))) [6])
def m__law_lots_4 : Mo Fl :=
    (sExpr (eExt (eVar 4) m__law_lots_3))
def m__law_lots_5 : Mo Fl :=
    (sFor (iSeq (eVar 2)) (bName 5)
    m__law_lots_4)
def m__law_lots_6 : Mo Fl :=
    (sSet 2 (eVar 4))
def m__law_lots_7 : Mo Fl :=
    (sFor (iRng rng1 (aCons (eVar 1) aNil)) (bName 3)
    (sSeq m__law_lots_2
    (sSeq m__law_lots_5
    m__law_lots_6)))
def m__law_lots_8 : Mo Fl :=
    (sRet (eVar 2))
def m__law_lots : Mo Fl :=
    (sSeq m__law_lots_1
    (sSeq m__law_lots_7
    m__law_lots_8))
def F__law_lots := runP 5 m__law_lots
abbrev Cal__law_lots (P : Program) (w : World) (K : PySem.W.Frag) (mg : Str → Option Value) (base : Heap) (XC : XCl) : Prop := Cal P w K mg base "_law_lots" s__law_lots 1 ["many", "size"] (spP K XC 2 F__law_lots)
theorem ok__law_lots {f : Addr} {fd : FuncData} (T : Bts mg) (F : Fun K "_law_lots" "_law_lots" s__law_lots f fd) (hmg : mg "_law_lots" = some (.ref f)) : Cal__law_lots P w K mg base XC := by
  refine ⟨f, fd, F, defP F sc__law_lots rfl rfl fun cdv A fr s H E B hn hp hG hr => ?_, hmg, F.binds fun _ _ _ _ _ _ us hl => match us, hl with | [_, _], _ => rfl⟩
  have nd := (sc__law_lots).nd
  have hi : ∀ i, i < 7 → i < B.n := fun i h => by rw [hn]; exact h
  have hm : ∀ i, True → i ∉ B.mp := fun i _ q => by rw [hp] at q; cases q
  have hu := hr.units
  have hu1 := room65 hr
  have hu2 := room65 hr
  unfold m__law_lots m__law_lots_8 m__law_lots_7 m__law_lots_6 m__law_lots_5 m__law_lots_4 m__law_lots_3 m__law_lots_2 m__law_lots_1
  exact (pdss_cons (pds_set (ps_set (i := 2) nd rfl (Or.inl rfl) (pd_lst (pda_cons (pd_tup pda_nil) pda_nil))) (fun _ _ _ h => h) (hi 2 (by decide)) (hm 2 (by decide)))
      (pdss_cons (pds_for passOwn rfl (pdi_range1 (pi_range1 rfl T.b_range (pda_cons (d_var 1) pda_nil))) (pdg_name (pg_name (i := 3) nd rfl (Or.inl rfl)) (hi 3 (by decide)) (hm 3 (by decide)))
      (pdss_cons (pds_set (ps_set (i := 4) nd rfl (Or.inl rfl) (pd_lst pda_nil)) (fun _ _ _ h => h) (hi 4 (by decide)) (hm 4 (by decide)))
      (pdss_cons (pds_for passOwn rfl (pdi_seq (d_var 2)) (pdg_name (pg_name (i := 5) nd rfl (Or.inr rfl)) (hi 5 (by decide)) (hm 5 (by decide)))
      (pdss_one (pds_expr (d_lextend1 (d_var 4) (d_lc (own := [("at", 6)]) rfl nd (blkOk_by (own := [("at", 6)]) (by kernel_rfl)) (pdi_range2 (pi_range2 rfl T.b_range (pda_cons (pd_ifExp (t_ne (d_var 5) (pd_tup pda_nil) hu) (d_add (d_ix (d_var 5) (d_neg d_int)) d_int) d_int) (pda_cons (d_var 0) pda_nil)))) (fun _ _ _ _ _ => (pdg_name (pg_name (i := 6) nd rfl (Or.inl rfl)) (hi 6 (by decide)) (hm 6 (by decide)))) (fun _ _ _ _ _ => pdts_nil) (fun _ _ _ _ _ => (d_add (d_var 5) (pd_tup (pda_cons (d_var 6) pda_nil)))) (by decide))))))
      (pdss_one (pds_set (ps_set (i := 2) nd rfl (Or.inl rfl) (d_var 4)) (fun _ _ _ h => h) (hi 2 (by decide)) (hm 2 (by decide)))))))
      (pdss_one (pds_ret (d_var 2)))))
/-! _law_part -/
abbrev s__law_part : Stmt := topS 36
theorem sc__law_part : FnScope ["table", "rows", "columns", "i", "j"] ["table", "rows", "columns"] (defScope s__law_part) := ⟨rfl, rfl, rfl, by decide +kernel, rfl, by decide +kernel, by decide +kernel⟩
def m__law_part_1 : Mo Vl :=
    (eLc (iSeq (eVar 2)) (bName 4) cYes (eBin ixF (eBin ixF (eVar 0) (eVar 3)) (eVar 4)) [4])
def m__law_part_2 : Mo Vl :=
    (eLc (iSeq (eVar 1)) (bName 3) cYes (eCall tupF (aCons m__law_part_1 aNil)) [3])
def m__law_part_3 : Mo Fl :=
    (sRet (eCall tupF (aCons m__law_part_2 aNil)))
def m__law_part : Mo Fl :=
    m__law_part_3
def F__law_part := runP 2 m__law_part
abbrev Cal__law_part (P : Program) (w : World) (K : PySem.W.Frag) (mg : Str → Option Value) (base : Heap) (XC : XCl) : Prop := Cal P w K mg base "_law_part" s__law_part 1 ["table", "rows", "columns"] (spP K XC 3 F__law_part)
theorem ok__law_part {f : Addr} {fd : FuncData} (T : Bts mg) (F : Fun K "_law_part" "_law_part" s__law_part f fd) (hmg : mg "_law_part" = some (.ref f)) : Cal__law_part P w K mg base XC := by
  refine ⟨f, fd, F, defP F sc__law_part rfl rfl fun cdv A fr s H E B hn hp hG hr => ?_, hmg, F.binds fun _ _ _ _ _ _ us hl => match us, hl with | [_, _, _], _ => rfl⟩
  have nd := (sc__law_part).nd
  have hi : ∀ i, i < 5 → i < B.n := fun i h => by rw [hn]; exact h
  have hm : ∀ i, True → i ∉ B.mp := fun i _ q => by rw [hp] at q; cases q
  have hu := hr.units
  have hu1 := room65 hr
  have hu2 := room65 hr
  unfold m__law_part m__law_part_3 m__law_part_2 m__law_part_1
  exact (pdss_one (pds_ret (pd_call (pe_callTy call_tuple_of rfl T.b_tuple (by decide +kernel) (pda_cons (d_lc (own := [("i", 3)]) rfl nd (blkOk_by (own := [("i", 3)]) (by kernel_rfl)) (pdi_seq (d_var 1)) (fun _ _ _ _ _ => (pdg_name (pg_name (i := 3) nd rfl (Or.inr rfl)) (hi 3 (by decide)) (hm 3 (by decide)))) (fun _ _ _ _ _ => pdts_nil) (fun _ _ _ _ _ => (pd_call (pe_callTy call_tuple_of rfl T.b_tuple (by decide +kernel) (pda_cons (d_lc (own := [("j", 4)]) rfl nd (blkOk_by (own := [("j", 4)]) (by kernel_rfl)) (pdi_seq (d_var 2)) (fun _ _ _ _ _ => (pdg_name (pg_name (i := 4) nd rfl (Or.inl rfl)) (hi 4 (by decide)) (hm 4 (by decide)))) (fun _ _ _ _ _ => pdts_nil) (fun _ _ _ _ _ => (d_ix (d_ix (d_var 0) (d_var 3)) (d_var 4))) (by decide)) pda_nil)) tupD)) (by decide)) pda_nil)) tupD)))
/-! _law_bar -/
abbrev s__law_bar : Stmt := topS 37
theorem sc__law_bar : FnScope ["table", "size", "rows", "columns", "number"] ["table"] (defScope s__law_bar) := ⟨rfl, rfl, rfl, by decide +kernel, rfl, by decide +kernel, by decide +kernel⟩
def m__law_bar_1 : Mo Fl :=
    (sSet 4 (eFn 1 F__law_det (aCons (eFn 3 F__law_part (aCons (eVar 0) (aCons (eVar 2) (aCons (eVar 3) aNil)))) aNil)))
def m__law_bar_2 : Mo Fl :=
    (sRet (eTup (aCons (eVar 2) (aCons (eVar 3) (aCons (eVar 4) aNil)))))
def m__law_bar_3 : Mo Fl :=
    (sIf (cV (eBin gtF (eCall absF (aCons (eVar 4) aNil)) (eC (.int 1))))
    m__law_bar_2
    sNx)
def m__law_bar_4 : Mo Fl :=
    (sFor (iSeq (eFn 2 F__law_lots (aCons (eCall lenF (aCons (eBin ixF (eVar 0) (eC (.int 0))) aNil)) (aCons (eVar 1) aNil)))) (bName 3)
    (sSeq m__law_bar_1
    m__law_bar_3))
def m__law_bar_5 : Mo Fl :=
    (sFor (iSeq (eFn 2 F__law_lots (aCons (eCall lenF (aCons (eVar 0) aNil)) (aCons (eVar 1) aNil)))) (bName 2)
    m__law_bar_4)
def m__law_bar_6 : Mo Fl :=
    (sFor (iRng rng2 (aCons (eC (.int 1)) (aCons (eBin addF (eCall minF (aCons (eCall lenF (aCons (eVar 0) aNil)) (aCons (eCall lenF (aCons (eBin ixF (eVar 0) (eC (.int 0))) aNil)) aNil))) (eC (.int 1))) aNil))) (bName 1)
    m__law_bar_5)
def m__law_bar_7 : Mo Fl :=
    (sRet (eC .none))
def m__law_bar : Mo Fl :=
    (sSeq m__law_bar_6
    m__law_bar_7)
def F__law_bar := runP 4 m__law_bar
abbrev Cal__law_bar (P : Program) (w : World) (K : PySem.W.Frag) (mg : Str → Option Value) (base : Heap) (XC : XCl) : Prop := Cal P w K mg base "_law_bar" s__law_bar 3 ["table"] (spP K XC 1 F__law_bar)
theorem ok__law_bar {f : Addr} {fd : FuncData} (T : Bts mg) (F : Fun K "_law_bar" "_law_bar" s__law_bar f fd) (hmg : mg "_law_bar" = some (.ref f)) (C__law_det : Cal__law_det P w K mg base XC) (C__law_lots : Cal__law_lots P w K mg base XC) (C__law_part : Cal__law_part P w K mg base XC) : Cal__law_bar P w K mg base XC := by
  refine ⟨f, fd, F, defP F sc__law_bar rfl rfl fun cdv A fr s H E B hn hp hG hr => ?_, hmg, F.binds fun _ _ _ _ _ _ us hl => match us, hl with | [_], _ => rfl⟩
  have nd := (sc__law_bar).nd
  have hi : ∀ i, i < 5 → i < B.n := fun i h => by rw [hn]; exact h
  have hm : ∀ i, True → i ∉ B.mp := fun i _ q => by rw [hp] at q; cases q
  have hu := hr.units
  have hu1 := room65 hr
  have hu2 := room65 hr
  unfold m__law_bar m__law_bar_7 m__law_bar_6 m__law_bar_5 m__law_bar_4 m__law_bar_3 m__law_bar_2 m__law_bar_1
  exact (pdss_cons (pds_for passOwn rfl (pdi_range2 (pi_range2 rfl T.b_range (pda_cons d_int (pda_cons (d_add (pd_call (pe_callB (call_min2 rfl) rfl T.b_min (by decide +kernel) (pda_cons (pd_call (pe_callB call_len_seq rfl T.b_len (by decide +kernel) (pda_cons (d_var 0) pda_nil)) lenD) (pda_cons (pd_call (pe_callB call_len_seq rfl T.b_len (by decide +kernel) (pda_cons (d_ix (d_var 0) d_int) pda_nil)) lenD) pda_nil))) minD) d_int) pda_nil)))) (pdg_name (pg_name (i := 1) nd rfl (Or.inl rfl)) (hi 1 (by decide)) (hm 1 (by decide)))
      (pdss_one (pds_for passOwn rfl (pdi_seq (d_call C__law_lots hG (hr.mono (by decide)) passE hEW (pda_cons (pd_call (pe_callB call_len_seq rfl T.b_len (by decide +kernel) (pda_cons (d_var 0) pda_nil)) lenD) (pda_cons (d_var 1) pda_nil)))) (pdg_name (pg_name (i := 2) nd rfl (Or.inl rfl)) (hi 2 (by decide)) (hm 2 (by decide)))
      (pdss_one (pds_for passOwn rfl (pdi_seq (d_call C__law_lots hG (hr.mono (by decide)) passE hEW (pda_cons (pd_call (pe_callB call_len_seq rfl T.b_len (by decide +kernel) (pda_cons (d_ix (d_var 0) d_int) pda_nil)) lenD) (pda_cons (d_var 1) pda_nil)))) (pdg_name (pg_name (i := 3) nd rfl (Or.inl rfl)) (hi 3 (by decide)) (hm 3 (by decide)))
      (pdss_cons (pds_set (ps_set (i := 4) nd rfl (Or.inl rfl) (d_call C__law_det hG (hr.mono (by decide)) passE hEW (pda_cons (d_call C__law_part hG (hr.mono (by decide)) passE hEW (pda_cons (d_var 0) (pda_cons (d_var 2) (pda_cons (d_var 3) pda_nil)))) pda_nil))) (fun _ _ _ h => h) (hi 4 (by decide)) (hm 4 (by decide)))
      (pdss_one (pds_if (t_gt (pd_call (pe_callB call_abs rfl T.b_abs (by decide +kernel) (pda_cons (d_var 4) pda_nil)) absD) d_int)
      (pdss_one (pds_ret (pd_tup (pda_cons (d_var 2) (pda_cons (d_var 3) (pda_cons (d_var 4) pda_nil))))))
      pdss_nil))))))))
      (pdss_one (pds_ret d_non)))
/-! _law_signs -/
abbrev s__law_signs : Stmt := topS 38
theorem sc__law_signs : FnScope ["many", "found", "k", "longer", "own"] ["many"] (defScope s__law_signs) := ⟨rfl, rfl, rfl, by decide +kernel, rfl, by decide +kernel, by decide +kernel⟩
def m__law_signs_1 : Mo Fl :=
    (sSet 1 (eLst (aCons (eTup (aCons (eC (.int 1)) aNil)) aNil)))
def m__law_signs_2 : Mo Fl :=
    (sSet 3 (eLst aNil))
def m__law_signs_3 : Mo Fl :=
    (sExpr (eExt (eVar 3) (eLst (aCons (eBin addF (eVar 4) (eTup (aCons (eUn negF (eC (.int 1))) aNil))) (aCons (eBin addF (eVar 4) (eTup (aCons (eC (.int 1)) aNil))) aNil)))))
def m__law_signs_4 : Mo Fl :=
    (sFor (iSeq (eVar 1)) (bName 4)
    m__law_signs_3)
def m__law_signs_5 : Mo Fl :=
    (sSet 1 (eVar 3))
def m__law_signs_6 : Mo Fl :=
    (sFor (iRng rng1 (aCons (eBin subF (eVar 0) (eC (.int 1))) aNil)) (bName 2)
    (sSeq m__law_signs_2
    (sSeq m__law_signs_4
    m__law_signs_5)))
def m__law_signs_7 : Mo Fl :=
    (sRet (eVar 1))
def m__law_signs : Mo Fl :=
    (sSeq m__law_signs_1
    (sSeq m__law_signs_6
    m__law_signs_7))
def F__law_signs := runP 4 m__law_signs
abbrev Cal__law_signs (P : Program) (w : World) (K : PySem.W.Frag) (mg : Str → Option Value) (base : Heap) (XC : XCl) : Prop := Cal P w K mg base "_law_signs" s__law_signs 1 ["many"] (spP K XC 1 F__law_signs)
theorem ok__law_signs {f : Addr} {fd : FuncData} (T : Bts mg) (F : Fun K "_law_signs" "_law_signs" s__law_signs f fd) (hmg : mg "_law_signs" = some (.ref f)) : Cal__law_signs P w K mg base XC := by
  refine ⟨f, fd, F, defP F sc__law_signs rfl rfl fun cdv A fr s H E B hn hp hG hr => ?_, hmg, F.binds fun _ _ _ _ _ _ us hl => match us, hl with | [_], _ => rfl⟩
  have nd := (sc__law_signs).nd
  have hi : ∀ i, i < 5 → i < B.n := fun i h => by rw [hn]; exact h
  have hm : ∀ i, True → i ∉ B.mp := fun i _ q => by rw [hp] at q; cases q
  have hu := hr.units
  have hu1 := room65 hr
  have hu2 := room65 hr
  unfold m__law_signs m__law_signs_7 m__law_signs_6 m__law_signs_5 m__law_signs_4 m__law_signs_3 m__law_signs_2 m__law_signs_1
  exact (pdss_cons (pds_set (ps_set (i := 1) nd rfl (Or.inl rfl) (pd_lst (pda_cons (pd_tup (pda_cons d_int pda_nil)) pda_nil))) (fun _ _ _ h => h) (hi 1 (by decide)) (hm 1 (by decide)))
      (pdss_cons (pds_for passOwn rfl (pdi_range1 (pi_range1 rfl T.b_range (pda_cons (d_sub (d_var 0) d_int) pda_nil))) (pdg_name (pg_name (i := 2) nd rfl (Or.inl rfl)) (hi 2 (by decide)) (hm 2 (by decide)))
      (pdss_cons (pds_set (ps_set (i := 3) nd rfl (Or.inl rfl) (pd_lst pda_nil)) (fun _ _ _ h => h) (hi 3 (by decide)) (hm 3 (by decide)))
      (pdss_cons (pds_for passOwn rfl (pdi_seq (d_var 1)) (pdg_name (pg_name (i := 4) nd rfl (Or.inl rfl)) (hi 4 (by decide)) (hm 4 (by decide)))
      (pdss_one (pds_expr (d_lextend1 (d_var 3) (pd_lst (pda_cons (d_add (d_var 4) (pd_tup (pda_cons (d_neg d_int) pda_nil))) (pda_cons (d_add (d_var 4) (pd_tup (pda_cons d_int pda_nil))) pda_nil)))))))
      (pdss_one (pds_set (ps_set (i := 1) nd rfl (Or.inl rfl) (d_var 3)) (fun _ _ _ h => h) (hi 1 (by decide)) (hm 1 (by decide)))))))
      (pdss_one (pds_ret (d_var 1)))))
/-! _law_halves -/
abbrev s__law_halves : Stmt := topS 39
theorem sc__law_halves : FnScope ["table", "rows", "signs", "j", "i", "sign"] ["table", "rows", "signs"] (defScope s__law_halves) := ⟨rfl, rfl, rfl, by decide +kernel, rfl, by decide +kernel, by decide +kernel⟩
def m__law_halves_1 : Mo Vl :=
    (eLc (iZips zip2 (aCons (eVar 1) (aCons (eVar 2) aNil))) (bTup [(bName 4), (bName 5)]) cYes (eBin mulF (eVar 5) (eBin ixF (eBin ixF (eVar 0) (eVar 4)) (eVar 3))) [4, 5])
def m__law_halves_2 : Mo Fl :=
    (sRet (eC (.bool false)))
def m__law_halves_3 : Mo Fl :=
    (sIf (cV (eBin gtF (eCall absF (aCons (eCall sumF (aCons m__law_halves_1 aNil)) aNil)) (eC (.int 1))))
    m__law_halves_2
    sNx)
def m__law_halves_4 : Mo Fl :=
    (sFor (iRng rng1 (aCons (eCall lenF (aCons (eBin ixF (eVar 0) (eC (.int 0))) aNil)) aNil)) (bName 3)
    m__law_halves_3)
def m__law_halves_5 : Mo Fl :=
    (sRet (eC (.bool true)))
def m__law_halves : Mo Fl :=
    (sSeq m__law_halves_4
    m__law_halves_5)
def F__law_halves := runP 3 m__law_halves
abbrev Cal__law_halves (P : Program) (w : World) (K : PySem.W.Frag) (mg : Str → Option Value) (base : Heap) (XC : XCl) : Prop := Cal P w K mg base "_law_halves" s__law_halves 1 ["table", "rows", "signs"] (spP K XC 3 F__law_halves)
theorem ok__law_halves {f : Addr} {fd : FuncData} (T : Bts mg) (F : Fun K "_law_halves" "_law_halves" s__law_halves f fd) (hmg : mg "_law_halves" = some (.ref f)) : Cal__law_halves P w K mg base XC := by
  refine ⟨f, fd, F, defP F sc__law_halves rfl rfl fun cdv A fr s H E B hn hp hG hr => ?_, hmg, F.binds fun _ _ _ _ _ _ us hl => match us, hl with | [_, _, _], _ => rfl⟩
  have nd := (sc__law_halves).nd
  have hi : ∀ i, i < 6 → i < B.n := fun i h => by rw [hn]; exact h
  have hm : ∀ i, True → i ∉ B.mp := fun i _ q => by rw [hp] at q; cases q
  have hu := hr.units
  have hu1 := room65 hr
  have hu2 := room65 hr
  unfold m__law_halves m__law_halves_5 m__law_halves_4 m__law_halves_3 m__law_halves_2 m__law_halves_1
  exact (pdss_cons (pds_for passOwn rfl (pdi_range1 (pi_range1 rfl T.b_range (pda_cons (pd_call (pe_callB call_len_seq rfl T.b_len (by decide +kernel) (pda_cons (d_ix (d_var 0) d_int) pda_nil)) lenD) pda_nil))) (pdg_name (pg_name (i := 3) nd rfl (Or.inr rfl)) (hi 3 (by decide)) (hm 3 (by decide)))
      (pdss_one (pds_if (t_gt (pd_call (pe_callB call_abs rfl T.b_abs (by decide +kernel) (pda_cons (pd_call (pe_callB (cr_sum rfl) rfl T.b_sum (by decide +kernel) (pda_cons (d_lc (own := [("i", 4), ("sign", 5)]) rfl nd (blkOk_by (own := [("i", 4), ("sign", 5)]) (by kernel_rfl)) (pdi_zip (pi_zipA (by rfl) T.b_zip (pda_cons (d_var 1) (pda_cons (d_var 2) pda_nil)))) (fun _ _ _ _ _ => (pdg_tup (pg_tup rfl (pdgs_cons (pdg_name (pg_name (i := 4) nd rfl (Or.inl rfl)) (hi 4 (by decide)) (hm 4 (by decide))) (pdgs_cons (pdg_name (pg_name (i := 5) nd rfl (Or.inl rfl)) (hi 5 (by decide)) (hm 5 (by decide))) pdgs_nil))) rfl)) (fun _ _ _ _ _ => pdts_nil) (fun _ _ _ _ _ => (d_mul (d_var 5) (d_ix (d_ix (d_var 0) (d_var 4)) (d_var 3)))) (by decide)) pda_nil)) sumD) pda_nil)) absD) d_int)
      (pdss_one (pds_ret d_bl))
      pdss_nil)))
      (pdss_one (pds_ret d_bl)))
/-! _law_halving -/
abbrev s__law_halving : Stmt := topS 40
theorem sc__law_halving : FnScope ["table", "rows", "found", "signs"] ["table", "rows"] (defScope s__law_halving) := ⟨rfl, rfl, rfl, by decide +kernel, rfl, by decide +kernel, by decide +kernel⟩
def m__law_halving_1 : Mo Vl :=
    (eLc (iSeq (eFn 1 F__law_signs (aCons (eCall lenF (aCons (eVar 1) aNil)) aNil))) (bName 3) (cV (eFn 3 F__law_halves (aCons (eVar 0) (aCons (eVar 1) (aCons (eVar 3) aNil))))) (eVar 3) [3])
def m__law_halving_2 : Mo Fl :=
    (sSet 2 m__law_halving_1)
def m__law_halving_3 : Mo Fl :=
    (sRet (eIf (cV (eBin neF (eVar 2) (eLst aNil))) (eBin ixF (eVar 2) (eC (.int 0))) (eC .none)))
def m__law_halving : Mo Fl :=
    (sSeq m__law_halving_2
    m__law_halving_3)
def F__law_halving := runP 2 m__law_halving
abbrev Cal__law_halving (P : Program) (w : World) (K : PySem.W.Frag) (mg : Str → Option Value) (base : Heap) (XC : XCl) : Prop := Cal P w K mg base "_law_halving" s__law_halving 2 ["table", "rows"] (spP K XC 2 F__law_halving)
theorem ok__law_halving {f : Addr} {fd : FuncData} (T : Bts mg) (F : Fun K "_law_halving" "_law_halving" s__law_halving f fd) (hmg : mg "_law_halving" = some (.ref f)) (C__law_halves : Cal__law_halves P w K mg base XC) (C__law_signs : Cal__law_signs P w K mg base XC) : Cal__law_halving P w K mg base XC := by
  refine ⟨f, fd, F, defP F sc__law_halving rfl rfl fun cdv A fr s H E B hn hp hG hr => ?_, hmg, F.binds fun _ _ _ _ _ _ us hl => match us, hl with | [_, _], _ => rfl⟩
  have nd := (sc__law_halving).nd
  have hi : ∀ i, i < 4 → i < B.n := fun i h => by rw [hn]; exact h
  have hm : ∀ i, True → i ∉ B.mp := fun i _ q => by rw [hp] at q; cases q
  have hu := hr.units
  have hu1 := room65 hr
  have hu2 := room65 hr
  unfold m__law_halving m__law_halving_3 m__law_halving_2 m__law_halving_1
  exact (pdss_cons (s_setLc (i := 2) rfl nd rfl rfl (sw_true rfl rfl rfl (by decide +kernel)) (blkOk_by (own := [("signs", 3)]) (by kernel_rfl)) (pdi_seq (d_call C__law_signs hG (hr.mono (by decide)) passE hEW (pda_cons (pd_call (pe_callB call_len_seq rfl T.b_len (by decide +kernel) (pda_cons (d_var 1) pda_nil)) lenD) pda_nil))) (fun _ _ _ _ _ => (pdg_name (pg_name (i := 3) nd rfl (Or.inl rfl)) (hi 3 (by decide)) (hm 3 (by decide)))) (fun _ _ _ _ _ => (pdts_one (t_val (d_call C__law_halves hG (hr.mono (by decide)) passL hE0 (pda_cons (d_var 0) (pda_cons (d_var 1) (pda_cons (d_var 3) pda_nil))))))) (fun _ _ _ _ _ => (d_var 3)) (by decide) (hi 2 (by decide)) (hm 2 (by decide)))
      (pdss_one (pds_ret (pd_ifExp (t_ne (d_var 2) (pd_lst pda_nil) hu) (d_ix (d_var 2) d_int) d_non))))
/-! _law_choices -/
abbrev s__law_choices : Stmt := topS 41
theorem sc__law_choices : FnScope ["many", "found", "size"] ["many"] (defScope s__law_choices) := ⟨rfl, rfl, rfl, by decide +kernel, rfl, by decide +kernel, by decide +kernel⟩
def m__law_choices_1 : Mo Fl :=
    (sSet 1 (eLst aNil))
def m__law_choices_2 : Mo Fl :=
    (sSet 1 (eBin addF (eVar 1) (eFn 2 F__law_lots (aCons (eVar 0) (aCons (eVar 2) aNil)))))
def m__law_choices_3 : Mo Fl :=
    (sFor (iRng rng2 (aCons (eC (.int 1)) (aCons (eBin addF (eVar 0) (eC (.int 1))) aNil))) (bName 2)
    m__law_choices_2)
def m__law_choices_4 : Mo Fl :=
    (sRet (eVar 1))
def m__law_choices : Mo Fl :=
    (sSeq m__law_choices_1
    (sSeq m__law_choices_3
    m__law_choices_4))
def F__law_choices := runP 2 m__law_choices
abbrev Cal__law_choices (P : Program) (w : World) (K : PySem.W.Frag) (mg : Str → Option Value) (base : Heap) (XC : XCl) : Prop := Cal P w K mg base "_law_choices" s__law_choices 2 ["many"] (spP K XC 1 F__law_choices)
theorem ok__law_choices {f : Addr} {fd : FuncData} (T : Bts mg) (F : Fun K "_law_choices" "_law_choices" s__law_choices f fd) (hmg : mg "_law_choices" = some (.ref f)) (C__law_lots : Cal__law_lots P w K mg base XC) : Cal__law_choices P w K mg base XC := by
  refine ⟨f, fd, F, defP F sc__law_choices rfl rfl fun cdv A fr s H E B hn hp hG hr => ?_, hmg, F.binds fun _ _ _ _ _ _ us hl => match us, hl with | [_], _ => rfl⟩
  have nd := (sc__law_choices).nd
  have hi : ∀ i, i < 3 → i < B.n := fun i h => by rw [hn]; exact h
  have hm : ∀ i, True → i ∉ B.mp := fun i _ q => by rw [hp] at q; cases q
  have hu := hr.units
  have hu1 := room65 hr
  have hu2 := room65 hr
  unfold m__law_choices m__law_choices_4 m__law_choices_3 m__law_choices_2 m__law_choices_1
  exact (pdss_cons (pds_set (ps_set (i := 1) nd rfl (Or.inl rfl) (pd_lst pda_nil)) (fun _ _ _ h => h) (hi 1 (by decide)) (hm 1 (by decide)))
      (pdss_cons (pds_for passOwn rfl (pdi_range2 (pi_range2 rfl T.b_range (pda_cons d_int (pda_cons (d_add (d_var 0) d_int) pda_nil)))) (pdg_name (pg_name (i := 2) nd rfl (Or.inl rfl)) (hi 2 (by decide)) (hm 2 (by decide)))
      (pdss_one (pds_set (ps_set (i := 1) nd rfl (Or.inl rfl) (d_add (d_var 1) (d_call C__law_lots hG (hr.mono (by decide)) passE hEW (pda_cons (d_var 0) (pda_cons (d_var 2) pda_nil))))) (fun _ _ _ h => h) (hi 1 (by decide)) (hm 1 (by decide)))))
      (pdss_one (pds_ret (d_var 1)))))
def gv_halving_0_rows_table : List Value → List Value → List Value := fun us ws => match us, ws with
  | [], [x1, x0] => [x0, x1]
  | _, _ => []
def gV_halving_0_rows_table : List V → List V → List V := fun us ws => match us, ws with
  | [], [x1, x0] => [x0, x1]
  | _, _ => []
def g_halving_0_rows_table : List PyData → List PyData → List PyData := fun us ws => match us, ws with
  | [], [x1, x0] => [x0, x1]
  | _, _ => []
theorem kw_halving_0_rows_table : KwOk "halving" s_halving ["table", "rows"] ["rows", "table"] gv_halving_0_rows_table gV_halving_0_rows_table g_halving_0_rows_table where
  to := fun kV doc pm an cdv ct us ws hl => by
    unfold gv_halving_0_rows_table at hl ⊢
    split at hl
    · rfl
    · cases hl
  rel := fun {vs us zs ws} h1 h2 => by
    rcases h1 with _ | ⟨az, amore⟩ <;> rcases h2 with _ | ⟨b1, _ | ⟨b2, _ | ⟨bz, bmore⟩⟩⟩ <;> first | exact (.cons b2 (.cons b1 .nil)) | exact .nil
  perm := fun K G vs zs ds es h1 h2 => by
    rcases h1 with _ | ⟨az, amore⟩ <;> rcases h2 with _ | ⟨b1, _ | ⟨b2, _ | ⟨bz, bmore⟩⟩⟩ <;> first | exact (.cons b2 (.cons b1 .nil)) | exact .nil
theorem gext_up {G H H' : Hp} (sg : Same G H) (sh : Same H H') : Same (gext G H H') H' := fun b o q => by
  unfold gext at q
  cases e : H b with
  | some u => rw [e] at q; exact sh b o (sg b o q)
  | none => rw [e] at q; exact q
def tail__law_caught (c : Str) (x : PyData) : Option FR := if c = "InvalidPart" ∧ okRepr x = true then some (.ret (.d (.tuple [.bool true, .str x.shown]))) else none
theorem ret__law_caught : ∀ c z r, tail__law_caught c z = some r → ∃ w, r = .ret w := fun c z r h => by
  unfold tail__law_caught at h
  split at h
  · cases h; exact ⟨_, rfl⟩
  · cases h
abbrev tt__law_caught (K : PySem.W.Frag) (CIP : Addr) : TS := tRet (tIf (tTest (tOp rIsA (tVar 2) (tC .non))) (tC .non) (tTup (tCons (tCB (rIsK K) (tCons (tVar 2) (tCons (tC (.ref CIP)) tNil))) (tCons (tCB (rReprD K) (tCons (tVal K (tVar 2)) tNil)) tNil))))
theorem htl__law_caught {CIP : Addr} (hXP : ∀ c C, XC c C → c = "InvalidPart" ∧ C = CIP) (kP : PySem.W.kitOne K (.ref CIP) (.ref CIP) = some true) : ∀ (c : Str) (z : PyData) (r : FR) (C d a : Addr) (v : V) (σ : St) (G H H' : Hp) (D : Ends), tail__law_caught c z = some r → XC c C → Same G H → Same H H' → Kept K H' a C d v → Dp K (gext G H H') v z → σ[2]? = some (some (.ref a)) → (∀ w, r = .ret w → ∀ v' H'', Res K G H w v' H'' → D.rt v' H'') → tt__law_caught K CIP D σ H' := by
  intro c z r C d a v σ G H H' D ht hC sg sh kp hv hs k
  obtain ⟨rfl, rfl⟩ := hXP c C hC
  unfold tail__law_caught at ht
  split at ht
  · rename_i hz
    cases ht
    refine ⟨.ref a, hs, .inl ⟨rfl, _, rfl, ?_⟩⟩
    dsimp only
    rw [if_neg (by simp)]
    refine ⟨.ref a, hs, a, C, d, v, .ref C, .ref C, true, rfl, kp, fun u h => h, kP, ?_⟩
    refine ⟨.ref a, hs, a, C, d, v, rfl, kp, v, z, rfl, Dp.mono (gext_up sg sh) _ _ hv, hz.2, ?_⟩
    refine ⟨by rw [sizeLine_eq]; show 2 ≤ 16777216; omega, fun p hp => k _ rfl (.ref p) _ ⟨sh.trans (same_new hp), ?_⟩⟩
    have hn : H p = none := by
      cases e : H p with
      | none => rfl
      | some u => rw [sh p u e] at hp; cases hp
    refine .tup (SqT.of ?_) (.cons (.bl _) (.cons (.str _) .nil))
    unfold gext
    rw [hn]
    exact upd_same
  · cases ht
/-! _law_caught -/
abbrev s__law_caught : Stmt := topS 42
theorem sc__law_caught : FnScope ["table", "rows", "caught", "e"] ["table", "rows"] (defScope s__law_caught) := ⟨rfl, rfl, rfl, by decide +kernel, rfl, by decide +kernel, by decide +kernel⟩
def m__law_caught_1 : Mo Fl :=
    (sExpr (eFnK 2 F_halving g_halving_0_rows_table aNil (aCons (eVar 1) (aCons (eVar 0) aNil))))
def m__law_caught : Mo Fl :=
    m__law_caught_1
def F__law_caught := runC 2 2 m__law_caught tail__law_caught
abbrev Cal__law_caught (P : Program) (w : World) (K : PySem.W.Frag) (mg : Str → Option Value) (base : Heap) (XC : XCl) : Prop := Cal P w K mg base "_law_caught" s__law_caught 6 ["table", "rows"] (spP K XC 2 F__law_caught)
theorem ok__law_caught {f : Addr} {fd : FuncData} {CE : Addr} {CIP : Addr} (T : Bts mg) (F : Fun K "_law_caught" "_law_caught" s__law_caught f fd) (hmg : mg "_law_caught" = some (.ref f)) (mgE : mg "CutError" = some (.ref CE)) (mgP : mg "InvalidPart" = some (.ref CIP)) (hXC : ∀ c C, XC c C → ExcK K C ∧ PySem.W.exmOne K (.ref C) (.ref CE) = some true) (hXP : ∀ c C, XC c C → c = "InvalidPart" ∧ C = CIP) (kP : PySem.W.kitOne K (.ref CIP) (.ref CIP) = some true) (C_halving : Cal_halving P w K mg base XC) : Cal__law_caught P w K mg base XC := by
  have nd := (sc__law_caught).nd
  refine ⟨f, fd, F, defC (y := 2) (i := 3) (c0 := .ref CE) (tt := tt__law_caught K CIP) F sc__law_caught rfl rfl rfl (fun cdv A fr s H E B W hn hp hG hr => ?_) (fun cdv A fr s H E B hn hp hG hr => ?_) (fun cdv A fr s H E hG hr => ?_) hXC (htl__law_caught hXP kP) (by decide) (by decide) ret__law_caught, hmg, F.binds fun _ _ _ _ _ _ us hl => match us, hl with | [_, _], _ => rfl⟩
  · have hi : ∀ i, i < 4 → i < B.n := fun i h => by rw [hn]; exact h
    have hm : ∀ i, True → i ∉ B.mp := fun i _ q => by rw [hp] at q; cases q
    exact pds_set (ps_set (i := 2) nd rfl (Or.inl rfl) d_non) (fun _ _ _ h => h) (hi 2 (by decide)) (hm 2 trivial)
  · refine ps_try_keep (tb := fun W => tS K B (XWW XC W) m__law_caught) (X := cxOf (L2.CX P w) P w K mg base ["table", "rows", "caught", "e"] "_law_caught" (defScope s__law_caught) f cdv A fr s H E) rfl rfl rfl rfl rfl nd rfl rfl rfl rfl ⟨rfl, by decide, .inl mgE⟩ fun W pn xe tk po => ?_
    have hi : ∀ i, i < 4 → i < B.n := fun i h => by rw [hn]; exact h
    have hm : ∀ i, True → i ∉ B.mp := fun i _ q => by rw [hp] at q; cases q
    have hu := hr.units
    have hu1 := room65 hr
    have hu2 := room65 hr
    unfold m__law_caught m__law_caught_1
    exact (pdss_one (pds_expr (d_callK0 C_halving kw_halving_0_rows_table hG (hr.mono (by decide)) (passWW tk) hEWW (pdk_cons (d_var 1) (pdk_cons (d_var 0) pdk_nil)))))
  · have hu2 := room65 hr
    exact pss_one (ps_ret (pe_ifExp (pt_cmpR op_isA (pv 2) pe_non (nomark _)) pe_non (pe_tup (pa_cons (pe_callB call_isK rfl T.b_isinstance (by decide +kernel) (pa_cons (pv 2) (pa_cons (pe_glob rfl mgP rfl) pa_nil))) (pa_cons (pe_callB (call_reprD hG hu2) rfl T.b_repr (by decide +kernel) (pa_cons (pe_value (pv 2)) pa_nil)) pa_nil)))))
def gv_halvings_0_table : List Value → List Value → List Value := fun us ws => match us, ws with
  | [], [x0] => [x0]
  | _, _ => []
def gV_halvings_0_table : List V → List V → List V := fun us ws => match us, ws with
  | [], [x0] => [x0]
  | _, _ => []
def g_halvings_0_table : List PyData → List PyData → List PyData := fun us ws => match us, ws with
  | [], [x0] => [x0]
  | _, _ => []
theorem kw_halvings_0_table : KwOk "halvings" s_halvings ["table"] ["table"] gv_halvings_0_table gV_halvings_0_table g_halvings_0_table where
  to := fun kV doc pm an cdv ct us ws hl => by
    unfold gv_halvings_0_table at hl ⊢
    split at hl
    · rfl
    · cases hl
  rel := fun {vs us zs ws} h1 h2 => by
    rcases h1 with _ | ⟨az, amore⟩ <;> rcases h2 with _ | ⟨b1, _ | ⟨bz, bmore⟩⟩ <;> first | exact (.cons b1 .nil) | exact .nil
  perm := fun K G vs zs ds es h1 h2 => by
    rcases h1 with _ | ⟨az, amore⟩ <;> rcases h2 with _ | ⟨b1, _ | ⟨bz, bmore⟩⟩ <;> first | exact (.cons b1 .nil) | exact .nil
/-! law -/
abbrev s_law : Stmt := topS 43
theorem sc_law : FnScope ["script", "pool", "turn", "table", "text", "every", "rows", "none", "bar", "told", "bad", "due", "signs"] ["script"] (defScope s_law) := ⟨rfl, rfl, rfl, by decide +kernel, rfl, by decide +kernel, by decide +kernel⟩
def m_law_1 : Mo Fl :=
    (sSet 1 (eFn 2 F__law_pool (aCons (eVar 0) (aCons (eC (.int 300)) aNil))))
def m_law_2 : Mo Fl :=
    (sSet 3 (eFnM 1 F__law_table (aCons (eVar 1) (aCons (eC (.int 4)) aNil))))
def m_law_3 : Mo Fl :=
    (sSets [4, 5] (aCons (eCall reprF (aCons (eVar 3) aNil)) (aCons (eFn 1 F__law_choices (aCons (eCall lenF (aCons (eVar 3) aNil)) aNil)) aNil)))
def m_law_4 : Mo Fl :=
    (sSet 11 (eFn 2 F__law_halving (aCons (eVar 3) (aCons (eVar 6) aNil))))
def m_law_5 : Mo Fl :=
    (sRet (eC (.bool false)))
def m_law_6 : Mo Fl :=
    (sIf (cV (eBin neF (eCall reprF (aCons (eLst (aCons (eFn 2 F_halving (aCons (eVar 3) (aCons (eVar 6) aNil))) (aCons (eFnK 2 F_halving g_halving_0_rows_table aNil (aCons (eVar 6) (aCons (eVar 3) aNil))) aNil))) aNil)) (eCall reprF (aCons (eLst (aCons (eVar 11) (aCons (eVar 11) aNil))) aNil))))
    m_law_5
    sNx)
def m_law_7 : Mo Fl :=
    (sFor (iSeq (eVar 5)) (bName 6)
    (sSeq m_law_4
    m_law_6))
def m_law_8 : Mo Vl :=
    (eLc (iSeq (eVar 5)) (bName 6) (cV (eBin isF (eFn 2 F__law_halving (aCons (eVar 3) (aCons (eVar 6) aNil))) (eC .none))) (eVar 6) [6])
def m_law_9 : Mo Fl :=
    (sSet 7 m_law_8)
def m_law_10 : Mo Fl :=
    (sSet 8 (eFn 1 F__law_bar (aCons (eVar 3) aNil)))
def m_law_11 : Mo Fl :=
    (sRet (eC (.bool false)))
def m_law_12 : Mo Fl :=
    (sIf (cV (eBin neF (eCall reprF (aCons (eVar 9) aNil)) (eCall reprF (aCons (eTup (aCons (eC (.str "none")) (aCons (eBin ixF (eVar 7) (eC (.int 0))) aNil))) aNil))))
    m_law_11
    sNx)
def m_law_13 : Mo Vl :=
    (eLc (iSeq (eBin ixF (eVar 9) (eC (.int 1)))) (bTup [(bName 6), (bName 12)]) cYes (eVar 6) [6, 12])
def m_law_14 : Mo Fl :=
    (sRet (eC (.bool false)))
def m_law_15 : Mo Vl :=
    (eLc (iSeq (eBin ixF (eVar 9) (eC (.int 1)))) (bTup [(bName 6), (bName 12)]) (cV (eBin ninF (eVar 12) (eFn 1 F__law_signs (aCons (eCall lenF (aCons (eVar 6) aNil)) aNil)))) (eVar 6) [6, 12])
def m_law_16 : Mo Fl :=
    (sRet (eC (.bool false)))
def m_law_17 : Mo Vl :=
    (eLc (iSeq (eBin ixF (eVar 9) (eC (.int 1)))) (bTup [(bName 6), (bName 12)]) (cNot (cV (eFn 3 F__law_halves (aCons (eVar 3) (aCons (eVar 6) (aCons (eVar 12) aNil)))))) (eVar 6) [6, 12])
def m_law_18 : Mo Fl :=
    (sRet (eC (.bool false)))
def m_law_19 : Mo Fl :=
    (sIf (cV (eBin neF m_law_17 (eLst aNil)))
    m_law_18
    sNx)
def m_law_20 : Mo Fl :=
    (sIf (cV (eBin neF m_law_15 (eLst aNil)))
    m_law_16
    m_law_19)
def m_law_21 : Mo Fl :=
    (sIf (cOr (cV (eBin neF (eBin ixF (eVar 9) (eC (.int 0))) (eC (.str "all")))) (cV (eBin neF m_law_13 (eCall sortF (aCons (eVar 5) aNil)))))
    m_law_14
    m_law_20)
def m_law_22 : Mo Fl :=
    (sIf (cV (eBin neF (eVar 7) (eLst aNil)))
    m_law_12
    m_law_21)
def m_law_23 : Mo Fl :=
    (sRet (eC (.bool false)))
def m_law_24 : Mo Fl :=
    (sIf (cV (eBin isntF (eFn 2 F_halvings_hold (aCons (eVar 3) (aCons (eVar 9) aNil))) (eC (.bool true))))
    m_law_23
    sNx)
def m_law_25 : Mo Fl :=
    (sFor (iSeq (eLst (aCons (eFn 1 F_halvings (aCons (eVar 3) aNil)) (aCons (eFnK 1 F_halvings g_halvings_0_table aNil (aCons (eVar 3) aNil)) aNil)))) (bName 9)
    (sSeq m_law_22
    m_law_24))
def m_law_26 : Mo Fl :=
    (sRet (eC (.bool false)))
def m_law_27 : Mo Fl :=
    (sIf (cOr (cV (eBin neF (eBin eqF (eVar 7) (eLst aNil)) (eBin isF (eVar 8) (eC .none)))) (cAnd (cV (eBin isntF (eVar 8) (eC .none))) (cV (eBin gtF (eCall lenF (aCons (eBin ixF (eVar 7) (eC (.int 0))) aNil)) (eCall lenF (aCons (eBin ixF (eVar 8) (eC (.int 0))) aNil))))))
    m_law_26
    sNx)
def m_law_28 : Mo Fl :=
    (sSet 10 (eBin ixF (eLst (aCons (eC .none) (aCons (eTup aNil) (aCons (eTup (aCons (eC (.int 0)) (aCons (eC (.int 0)) aNil))) (aCons (eTup (aCons (eCall lenF (aCons (eVar 3) aNil)) aNil)) (aCons (eLst (aCons (eC (.int 0)) aNil)) (aCons (eTup (aCons (eC (.bool true)) aNil)) (aCons (eTup (aCons (eUn negF (eC (.int 1))) aNil)) (aCons (eC (.int 0)) (aCons (eC (.str "0")) aNil)))))))))) (eFnM 1 F__law_take (aCons (eVar 1) (aCons (eC (.int 9)) aNil)))))
def m_law_29 : Mo Fl :=
    (sRet (eC (.bool false)))
def m_law_30 : Mo Fl :=
    (sIf (cOr (cV (eBin neF (eFn 2 F__law_caught (aCons (eVar 3) (aCons (eVar 10) aNil))) (eTup (aCons (eC (.bool true)) (aCons (eCall reprF (aCons (eVar 10) aNil)) aNil))))) (cV (eBin neF (eCall reprF (aCons (eVar 3) aNil)) (eVar 4))))
    m_law_29
    sNx)
def m_law_31 : Mo Fl :=
    (sFor (iRng rng1 (aCons (eC (.int 4)) aNil)) (bName 2)
    (sSeq m_law_2
    (sSeq m_law_3
    (sSeq m_law_7
    (sSeq m_law_9
    (sSeq m_law_10
    (sSeq m_law_25
    (sSeq m_law_27
    (sSeq m_law_28
    m_law_30)))))))))
def m_law_32 : Mo Fl :=
    (sRet (eC (.bool true)))
def m_law : Mo Fl :=
    (sSeq m_law_1
    (sSeq m_law_31
    m_law_32))
def F_law := runP 12 m_law
abbrev Cal_law (P : Program) (w : World) (K : PySem.W.Frag) (mg : Str → Option Value) (base : Heap) (XC : XCl) : Prop := Cal P w K mg base "law" s_law 7 ["script"] (spP K XC 1 F_law)
theorem ok_law {f : Addr} {fd : FuncData} (T : Bts mg) (F : Fun K "law" "law" s_law f fd) (hmg : mg "law" = some (.ref f)) (C__law_bar : Cal__law_bar P w K mg base XC) (C__law_caught : Cal__law_caught P w K mg base XC) (C__law_choices : Cal__law_choices P w K mg base XC) (C__law_halves : Cal__law_halves P w K mg base XC) (C__law_halving : Cal__law_halving P w K mg base XC) (C__law_pool : Cal__law_pool P w K mg base XC) (C__law_signs : Cal__law_signs P w K mg base XC) (C__law_table : Cal__law_table P w K mg base XC) (C__law_take : Cal__law_take P w K mg base XC) (C_halving : Cal_halving P w K mg base XC) (C_halvings : Cal_halvings P w K mg base XC) (C_halvings_hold : Cal_halvings_hold P w K mg base XC) : Cal_law P w K mg base XC := by
  refine ⟨f, fd, F, defP F sc_law rfl rfl fun cdv A fr s H E B hn hp hG hr => ?_, hmg, F.binds fun _ _ _ _ _ _ us hl => match us, hl with | [_], _ => rfl⟩
  have nd := (sc_law).nd
  have hi : ∀ i, i < 13 → i < B.n := fun i h => by rw [hn]; exact h
  have hm : ∀ i, True → i ∉ B.mp := fun i _ q => by rw [hp] at q; cases q
  have hu := hr.units
  have hu1 := room65 hr
  have hu2 := room65 hr
  unfold m_law m_law_32 m_law_31 m_law_30 m_law_29 m_law_28 m_law_27 m_law_26 m_law_25 m_law_24 m_law_23 m_law_22 m_law_21 m_law_20 m_law_19 m_law_18 m_law_17 m_law_16 m_law_15 m_law_14 m_law_13 m_law_12 m_law_11 m_law_10 m_law_9 m_law_8 m_law_7 m_law_6 m_law_5 m_law_4 m_law_3 m_law_2 m_law_1
  exact (pdss_cons (pds_set (ps_set (i := 1) nd rfl (Or.inl rfl) (d_call C__law_pool hG (hr.mono (by decide)) passE hEW (pda_cons (d_var 0) (pda_cons d_int pda_nil)))) (fun _ _ _ h => h) (hi 1 (by decide)) (hm 1 (by decide)))
      (pdss_cons (pds_for passOwn rfl (pdi_range1 (pi_range1 rfl T.b_range (pda_cons d_int pda_nil))) (pdg_name (pg_name (i := 2) nd rfl (Or.inl rfl)) (hi 2 (by decide)) (hm 2 (by decide)))
      (pdss_cons (pds_set (ps_set (i := 3) nd rfl (Or.inr rfl) (d_callM C__law_table hG (hr.mono (by decide)) passE (pda_cons (d_var 1) (pda_cons d_int pda_nil)))) (fun _ _ _ h => h) (hi 3 (by decide)) (hm 3 (by decide)))
      (pdss_cons (pds_par (ps_par (i := 4) (j := 5) rfl nd rfl rfl (by decide) rfl rfl (pda_cons (pd_call (pe_callB (call_reprD hG hu2) rfl T.b_repr (by decide +kernel) (pda_cons (d_var 3) pda_nil)) reprD) (pda_cons (d_call C__law_choices hG (hr.mono (by decide)) passE hEW (pda_cons (pd_call (pe_callB call_len_seq rfl T.b_len (by decide +kernel) (pda_cons (d_var 3) pda_nil)) lenD) pda_nil)) pda_nil)) (by rfl)) ⟨hi 4 (by decide), hm 4 (by decide)⟩ ⟨hi 5 (by decide), hm 5 (by decide)⟩)
      (pdss_cons (pds_for passOwn rfl (pdi_seq (d_var 5)) (pdg_name (pg_name (i := 6) nd rfl (Or.inl rfl)) (hi 6 (by decide)) (hm 6 (by decide)))
      (pdss_cons (pds_set (ps_set (i := 11) nd rfl (Or.inl rfl) (d_call C__law_halving hG (hr.mono (by decide)) passE hEW (pda_cons (d_var 3) (pda_cons (d_var 6) pda_nil)))) (fun _ _ _ h => h) (hi 11 (by decide)) (hm 11 (by decide)))
      (pdss_one (pds_if (t_ne (pd_call (pe_callB (call_reprD hG hu2) rfl T.b_repr (by decide +kernel) (pda_cons (pd_lst (pda_cons (d_call C_halving hG (hr.mono (by decide)) passE hEW (pda_cons (d_var 3) (pda_cons (d_var 6) pda_nil))) (pda_cons (d_callK0 C_halving kw_halving_0_rows_table hG (hr.mono (by decide)) passE hEW (pdk_cons (d_var 6) (pdk_cons (d_var 3) pdk_nil))) pda_nil))) pda_nil)) reprD) (pd_call (pe_callB (call_reprD hG hu2) rfl T.b_repr (by decide +kernel) (pda_cons (pd_lst (pda_cons (d_var 11) (pda_cons (d_var 11) pda_nil))) pda_nil)) reprD) hu)
      (pdss_one (pds_ret d_bl))
      pdss_nil))))
      (pdss_cons (s_setLc (i := 7) rfl nd rfl rfl (sw_true rfl rfl rfl (by decide +kernel)) (blkOk_by (own := [("rows", 6)]) (by kernel_rfl)) (pdi_seq (d_var 5)) (fun _ _ _ _ _ => (pdg_name (pg_name (i := 6) nd rfl (Or.inl rfl)) (hi 6 (by decide)) (hm 6 (by decide)))) (fun _ _ _ _ _ => (pdts_one (t_is (d_call C__law_halving hG (hr.mono (by decide)) passL hE0 (pda_cons (d_var 3) (pda_cons (d_var 6) pda_nil))) d_non))) (fun _ _ _ _ _ => (d_var 6)) (by decide) (hi 7 (by decide)) (hm 7 (by decide)))
      (pdss_cons (pds_set (ps_set (i := 8) nd rfl (Or.inl rfl) (d_call C__law_bar hG (hr.mono (by decide)) passE hEW (pda_cons (d_var 3) pda_nil))) (fun _ _ _ h => h) (hi 8 (by decide)) (hm 8 (by decide)))
      (pdss_cons (pds_for passOwn rfl (pdi_seq (pd_lst (pda_cons (d_call C_halvings hG (hr.mono (by decide)) passE hEW (pda_cons (d_var 3) pda_nil)) (pda_cons (d_callK0 C_halvings kw_halvings_0_table hG (hr.mono (by decide)) passE hEW (pdk_cons (d_var 3) pdk_nil)) pda_nil)))) (pdg_name (pg_name (i := 9) nd rfl (Or.inl rfl)) (hi 9 (by decide)) (hm 9 (by decide)))
      (pdss_cons (pds_if (t_ne (d_var 7) (pd_lst pda_nil) hu)
      (pdss_one (pds_if (t_ne (pd_call (pe_callB (call_reprD hG hu2) rfl T.b_repr (by decide +kernel) (pda_cons (d_var 9) pda_nil)) reprD) (pd_call (pe_callB (call_reprD hG hu2) rfl T.b_repr (by decide +kernel) (pda_cons (pd_tup (pda_cons d_str (pda_cons (d_ix (d_var 7) d_int) pda_nil))) pda_nil)) reprD) hu)
      (pdss_one (pds_ret d_bl))
      pdss_nil))
      (pdss_one (pds_if (PW.pt (pdw_or (t_ne (d_ix (d_var 9) d_int) d_str hu) (pdw_or1 (t_ne (d_lc (own := [("rows", 6), ("signs", 12)]) rfl nd (blkOk_by (own := [("rows", 6), ("signs", 12)]) (by kernel_rfl)) (pdi_seq (d_ix (d_var 9) d_int)) (fun _ _ _ _ _ => (pdg_tup (pg_tup rfl (pdgs_cons (pdg_name (pg_name (i := 6) nd rfl (Or.inl rfl)) (hi 6 (by decide)) (hm 6 (by decide))) (pdgs_cons (pdg_name (pg_name (i := 12) nd rfl (Or.inl rfl)) (hi 12 (by decide)) (hm 12 (by decide))) pdgs_nil))) rfl)) (fun _ _ _ _ _ => pdts_nil) (fun _ _ _ _ _ => (d_var 6)) (by decide)) (pd_call (pe_callB (call_sortedD hu2) rfl T.b_sorted (by decide +kernel) (pda_cons (d_var 5) pda_nil)) sortD) hu))))
      (pdss_one (pds_ret d_bl))
      (pdss_one (pds_if (t_ne (d_lc (own := [("rows", 6), ("signs", 12)]) rfl nd (blkOk_by (own := [("rows", 6), ("signs", 12)]) (by kernel_rfl)) (pdi_seq (d_ix (d_var 9) d_int)) (fun _ _ _ _ _ => (pdg_tup (pg_tup rfl (pdgs_cons (pdg_name (pg_name (i := 6) nd rfl (Or.inl rfl)) (hi 6 (by decide)) (hm 6 (by decide))) (pdgs_cons (pdg_name (pg_name (i := 12) nd rfl (Or.inl rfl)) (hi 12 (by decide)) (hm 12 (by decide))) pdgs_nil))) rfl)) (fun _ _ _ _ _ => (pdts_one (t_notin (d_var 12) (d_call C__law_signs hG (hr.mono (by decide)) passL hE0 (pda_cons (pd_call (pe_callB call_len_seq rfl T.b_len (by decide +kernel) (pda_cons (d_var 6) pda_nil)) lenD) pda_nil)) hu1))) (fun _ _ _ _ _ => (d_var 6)) (by decide)) (pd_lst pda_nil) hu)
      (pdss_one (pds_ret d_bl))
      (pdss_one (pds_if (t_ne (d_lc (own := [("rows", 6), ("signs", 12)]) rfl nd (blkOk_by (own := [("rows", 6), ("signs", 12)]) (by kernel_rfl)) (pdi_seq (d_ix (d_var 9) d_int)) (fun _ _ _ _ _ => (pdg_tup (pg_tup rfl (pdgs_cons (pdg_name (pg_name (i := 6) nd rfl (Or.inl rfl)) (hi 6 (by decide)) (hm 6 (by decide))) (pdgs_cons (pdg_name (pg_name (i := 12) nd rfl (Or.inl rfl)) (hi 12 (by decide)) (hm 12 (by decide))) pdgs_nil))) rfl)) (fun _ _ _ _ _ => (pdts_one (pdt_not (t_val (d_call C__law_halves hG (hr.mono (by decide)) passL hE0 (pda_cons (d_var 3) (pda_cons (d_var 6) (pda_cons (d_var 12) pda_nil)))))))) (fun _ _ _ _ _ => (d_var 6)) (by decide)) (pd_lst pda_nil) hu)
      (pdss_one (pds_ret d_bl))
      pdss_nil)))))))
      (pdss_one (pds_if (t_isnt (d_call C_halvings_hold hG (hr.mono (by decide)) passE hEW (pda_cons (d_var 3) (pda_cons (d_var 9) pda_nil))) d_bl)
      (pdss_one (pds_ret d_bl))
      pdss_nil))))
      (pdss_cons (pds_if (PW.pt (pdw_or (t_ne (d_eq (d_var 7) (pd_lst pda_nil) hu) (d_is (d_var 8) d_non) hu) (pdw_or1 (PW.pt (pdw_and (t_isnt (d_var 8) d_non) (pdw_and1 (t_gt (pd_call (pe_callB call_len_seq rfl T.b_len (by decide +kernel) (pda_cons (d_ix (d_var 7) d_int) pda_nil)) lenD) (pd_call (pe_callB call_len_seq rfl T.b_len (by decide +kernel) (pda_cons (d_ix (d_var 8) d_int) pda_nil)) lenD))))))))
      (pdss_one (pds_ret d_bl))
      pdss_nil)
      (pdss_cons (pds_set (ps_set (i := 10) nd rfl (Or.inl rfl) (d_ix (pd_lst (pda_cons d_non (pda_cons (pd_tup pda_nil) (pda_cons (pd_tup (pda_cons d_int (pda_cons d_int pda_nil))) (pda_cons (pd_tup (pda_cons (pd_call (pe_callB call_len_seq rfl T.b_len (by decide +kernel) (pda_cons (d_var 3) pda_nil)) lenD) pda_nil)) (pda_cons (pd_lst (pda_cons d_int pda_nil)) (pda_cons (pd_tup (pda_cons d_bl pda_nil)) (pda_cons (pd_tup (pda_cons (d_neg d_int) pda_nil)) (pda_cons d_int (pda_cons d_str pda_nil)))))))))) (d_callM C__law_take hG (hr.mono (by decide)) passE (pda_cons (d_var 1) (pda_cons d_int pda_nil))))) (fun _ _ _ h => h) (hi 10 (by decide)) (hm 10 (by decide)))
      (pdss_one (pds_if (PW.pt (pdw_or (t_ne (d_call C__law_caught hG (hr.mono (by decide)) passE hEW (pda_cons (d_var 3) (pda_cons (d_var 10) pda_nil))) (pd_tup (pda_cons d_bl (pda_cons (pd_call (pe_callB (call_reprD hG hu2) rfl T.b_repr (by decide +kernel) (pda_cons (d_var 10) pda_nil)) reprD) pda_nil))) hu) (pdw_or1 (t_ne (pd_call (pe_callB (call_reprD hG hu2) rfl T.b_repr (by decide +kernel) (pda_cons (d_var 3) pda_nil)) reprD) (d_var 4) hu))))
      (pdss_one (pds_ret d_bl))
      pdss_nil)))))))))))
      (pdss_one (pds_ret d_bl))))
end
end L2.K72

namespace L2.K72
open PySem PySem.Spec PyProof.Rows L2.DL
/-! ### kinds -/
def isI : PyData → Bool
  | .int _ => true
  | _ => false
def isB : PyData → Bool
  | .bool _ => true
  | _ => false
def isT : PyData → Bool
  | .tuple _ => true
  | _ => false
def isS : PyData → Bool
  | .str _ => true
  | _ => false
def isL : PyData → Bool
  | .list _ => true
  | _ => false
theorem isi_int (d : PyData) : isiF "int" d = some (.d (.bool (isI d || isB d))) := by cases d <;> (show Option.map _ (kitB _ _) = _; rw [show kitB _ _ = some _ from by kernel_rfl]; rfl)
theorem isi_bool (d : PyData) : isiF "bool" d = some (.d (.bool (isB d))) := by cases d <;> (show Option.map _ (kitB _ _) = _; rw [show kitB _ _ = some _ from by kernel_rfl]; rfl)
theorem isi_tuple (d : PyData) : isiF "tuple" d = some (.d (.bool (isT d))) := by cases d <;> (show Option.map _ (kitB _ _) = _; rw [show kitB _ _ = some _ from by kernel_rfl]; rfl)
theorem isi_str (d : PyData) : isiF "str" d = some (.d (.bool (isS d))) := by cases d <;> (show Option.map _ (kitB _ _) = _; rw [show kitB _ _ = some _ from by kernel_rfl]; rfl)
theorem isi_list (d : PyData) : isiF "list" d = some (.d (.bool (isL d))) := by cases d <;> (show Option.map _ (kitB _ _) = _; rw [show kitB _ _ = some _ from by kernel_rfl]; rfl)
/-! ### the program's checks, computed -/
theorem v_is_integer (d : PyData) : F_is_integer [d] = some (.ret (.d (.bool (isI d)))) := by
  refine runP_ok ?_
  simp [m_is_integer, m_is_integer_1, run_bnd, run_ret, run_lift, run_peek, run_freeze, run_var, run_store, run_bName, run_callF, run_callM, run_isOwn, run_extM, run_if, eC, eBin, eUn, aNil, aCons, eTup, eLst, eCall, cV, cAnd, cOr, cNot, eIf, eAnd, eOr, eChain, sSet, sSets, stores, clash, sSeq, sNx, sIf, sExpr, sRet, sRetN, sAsg, eFn, eFnM, eFnK, peeks, freezes, iSeq, iRng, iZips, eMut, eSl, partN, partS, asInt, eExt, bSub, cYes, eLc, sFor, asBool, asRet, asRetM, List.map_cons, List.map_nil, List.replicate, List.cons_append, List.nil_append, List.append_nil, List.getElem?_cons_zero, List.getElem?_cons_succ, List.set_cons_zero, List.set_cons_succ, addF, subF, isi_int, isi_bool, isi_tuple, isi_str, isi_list, lenF, ltF, leF, gtF, geF, cmpF, negF, absF, intF, tupF, lstF, notF, seqOf]
  cases d <;> simp [isI, isB]
def btw (d : PyData) (lo hi : Int) : Bool := match d with
  | .int i => decide (lo ≤ i) && decide (i ≤ hi)
  | _ => false
theorem v_is_between (d : PyData) (lo hi : Int) : F_is_between [d, .int lo, .int hi] = some (.ret (.d (.bool (btw d lo hi)))) := by
  refine runP_ok ?_
  simp [m_is_between, m_is_between_1, run_bnd, run_ret, run_lift, run_peek, run_freeze, run_var, run_store, run_bName, run_callF, run_callM, run_isOwn, run_extM, run_if, eC, eBin, eUn, aNil, aCons, eTup, eLst, eCall, cV, cAnd, cOr, cNot, eIf, eAnd, eOr, eChain, sSet, sSets, stores, clash, sSeq, sNx, sIf, sExpr, sRet, sRetN, sAsg, eFn, eFnM, eFnK, peeks, freezes, iSeq, iRng, iZips, eMut, eSl, partN, partS, asInt, eExt, bSub, cYes, eLc, sFor, asBool, asRet, asRetM, List.map_cons, List.map_nil, List.replicate, List.cons_append, List.nil_append, List.append_nil, List.getElem?_cons_zero, List.getElem?_cons_succ, List.set_cons_zero, List.set_cons_succ, addF, subF, isi_int, isi_bool, isi_tuple, isi_str, isi_list, lenF, ltF, leF, gtF, geF, cmpF, negF, absF, intF, tupF, lstF, notF, seqOf, v_is_integer]
  cases d <;> simp [isI, btw, run_bnd, run_ret, run_lift, run_peek, run_freeze, run_var, run_store, run_bName, run_callF, run_callM, run_isOwn, run_extM, run_if, eC, eBin, eUn, aNil, aCons, eTup, eLst, eCall, cV, cAnd, cOr, cNot, eIf, eAnd, eOr, eChain, sSet, sSets, stores, clash, sSeq, sNx, sIf, sExpr, sRet, sRetN, sAsg, eFn, eFnM, eFnK, peeks, freezes, iSeq, iRng, iZips, eMut, eSl, partN, partS, asInt, eExt, bSub, cYes, eLc, sFor, asBool, asRet, asRetM, List.map_cons, List.map_nil, List.replicate, List.cons_append, List.nil_append, List.append_nil, List.getElem?_cons_zero, List.getElem?_cons_succ, List.set_cons_zero, List.set_cons_succ, addF, subF, isi_int, isi_bool, isi_tuple, isi_str, isi_list, lenF, ltF, leF, gtF, geF, cmpF, negF, absF, intF, tupF, lstF, notF, seqOf]
  omega
def lenT : PyData → Nat
  | .tuple xs => xs.length
  | _ => 0
def tupw (d : PyData) (lo hi : Int) : Bool := match d with
  | .tuple xs => decide (lo ≤ xs.length) && decide ((xs.length : Int) ≤ hi)
  | _ => false
theorem v_is_tuple (d : PyData) (lo hi : Int) : F_is_tuple [d, .int lo, .int hi] = some (.ret (.d (.bool (tupw d lo hi)))) := by
  refine runP_ok ?_
  simp [m_is_tuple, m_is_tuple_1, run_bnd, run_ret, run_lift, run_peek, run_freeze, run_var, run_store, run_bName, run_callF, run_callM, run_isOwn, run_extM, run_if, eC, eBin, eUn, aNil, aCons, eTup, eLst, eCall, cV, cAnd, cOr, cNot, eIf, eAnd, eOr, eChain, sSet, sSets, stores, clash, sSeq, sNx, sIf, sExpr, sRet, sRetN, sAsg, eFn, eFnM, eFnK, peeks, freezes, iSeq, iRng, iZips, eMut, eSl, partN, partS, asInt, eExt, bSub, cYes, eLc, sFor, asBool, asRet, asRetM, List.map_cons, List.map_nil, List.replicate, List.cons_append, List.nil_append, List.append_nil, List.getElem?_cons_zero, List.getElem?_cons_succ, List.set_cons_zero, List.set_cons_succ, addF, subF, isi_int, isi_bool, isi_tuple, isi_str, isi_list, lenF, ltF, leF, gtF, geF, cmpF, negF, absF, intF, tupF, lstF, notF, seqOf]
  cases d <;> simp [isT, tupw, run_bnd, run_ret, run_lift, run_peek, run_freeze, run_var, run_store, run_bName, run_callF, run_callM, run_isOwn, run_extM, run_if, eC, eBin, eUn, aNil, aCons, eTup, eLst, eCall, cV, cAnd, cOr, cNot, eIf, eAnd, eOr, eChain, sSet, sSets, stores, clash, sSeq, sNx, sIf, sExpr, sRet, sRetN, sAsg, eFn, eFnM, eFnK, peeks, freezes, iSeq, iRng, iZips, eMut, eSl, partN, partS, asInt, eExt, bSub, cYes, eLc, sFor, asBool, asRet, asRetM, List.map_cons, List.map_nil, List.replicate, List.cons_append, List.nil_append, List.append_nil, List.getElem?_cons_zero, List.getElem?_cons_succ, List.set_cons_zero, List.set_cons_succ, addF, subF, isi_int, isi_bool, isi_tuple, isi_str, isi_list, lenF, ltF, leF, gtF, geF, cmpF, negF, absF, intF, tupF, lstF, notF, seqOf]
  omega
theorem bools_map (xs : List PyData) (p : PyData → Bool) : boolsOf (xs.map fun x => .bool (p x)) = some (xs.map p) := by
  induction xs with
  | nil => rfl
  | cons x xs ih => simp [boolsOf, ih]
theorem v_are_integers (xs : List PyData) (hl : xs.length < 10000) : F_are_integers [.tuple xs] = some (.ret (.d (.bool (xs.all isI)))) := by
  refine runP_ok ?_
  simp [m_are_integers, m_are_integers_1, m_are_integers_2, run_bnd, run_ret, run_lift, run_peek, run_freeze, run_var, run_store, run_bName, run_callF, run_callM, run_isOwn, run_extM, run_if, eC, eBin, eUn, aNil, aCons, eTup, eLst, eCall, cV, cAnd, cOr, cNot, eIf, eAnd, eOr, eChain, sSet, sSets, stores, clash, sSeq, sNx, sIf, sExpr, sRet, sRetN, sAsg, eFn, eFnM, eFnK, peeks, freezes, iSeq, iRng, iZips, eMut, eSl, partN, partS, asInt, eExt, bSub, cYes, eLc, sFor, asBool, asRet, asRetM, List.map_cons, List.map_nil, List.replicate, List.cons_append, List.nil_append, List.append_nil, List.getElem?_cons_zero, List.getElem?_cons_succ, List.set_cons_zero, List.set_cons_succ, addF, subF, isi_int, isi_bool, isi_tuple, isi_str, isi_list, lenF, ltF, leF, gtF, geF, cmpF, negF, absF, intF, tupF, lstF, notF, seqOf, isT]
  refine ⟨by omega, ?_⟩
  refine run_map _ (fun x => .bool (isI x)) rfl (fun x hx => ?_) ?_
  · simp [run_bnd, run_ret, run_lift, run_peek, run_freeze, run_var, run_store, run_bName, run_callF, run_callM, run_isOwn, run_extM, run_if, eC, eBin, eUn, aNil, aCons, eTup, eLst, eCall, cV, cAnd, cOr, cNot, eIf, eAnd, eOr, eChain, sSet, sSets, stores, clash, sSeq, sNx, sIf, sExpr, sRet, sRetN, sAsg, eFn, eFnM, eFnK, peeks, freezes, iSeq, iRng, iZips, eMut, eSl, partN, partS, asInt, eExt, bSub, cYes, eLc, sFor, asBool, asRet, asRetM, List.map_cons, List.map_nil, List.replicate, List.cons_append, List.nil_append, List.append_nil, List.getElem?_cons_zero, List.getElem?_cons_succ, List.set_cons_zero, List.set_cons_succ, addF, subF, isi_int, isi_bool, isi_tuple, isi_str, isi_list, lenF, ltF, leF, gtF, geF, cmpF, negF, absF, intF, tupF, lstF, notF, seqOf, v_is_integer, wipeE]
  · simp [allF, bools_map, run_bnd, run_ret, run_lift, run_peek, run_freeze, run_var, run_store, run_bName, run_callF, run_callM, run_isOwn, run_extM, run_if, eC, eBin, eUn, aNil, aCons, eTup, eLst, eCall, cV, cAnd, cOr, cNot, eIf, eAnd, eOr, eChain, sSet, sSets, stores, clash, sSeq, sNx, sIf, sExpr, sRet, sRetN, sAsg, eFn, eFnM, eFnK, peeks, freezes, iSeq, iRng, iZips, eMut, eSl, partN, partS, asInt, eExt, bSub, cYes, eLc, sFor, asBool, asRet, asRetM, List.map_cons, List.map_nil, List.replicate, List.cons_append, List.nil_append, List.append_nil, List.getElem?_cons_zero, List.getElem?_cons_succ, List.set_cons_zero, List.set_cons_succ, addF, subF, isi_int, isi_bool, isi_tuple, isi_str, isi_list, lenF, ltF, leF, gtF, geF, cmpF, negF, absF, intF, tupF, lstF, notF, seqOf, wipeE]
end L2.K72

namespace L2.K72
open PySem PySem.Spec PyProof.Rows L2.DL
theorem cut_from {α : Type} (xs : List α) (k : Nat) : cutG xs (some (k : Int)) none = xs.drop k := by
  unfold cutG
  rw [HT.sIx_nat, HT.sIx_none]
  by_cases h : k ≤ xs.length
  · rw [Nat.min_eq_left h, List.take_of_length_le (by simp)]
  · rw [List.drop_eq_nil_of_le (by omega), List.drop_eq_nil_of_le (by omega)]
    simp
theorem cut_to {α : Type} (xs : List α) (k : Nat) : cutG xs none (some (k : Int)) = xs.take k := by
  unfold cutG
  rw [HT.sIx_nat, HT.sIx_none]
  simp [List.take_eq_take_iff]
theorem cut_one {α : Type} (xs : List α) : cutG xs (some 1) none = xs.drop 1 := cut_from xs 1
def ltD (a b : PyData) : Bool := match a, b with
  | .int i, .int j => decide (i < j)
  | _, _ => false
def upsD (xs : List PyData) : Bool := (xs.zip xs.tail).all fun p => ltD p.1 p.2
def pairLt : PyData → Bool
  | .tuple [a, b] => ltD a b
  | _ => false
theorem v_are_rising (xs : List PyData) (h : xs.all isI = true) (hl : xs.length < 10000) : F_are_rising [.tuple xs] = some (.ret (.d (.bool (upsD xs)))) := by
  refine runP_ok ?_
  simp [m_are_rising, m_are_rising_1, m_are_rising_2, run_bnd, run_ret, run_lift, run_peek, run_freeze, run_var, run_store, run_bName, run_callF, run_callM, run_isOwn, run_extM, run_if, eC, eBin, eUn, aNil, aCons, eTup, eLst, eCall, cV, cAnd, cOr, cNot, eIf, eAnd, eOr, eChain, sSet, sSets, stores, clash, sSeq, sNx, sIf, sExpr, sRet, sRetN, sAsg, eFn, eFnM, eFnK, peeks, freezes, iSeq, iRng, iZips, eMut, eSl, partN, partS, asInt, eExt, bSub, cYes, eLc, sFor, asBool, asRet, asRetM, List.map_cons, List.map_nil, List.replicate, List.cons_append, List.nil_append, List.append_nil, List.getElem?_cons_zero, List.getElem?_cons_succ, List.set_cons_zero, List.set_cons_succ, addF, subF, isi_int, isi_bool, isi_tuple, isi_str, isi_list, lenF, ltF, leF, gtF, geF, cmpF, negF, absF, intF, tupF, lstF, notF, seqOf, slF, cut_one, zip2]
  refine ⟨by simp [pairs]; omega, ?_⟩
  refine run_map _ (fun x => .bool (pairLt x)) rfl (fun x hx => ?_) ?_
  · unfold pairs at hx
    obtain ⟨⟨a, b⟩, hab, rfl⟩ := List.mem_map.mp hx
    have h1 := List.of_mem_zip hab
    have ha := List.all_eq_true.mp h a h1.1
    have hb := List.all_eq_true.mp h b (List.mem_of_mem_tail h1.2)
    cases a <;> simp [isI] at ha
    cases b <;> simp [isI] at hb
    simp [bTup, bAll, run_bnd, run_ret, run_lift, run_peek, run_freeze, run_var, run_store, run_bName, run_callF, run_callM, run_isOwn, run_extM, run_if, eC, eBin, eUn, aNil, aCons, eTup, eLst, eCall, cV, cAnd, cOr, cNot, eIf, eAnd, eOr, eChain, sSet, sSets, stores, clash, sSeq, sNx, sIf, sExpr, sRet, sRetN, sAsg, eFn, eFnM, eFnK, peeks, freezes, iSeq, iRng, iZips, eMut, eSl, partN, partS, asInt, eExt, bSub, cYes, eLc, sFor, asBool, asRet, asRetM, List.map_cons, List.map_nil, List.replicate, List.cons_append, List.nil_append, List.append_nil, List.getElem?_cons_zero, List.getElem?_cons_succ, List.set_cons_zero, List.set_cons_succ, addF, subF, isi_int, isi_bool, isi_tuple, isi_str, isi_list, lenF, ltF, leF, gtF, geF, cmpF, negF, absF, intF, tupF, lstF, notF, seqOf, wipeE, pairLt, ltD]
  · simp [allF, bools_map, run_bnd, run_ret, run_lift, run_peek, run_freeze, run_var, run_store, run_bName, run_callF, run_callM, run_isOwn, run_extM, run_if, eC, eBin, eUn, aNil, aCons, eTup, eLst, eCall, cV, cAnd, cOr, cNot, eIf, eAnd, eOr, eChain, sSet, sSets, stores, clash, sSeq, sNx, sIf, sExpr, sRet, sRetN, sAsg, eFn, eFnM, eFnK, peeks, freezes, iSeq, iRng, iZips, eMut, eSl, partN, partS, asInt, eExt, bSub, cYes, eLc, sFor, asBool, asRet, asRetM, List.map_cons, List.map_nil, List.replicate, List.cons_append, List.nil_append, List.append_nil, List.getElem?_cons_zero, List.getElem?_cons_succ, List.set_cons_zero, List.set_cons_succ, addF, subF, isi_int, isi_bool, isi_tuple, isi_str, isi_list, lenF, ltF, leF, gtF, geF, cmpF, negF, absF, intF, tupF, lstF, notF, seqOf, wipeE]
    unfold upsD pairs
    rw [List.all_map]
    rfl
theorem v_is_rising (xs : List PyData) (h : xs.all isI = true) (hl : xs.length < 10000) : F_is_rising [.tuple xs] = some (.ret (.d (.bool (upsD xs)))) := by
  refine runP_ok ?_
  simp [m_is_rising, m_is_rising_1, m_is_rising_2, m_is_rising_3, m_is_rising_4, run_bnd, run_ret, run_lift, run_peek, run_freeze, run_var, run_store, run_bName, run_callF, run_callM, run_isOwn, run_extM, run_if, eC, eBin, eUn, aNil, aCons, eTup, eLst, eCall, cV, cAnd, cOr, cNot, eIf, eAnd, eOr, eChain, sSet, sSets, stores, clash, sSeq, sNx, sIf, sExpr, sRet, sRetN, sAsg, eFn, eFnM, eFnK, peeks, freezes, iSeq, iRng, iZips, eMut, eSl, partN, partS, asInt, eExt, bSub, cYes, eLc, sFor, asBool, asRet, asRetM, List.map_cons, List.map_nil, List.replicate, List.cons_append, List.nil_append, List.append_nil, List.getElem?_cons_zero, List.getElem?_cons_succ, List.set_cons_zero, List.set_cons_succ, addF, subF, isi_int, isi_bool, isi_tuple, isi_str, isi_list, lenF, ltF, leF, gtF, geF, cmpF, negF, absF, intF, tupF, lstF, notF, seqOf, v_are_integers xs hl, h, v_are_rising xs h hl]
def idxB (d : PyData) (m : Int) : Bool := match d with
  | .tuple xs => tupw d 1 m && xs.all (fun x => btw x 0 (m - 1)) && upsD xs
  | _ => false
theorem v_are_indexes (d : PyData) (m : Int) (hm : m ≤ 100) : F_are_indexes [d, .int m] = some (.ret (.d (.bool (idxB d m)))) := by
  refine runP_ok ?_
  simp [m_are_indexes, m_are_indexes_1, m_are_indexes_2, m_are_indexes_3, m_are_indexes_4, run_bnd, run_ret, run_lift, run_peek, run_freeze, run_var, run_store, run_bName, run_callF, run_callM, run_isOwn, run_extM, run_if, eC, eBin, eUn, aNil, aCons, eTup, eLst, eCall, cV, cAnd, cOr, cNot, eIf, eAnd, eOr, eChain, sSet, sSets, stores, clash, sSeq, sNx, sIf, sExpr, sRet, sRetN, sAsg, eFn, eFnM, eFnK, peeks, freezes, iSeq, iRng, iZips, eMut, eSl, partN, partS, asInt, eExt, bSub, cYes, eLc, sFor, asBool, asRet, asRetM, List.map_cons, List.map_nil, List.replicate, List.cons_append, List.nil_append, List.append_nil, List.getElem?_cons_zero, List.getElem?_cons_succ, List.set_cons_zero, List.set_cons_succ, addF, subF, isi_int, isi_bool, isi_tuple, isi_str, isi_list, lenF, ltF, leF, gtF, geF, cmpF, negF, absF, intF, tupF, lstF, notF, seqOf, v_is_tuple]
  cases d with
  | tuple xs =>
    cases ht : tupw (.tuple xs) 1 m with
    | false => simp [run_bnd, run_ret, run_lift, run_peek, run_freeze, run_var, run_store, run_bName, run_callF, run_callM, run_isOwn, run_extM, run_if, eC, eBin, eUn, aNil, aCons, eTup, eLst, eCall, cV, cAnd, cOr, cNot, eIf, eAnd, eOr, eChain, sSet, sSets, stores, clash, sSeq, sNx, sIf, sExpr, sRet, sRetN, sAsg, eFn, eFnM, eFnK, peeks, freezes, iSeq, iRng, iZips, eMut, eSl, partN, partS, asInt, eExt, bSub, cYes, eLc, sFor, asBool, asRet, asRetM, List.map_cons, List.map_nil, List.replicate, List.cons_append, List.nil_append, List.append_nil, List.getElem?_cons_zero, List.getElem?_cons_succ, List.set_cons_zero, List.set_cons_succ, addF, subF, isi_int, isi_bool, isi_tuple, isi_str, isi_list, lenF, ltF, leF, gtF, geF, cmpF, negF, absF, intF, tupF, lstF, notF, seqOf, idxB, ht]
    | true =>
      have hl : xs.length < 10000 := by
        simp [tupw] at ht
        omega
      simp [run_bnd, run_ret, run_lift, run_peek, run_freeze, run_var, run_store, run_bName, run_callF, run_callM, run_isOwn, run_extM, run_if, eC, eBin, eUn, aNil, aCons, eTup, eLst, eCall, cV, cAnd, cOr, cNot, eIf, eAnd, eOr, eChain, sSet, sSets, stores, clash, sSeq, sNx, sIf, sExpr, sRet, sRetN, sAsg, eFn, eFnM, eFnK, peeks, freezes, iSeq, iRng, iZips, eMut, eSl, partN, partS, asInt, eExt, bSub, cYes, eLc, sFor, asBool, asRet, asRetM, List.map_cons, List.map_nil, List.replicate, List.cons_append, List.nil_append, List.append_nil, List.getElem?_cons_zero, List.getElem?_cons_succ, List.set_cons_zero, List.set_cons_succ, addF, subF, isi_int, isi_bool, isi_tuple, isi_str, isi_list, lenF, ltF, leF, gtF, geF, cmpF, negF, absF, intF, tupF, lstF, notF, seqOf]
      refine ⟨by omega, ?_⟩
      refine run_map _ (fun x => .bool (btw x 0 (m - 1))) rfl (fun x hx => ?_) ?_
      · simp [run_bnd, run_ret, run_lift, run_peek, run_freeze, run_var, run_store, run_bName, run_callF, run_callM, run_isOwn, run_extM, run_if, eC, eBin, eUn, aNil, aCons, eTup, eLst, eCall, cV, cAnd, cOr, cNot, eIf, eAnd, eOr, eChain, sSet, sSets, stores, clash, sSeq, sNx, sIf, sExpr, sRet, sRetN, sAsg, eFn, eFnM, eFnK, peeks, freezes, iSeq, iRng, iZips, eMut, eSl, partN, partS, asInt, eExt, bSub, cYes, eLc, sFor, asBool, asRet, asRetM, List.map_cons, List.map_nil, List.replicate, List.cons_append, List.nil_append, List.append_nil, List.getElem?_cons_zero, List.getElem?_cons_succ, List.set_cons_zero, List.set_cons_succ, addF, subF, isi_int, isi_bool, isi_tuple, isi_str, isi_list, lenF, ltF, leF, gtF, geF, cmpF, negF, absF, intF, tupF, lstF, notF, seqOf, v_is_between, wipeE]
      · simp [allF, bools_map, run_bnd, run_ret, run_lift, run_peek, run_freeze, run_var, run_store, run_bName, run_callF, run_callM, run_isOwn, run_extM, run_if, eC, eBin, eUn, aNil, aCons, eTup, eLst, eCall, cV, cAnd, cOr, cNot, eIf, eAnd, eOr, eChain, sSet, sSets, stores, clash, sSeq, sNx, sIf, sExpr, sRet, sRetN, sAsg, eFn, eFnM, eFnK, peeks, freezes, iSeq, iRng, iZips, eMut, eSl, partN, partS, asInt, eExt, bSub, cYes, eLc, sFor, asBool, asRet, asRetM, List.map_cons, List.map_nil, List.replicate, List.cons_append, List.nil_append, List.append_nil, List.getElem?_cons_zero, List.getElem?_cons_succ, List.set_cons_zero, List.set_cons_succ, addF, subF, isi_int, isi_bool, isi_tuple, isi_str, isi_list, lenF, ltF, leF, gtF, geF, cmpF, negF, absF, intF, tupF, lstF, notF, seqOf, wipeE]
        cases hb : xs.all (fun x => btw x 0 (m - 1)) with
        | false =>
          have hb' : ¬ ∀ x ∈ xs, btw x 0 (m - 1) = true := by
            intro z
            rw [List.all_eq_true.mpr z] at hb
            cases hb
          simp at hb
          simp [run_bnd, run_ret, run_lift, run_peek, run_freeze, run_var, run_store, run_bName, run_callF, run_callM, run_isOwn, run_extM, run_if, eC, eBin, eUn, aNil, aCons, eTup, eLst, eCall, cV, cAnd, cOr, cNot, eIf, eAnd, eOr, eChain, sSet, sSets, stores, clash, sSeq, sNx, sIf, sExpr, sRet, sRetN, sAsg, eFn, eFnM, eFnK, peeks, freezes, iSeq, iRng, iZips, eMut, eSl, partN, partS, asInt, eExt, bSub, cYes, eLc, sFor, asBool, asRet, asRetM, List.map_cons, List.map_nil, List.replicate, List.cons_append, List.nil_append, List.append_nil, List.getElem?_cons_zero, List.getElem?_cons_succ, List.set_cons_zero, List.set_cons_succ, addF, subF, isi_int, isi_bool, isi_tuple, isi_str, isi_list, lenF, ltF, leF, gtF, geF, cmpF, negF, absF, intF, tupF, lstF, notF, seqOf, idxB, ht, hb']
          exact hb
        | true =>
          have hi : xs.all isI = true := List.all_eq_true.mpr fun x hx => by
            have := List.all_eq_true.mp hb x hx
            cases x <;> simp [btw] at this
            rfl
          have hb' : ∀ x ∈ xs, btw x 0 (m - 1) = true := List.all_eq_true.mp hb
          simp [run_bnd, run_ret, run_lift, run_peek, run_freeze, run_var, run_store, run_bName, run_callF, run_callM, run_isOwn, run_extM, run_if, eC, eBin, eUn, aNil, aCons, eTup, eLst, eCall, cV, cAnd, cOr, cNot, eIf, eAnd, eOr, eChain, sSet, sSets, stores, clash, sSeq, sNx, sIf, sExpr, sRet, sRetN, sAsg, eFn, eFnM, eFnK, peeks, freezes, iSeq, iRng, iZips, eMut, eSl, partN, partS, asInt, eExt, bSub, cYes, eLc, sFor, asBool, asRet, asRetM, List.map_cons, List.map_nil, List.replicate, List.cons_append, List.nil_append, List.append_nil, List.getElem?_cons_zero, List.getElem?_cons_succ, List.set_cons_zero, List.set_cons_succ, addF, subF, isi_int, isi_bool, isi_tuple, isi_str, isi_list, lenF, ltF, leF, gtF, geF, cmpF, negF, absF, intF, tupF, lstF, notF, seqOf, idxB, ht, hb, v_is_rising xs hi hl]
          exact .inr hb'
  | _ => simp [run_bnd, run_ret, run_lift, run_peek, run_freeze, run_var, run_store, run_bName, run_callF, run_callM, run_isOwn, run_extM, run_if, eC, eBin, eUn, aNil, aCons, eTup, eLst, eCall, cV, cAnd, cOr, cNot, eIf, eAnd, eOr, eChain, sSet, sSets, stores, clash, sSeq, sNx, sIf, sExpr, sRet, sRetN, sAsg, eFn, eFnM, eFnK, peeks, freezes, iSeq, iRng, iZips, eMut, eSl, partN, partS, asInt, eExt, bSub, cYes, eLc, sFor, asBool, asRet, asRetM, List.map_cons, List.map_nil, List.replicate, List.cons_append, List.nil_append, List.append_nil, List.getElem?_cons_zero, List.getElem?_cons_succ, List.set_cons_zero, List.set_cons_succ, addF, subF, isi_int, isi_bool, isi_tuple, isi_str, isi_list, lenF, ltF, leF, gtF, geF, cmpF, negF, absF, intF, tupF, lstF, notF, seqOf, tupw, idxB]
end L2.K72

namespace L2.DL
/-! ### signs, choices -/
def signsL : Nat → List (List Int)
  | 0 => []
  | 1 => [[1]]
  | n + 1 => (signsL n).flatMap fun r => [r ++ [-1], r ++ [1]]
def chL : Nat → List (List Nat)
  | 1 => [[0]]
  | 2 => [[0], [1], [0, 1]]
  | 3 => [[0], [1], [2], [0, 1], [0, 2], [1, 2], [0, 1, 2]]
  | 4 => [[0], [1], [2], [3], [0, 1], [0, 2], [0, 3], [1, 2], [1, 3], [2, 3], [0, 1, 2], [0, 1, 3], [0, 2, 3], [1, 2, 3], [0, 1, 2, 3]]
  | _ => []
def soL : Nat → List (List Nat)
  | 1 => [[0]]
  | 2 => [[0], [0, 1], [1]]
  | 3 => [[0], [0, 1], [0, 1, 2], [0, 2], [1], [1, 2], [2]]
  | 4 => [[0], [0, 1], [0, 1, 2], [0, 1, 2, 3], [0, 1, 3], [0, 2], [0, 2, 3], [0, 3], [1], [1, 2], [1, 2, 3], [1, 3], [2], [2, 3], [3]]
  | _ => []
end L2.DL

namespace L2.DL
/-! ### N1: no halving for some rows, then a part with a determinant beyond -1, 0, 1: the finite search -/
def dotL (l : List Nat) (ss c : List Int) : Int := ((l.zip ss).map fun p => p.2 * c[p.1]?.getD 0).sum
def far (a : Int) : Bool := decide (1 < a) || decide (a < -1)
def at0 (c : List Int) (i : Nat) : Int := c[i]?.getD 0
def det2 (a b : List Int) (i j : Nat) : Int := at0 a i * at0 b j - at0 b i * at0 a j
def det3 (a b c : List Int) (i j k : Nat) : Int := at0 a i * det2 b c j k - at0 b i * det2 a c j k + at0 c i * det2 a b j k
def det4 (a b c d : List Int) (i j k l : Nat) : Int := at0 a i * det3 b c d j k l - at0 b i * det3 a c d j k l + at0 c i * det3 a b d j k l - at0 d i * det3 a b c j k l
structure Cl where
  id : Nat
  c : List Int
  kb : List (List Bool)
  adj : Nat
def two : Nat → List (Nat × Nat)
  | 4 => [(0, 1), (0, 2), (0, 3), (1, 2), (1, 3), (2, 3)]
  | 3 => [(0, 1), (0, 2), (1, 2)]
  | 2 => [(0, 1)]
  | _ => []
def three : Nat → List (Nat × Nat × Nat)
  | 4 => [(0, 1, 2), (0, 1, 3), (0, 2, 3), (1, 2, 3)]
  | 3 => [(0, 1, 2)]
  | _ => []
def four : Nat → List (Nat × Nat × Nat × Nat)
  | 4 => [(0, 1, 2, 3)]
  | _ => []
def bad2 (n : Nat) (a b : List Int) : Bool := (two n).any fun r => far (det2 a b r.1 r.2)
def bad3 (n : Nat) (a b c : List Int) : Bool := (three n).any fun r => far (det3 a b c r.1 r.2.1 r.2.2)
def bad4 (n : Nat) (a b c d : List Int) : Bool := (four n).any fun r => far (det4 a b c d r.1 r.2.1 r.2.2.1 r.2.2.2)
def bitB (adj id : Nat) : Bool := Nat.testBit adj id
def badS (n : Nat) : List (List Int) → Bool
  | [a, b, c] => bad3 n a b c
  | [a, b, c, d] => bad3 n a b c || (bad3 n a b d || (bad3 n a c d || (bad3 n b c d || bad4 n a b c d)))
  | _ => false
def fullB (mk : List (List Bool)) : Bool := mk.any fun b => b.all id
def orB (x y : List (List Bool)) : List (List Bool) := List.zipWith (List.zipWith or) x y
def loopB (f : List Cl → List (List Int) → List (List Bool) → Bool) : List Cl → List (List Int) → List (List Bool) → Bool
  | [], _, _ => true
  | p :: rest, S, mk => f (rest.filter fun q => bitB p.adj q.id) (p.c :: S) (orB p.kb mk) && loopB f rest S mk
def goB (n : Nat) : Nat → List Cl → List (List Int) → List (List Bool) → Bool
  | 0, _, S, mk => !fullB mk || badS n S
  | r + 1, av, S, mk => if fullB mk then badS n S else loopB (goB n r) av S mk
def kbOf (n : Nat) (S : List (List Int)) : List (List Bool) := (chL n).map fun l => (signsL l.length).map fun ss => S.any fun c => far (dotL l ss c)
def tb1 : List Cl := [
  ⟨0, [1], [[false]], 1⟩]
def tb2 : List Cl := [
  ⟨0, [0, 1], [[false], [false], [false, false]], 15⟩,
  ⟨1, [1, -1], [[false], [false], [true, false]], 7⟩,
  ⟨2, [1, 0], [[false], [false], [false, false]], 15⟩,
  ⟨3, [1, 1], [[false], [false], [false, true]], 13⟩]
def tb3 : List Cl := [
  ⟨0, [0, 0, 1], [[false], [false], [false], [false, false], [false, false], [false, false], [false, false, false, false]], 8191⟩,
  ⟨1, [0, 1, -1], [[false], [false], [false], [false, false], [false, false], [true, false], [false, true, true, false]], 4071⟩,
  ⟨2, [0, 1, 0], [[false], [false], [false], [false, false], [false, false], [false, false], [false, false, false, false]], 8191⟩,
  ⟨3, [0, 1, 1], [[false], [false], [false], [false, false], [false, false], [false, true], [true, false, false, true]], 7101⟩,
  ⟨4, [1, -1, -1], [[false], [false], [false], [true, false], [true, false], [false, true], [true, false, false, false]], 445⟩,
  ⟨5, [1, -1, 0], [[false], [false], [false], [true, false], [false, false], [false, false], [true, true, false, false]], 1023⟩,
  ⟨6, [1, -1, 1], [[false], [false], [false], [true, false], [false, true], [true, false], [false, true, false, false]], 871⟩,
  ⟨7, [1, 0, -1], [[false], [false], [false], [false, false], [true, false], [false, false], [true, false, true, false]], 3519⟩,
  ⟨8, [1, 0, 0], [[false], [false], [false], [false, false], [false, false], [false, false], [false, false, false, false]], 8191⟩,
  ⟨9, [1, 0, 1], [[false], [false], [false], [false, false], [false, true], [false, false], [false, true, false, true]], 7023⟩,
  ⟨10, [1, 1, -1], [[false], [false], [false], [false, true], [true, false], [true, false], [false, false, true, false]], 3463⟩,
  ⟨11, [1, 1, 0], [[false], [false], [false], [false, true], [false, false], [false, false], [false, false, true, true]], 8079⟩,
  ⟨12, [1, 1, 1], [[false], [false], [false], [false, true], [false, true], [false, true], [false, false, false, true]], 6925⟩]
def tb4 : List Cl := [
  ⟨0, [0, 0, 0, 1], [[false], [false], [false], [false], [false, false], [false, false], [false, false], [false, false], [false, false], [false, false], [false, false, false, false], [false, false, false, false], [false, false, false, false], [false, false, false, false], [false, false, false, false, false, false, false, false]], 1099511627775⟩,
  ⟨1, [0, 0, 1, -1], [[false], [false], [false], [false], [false, false], [false, false], [false, false], [false, false], [false, false], [true, false], [false, false, false, false], [false, false, false, false], [false, true, true, false], [false, true, true, false], [false, true, true, false, false, true, true, false]], 546528284647⟩,
  ⟨2, [0, 0, 1, 0], [[false], [false], [false], [false], [false, false], [false, false], [false, false], [false, false], [false, false], [false, false], [false, false, false, false], [false, false, false, false], [false, false, false, false], [false, false, false, false], [false, false, false, false, false, false, false, false]], 1099511627775⟩,
  ⟨3, [0, 0, 1, 1], [[false], [false], [false], [false], [false, false], [false, false], [false, false], [false, false], [false, false], [false, true], [false, false, false, false], [false, false, false, false], [true, false, false, true], [true, false, false, true], [true, false, false, true, true, false, false, true]], 953196968893⟩,
  ⟨4, [0, 1, -1, -1], [[false], [false], [false], [false], [false, false], [false, false], [false, false], [true, false], [true, false], [false, true], [false, true, true, false], [false, true, true, false], [true, false, false, true], [true, false, false, false], [false, false, false, true, true, false, false, false]], 59843674557⟩,
  ⟨5, [0, 1, -1, 0], [[false], [false], [false], [false], [false, false], [false, false], [false, false], [true, false], [false, false], [false, false], [false, true, true, false], [false, false, false, false], [false, false, false, false], [true, true, false, false], [false, false, true, true, true, true, false, false]], 137438888959⟩,
  ⟨6, [0, 1, -1, 1], [[false], [false], [false], [false], [false, false], [false, false], [false, false], [true, false], [false, true], [true, false], [false, true, true, false], [true, false, false, true], [false, true, true, false], [false, true, false, false], [false, false, true, false, false, true, false, false]], 117031240551⟩,
  ⟨7, [0, 1, 0, -1], [[false], [false], [false], [false], [false, false], [false, false], [false, false], [false, false], [true, false], [false, false], [false, false, false, false], [false, true, true, false], [false, false, false, false], [true, false, true, false], [false, true, false, true, true, false, true, false]], 472445799871⟩,
  ⟨8, [0, 1, 0, 0], [[false], [false], [false], [false], [false, false], [false, false], [false, false], [false, false], [false, false], [false, false], [false, false, false, false], [false, false, false, false], [false, false, false, false], [false, false, false, false], [false, false, false, false, false, false, false, false]], 1099511627775⟩,
  ⟨9, [0, 1, 0, 1], [[false], [false], [false], [false], [false, false], [false, false], [false, false], [false, false], [false, true], [false, false], [false, false, false, false], [true, false, false, true], [false, false, false, false], [false, true, false, true], [true, false, true, false, false, true, false, true]], 942742928239⟩,
  ⟨10, [0, 1, 1, -1], [[false], [false], [false], [false], [false, false], [false, false], [false, false], [false, true], [true, false], [true, false], [true, false, false, true], [false, true, true, false], [false, true, true, false], [false, false, true, false], [false, true, false, false, false, false, true, false]], 464922267015⟩,
  ⟨11, [0, 1, 1, 0], [[false], [false], [false], [false], [false, false], [false, false], [false, false], [false, true], [false, false], [false, false], [true, false, false, true], [false, false, false, false], [false, false, false, false], [false, false, true, true], [true, true, false, false, false, false, true, true]], 1084475572111⟩,
  ⟨12, [0, 1, 1, 1], [[false], [false], [false], [false], [false, false], [false, false], [false, false], [false, true], [false, true], [false, true], [true, false, false, true], [true, false, false, true], [true, false, false, true], [false, false, false, true], [true, false, false, false, false, false, false, true]], 929571240717⟩,
  ⟨13, [1, -1, -1, -1], [[false], [false], [false], [false], [true, false], [true, false], [true, false], [false, true], [false, true], [false, true], [true, false, false, false], [true, false, false, false], [true, false, false, false], [false, false, false, true], [true, true, true, false, true, false, false, true]], 113474317⟩,
  ⟨14, [1, -1, -1, 0], [[false], [false], [false], [false], [true, false], [true, false], [false, false], [false, true], [false, false], [false, false], [true, false, false, false], [true, true, false, false], [true, true, false, false], [false, false, true, true], [true, true, false, false, false, false, false, false]], 264765327⟩,
  ⟨15, [1, -1, -1, 1], [[false], [false], [false], [false], [true, false], [true, false], [false, true], [false, true], [true, false], [true, false], [true, false, false, false], [false, true, false, false], [false, true, false, false], [false, false, true, false], [true, true, false, true, false, true, true, false]], 226938247⟩,
  ⟨16, [1, -1, 0, -1], [[false], [false], [false], [false], [true, false], [false, false], [true, false], [false, false], [false, true], [false, false], [true, true, false, false], [true, false, false, false], [true, false, true, false], [false, true, false, true], [true, false, true, false, false, false, false, false]], 920353647⟩,
  ⟨17, [1, -1, 0, 0], [[false], [false], [false], [false], [true, false], [false, false], [false, false], [false, false], [false, false], [false, false], [true, true, false, false], [true, true, false, false], [false, false, false, false], [false, false, false, false], [true, true, true, true, false, false, false, false]], 2147483647⟩,
  ⟨18, [1, -1, 0, 1], [[false], [false], [false], [false], [true, false], [false, false], [false, true], [false, false], [true, false], [false, false], [true, true, false, false], [false, true, false, false], [false, true, false, true], [true, false, true, false], [false, true, false, true, false, false, false, false]], 1840696767⟩,
  ⟨19, [1, -1, 1, -1], [[false], [false], [false], [false], [true, false], [false, true], [true, false], [true, false], [false, true], [true, false], [false, true, false, false], [true, false, false, false], [false, false, true, false], [false, true, false, false], [true, false, true, true, false, true, true, false]], 907740007⟩,
  ⟨20, [1, -1, 1, 0], [[false], [false], [false], [false], [true, false], [false, true], [false, false], [true, false], [false, false], [false, false], [false, true, false, false], [true, true, false, false], [false, false, true, true], [true, true, false, false], [false, false, true, true, false, false, false, false]], 2118059007⟩,
  ⟨21, [1, -1, 1, 1], [[false], [false], [false], [false], [true, false], [false, true], [false, true], [true, false], [true, false], [false, true], [false, true, false, false], [false, true, false, false], [false, false, false, true], [true, false, false, false], [false, true, true, true, true, false, false, true]], 1815478717⟩,
  ⟨22, [1, 0, -1, -1], [[false], [false], [false], [false], [false, false], [true, false], [true, false], [false, false], [false, false], [false, true], [true, false, true, false], [true, false, true, false], [true, false, false, false], [true, false, false, true], [true, false, false, false, true, false, false, false]], 58095532989⟩,
  ⟨23, [1, 0, -1, 0], [[false], [false], [false], [false], [false, false], [true, false], [false, false], [false, false], [false, false], [false, false], [true, false, true, false], [false, false, false, false], [true, true, false, false], [false, false, false, false], [true, true, false, false, true, true, false, false]], 135556235263⟩,
  ⟨24, [1, 0, -1, 1], [[false], [false], [false], [false], [false, false], [true, false], [false, true], [false, false], [false, false], [true, false], [true, false, true, false], [false, true, false, true], [false, true, false, false], [false, true, true, false], [false, true, false, false, false, true, false, false]], 116191055847⟩,
  ⟨25, [1, 0, 0, -1], [[false], [false], [false], [false], [false, false], [false, false], [true, false], [false, false], [false, false], [false, false], [false, false, false, false], [true, false, true, false], [true, false, true, false], [false, false, false, false], [true, false, true, false, true, false, true, false]], 471219273727⟩,
  ⟨26, [1, 0, 0, 0], [[false], [false], [false], [false], [false, false], [false, false], [false, false], [false, false], [false, false], [false, false], [false, false, false, false], [false, false, false, false], [false, false, false, false], [false, false, false, false], [false, false, false, false, false, false, false, false]], 1099511627775⟩,
  ⟨27, [1, 0, 0, 1], [[false], [false], [false], [false], [false, false], [false, false], [false, true], [false, false], [false, false], [false, false], [false, false, false, false], [false, true, false, true], [false, true, false, true], [false, false, false, false], [false, true, false, true, false, true, false, true]], 942438539263⟩,
  ⟨28, [1, 0, 1, -1], [[false], [false], [false], [false], [false, false], [false, true], [true, false], [false, false], [false, false], [true, false], [false, true, false, true], [true, false, true, false], [false, false, true, false], [false, true, true, false], [false, false, true, false, false, false, true, false]], 464764211175⟩,
  ⟨29, [1, 0, 1, 0], [[false], [false], [false], [false], [false, false], [false, true], [false, false], [false, false], [false, false], [false, false], [false, true, false, true], [false, false, false, false], [false, false, true, true], [false, false, false, false], [false, false, true, true, false, false, true, true]], 1084449824767⟩,
  ⟨30, [1, 0, 1, 1], [[false], [false], [false], [false], [false, false], [false, true], [false, true], [false, false], [false, false], [false, true], [false, true, false, true], [false, true, false, true], [false, false, false, true], [true, false, false, true], [false, false, false, true, false, false, false, true]], 929528421309⟩,
  ⟨31, [1, 1, -1, -1], [[false], [false], [false], [false], [false, true], [true, false], [true, false], [true, false], [true, false], [false, true], [false, false, true, false], [false, false, true, false], [true, false, false, false], [true, false, false, false], [true, false, false, true, true, true, true, false]], 58095305149⟩,
  ⟨32, [1, 1, -1, 0], [[false], [false], [false], [false], [false, true], [true, false], [false, false], [true, false], [false, false], [false, false], [false, false, true, false], [false, false, true, true], [true, true, false, false], [true, true, false, false], [false, false, false, false, true, true, false, false]], 135555711999⟩,
  ⟨33, [1, 1, -1, 1], [[false], [false], [false], [false], [false, true], [true, false], [false, true], [true, false], [false, true], [true, false], [false, false, true, false], [false, false, false, true], [false, true, false, false], [false, true, false, false], [false, true, true, false, true, true, false, true]], 116190610279⟩,
  ⟨34, [1, 1, 0, -1], [[false], [false], [false], [false], [false, true], [false, false], [true, false], [false, false], [true, false], [false, false], [false, false, true, true], [false, false, true, false], [true, false, true, false], [true, false, true, false], [false, false, false, false, true, false, true, false]], 471217475007⟩,
  ⟨35, [1, 1, 0, 0], [[false], [false], [false], [false], [false, true], [false, false], [false, false], [false, false], [false, false], [false, false], [false, false, true, true], [false, false, true, true], [false, false, false, false], [false, false, false, false], [false, false, false, false, true, true, true, true]], 1099507441663⟩,
  ⟨36, [1, 1, 0, 1], [[false], [false], [false], [false], [false, true], [false, false], [false, true], [false, false], [false, true], [false, false], [false, false, true, true], [false, false, false, true], [false, true, false, true], [false, true, false, true], [false, false, false, false, false, true, false, true]], 942434949999⟩,
  ⟨37, [1, 1, 1, -1], [[false], [false], [false], [false], [false, true], [false, true], [true, false], [false, true], [true, false], [true, false], [false, false, false, true], [false, false, true, false], [false, false, true, false], [false, false, true, false], [false, true, true, false, true, false, true, true]], 464762441095⟩,
  ⟨38, [1, 1, 1, 0], [[false], [false], [false], [false], [false, true], [false, true], [false, false], [false, true], [false, false], [false, false], [false, false, false, true], [false, false, true, true], [false, false, true, true], [false, false, true, true], [false, false, false, false, false, false, true, true]], 1084445695887⟩,
  ⟨39, [1, 1, 1, 1], [[false], [false], [false], [false], [false, true], [false, true], [false, true], [false, true], [false, true], [false, true], [false, false, false, true], [false, false, false, true], [false, false, false, true], [false, false, false, true], [true, false, false, true, false, true, true, true]], 929524882189⟩]
def tbl : Nat → List Cl
  | 1 => tb1
  | 2 => tb2
  | 3 => tb3
  | 4 => tb4
  | _ => []
def okTbl (n : Nat) : Bool := (tbl n).all fun p => p.kb == kbOf n [p.c] && (tbl n).all fun q => bitB p.adj q.id || bad2 n p.c q.c
theorem okT1 : okTbl 1 = true := by decide +kernel
theorem okT2 : okTbl 2 = true := by decide +kernel
theorem okT3 : okTbl 3 = true := by decide +kernel
theorem okT4 : okTbl 4 = true := by decide +kernel
theorem go1 : goB 1 4 (tbl 1) [] (kbOf 1 []) = true := by decide +kernel
theorem go2 : goB 2 4 (tbl 2) [] (kbOf 2 []) = true := by decide +kernel
theorem go3 : goB 3 4 (tbl 3) [] (kbOf 3 []) = true := by decide +kernel

theorem go4 : goB 4 4 (tbl 4) [] (kbOf 4 []) = true := by decide +kernel
end L2.DL

namespace L2.DL
/-! ### what the search shows -/
def BadP (n : Nat) (S : List (List Int)) : Prop := (∃ a ∈ S, ∃ b ∈ S, bad2 n a b = true) ∨ (∃ a ∈ S, ∃ b ∈ S, ∃ c ∈ S, bad3 n a b c = true) ∨ ∃ a ∈ S, ∃ b ∈ S, ∃ c ∈ S, ∃ d ∈ S, bad4 n a b c d = true
theorem BadP.mono {n : Nat} {S T : List (List Int)} (h : BadP n S) (k : ∀ c ∈ S, c ∈ T) : BadP n T := by
  rcases h with ⟨a, ha, b, hb, h⟩ | ⟨a, ha, b, hb, c, hc, h⟩ | ⟨a, ha, b, hb, c, hc, d, hd, h⟩
  · exact .inl ⟨a, k a ha, b, k b hb, h⟩
  · exact .inr (.inl ⟨a, k a ha, b, k b hb, c, k c hc, h⟩)
  · exact .inr (.inr ⟨a, k a ha, b, k b hb, c, k c hc, d, k d hd, h⟩)
theorem badS_sound {n : Nat} : ∀ {S : List (List Int)}, badS n S = true → BadP n S
  | [], h => by cases h
  | [_], h => by cases h
  | [_, _], h => by cases h
  | [a, b, c], h => .inr (.inl ⟨a, by simp, b, by simp, c, by simp, h⟩)
  | [a, b, c, d], h => by
    unfold badS at h
    simp only [Bool.or_eq_true] at h
    rcases h with h | h | h | h | h
    · exact .inr (.inl ⟨a, by simp, b, by simp, c, by simp, h⟩)
    · exact .inr (.inl ⟨a, by simp, b, by simp, d, by simp, h⟩)
    · exact .inr (.inl ⟨a, by simp, c, by simp, d, by simp, h⟩)
    · exact .inr (.inl ⟨b, by simp, c, by simp, d, by simp, h⟩)
    · exact .inr (.inr ⟨a, by simp, b, by simp, c, by simp, d, by simp, h⟩)
  | _ :: _ :: _ :: _ :: _ :: _, h => by cases h
theorem zipWith_maps {α β γ δ : Type} (f : β → γ → δ) (g : α → β) (h : α → γ) : ∀ l : List α, List.zipWith f (l.map g) (l.map h) = l.map fun x => f (g x) (h x)
  | [] => rfl
  | x :: l => by simp [zipWith_maps f g h l]
theorem kb_cons (n : Nat) (c : List Int) (S : List (List Int)) : orB (kbOf n [c]) (kbOf n S) = kbOf n (c :: S) := by
  unfold orB kbOf
  rw [zipWith_maps]
  refine List.map_congr_left fun l _ => ?_
  rw [zipWith_maps]
  refine List.map_congr_left fun ss _ => ?_
  simp [List.any_cons]
theorem kb_congr {n : Nat} {S T : List (List Int)} (h : ∀ l ss, (S.any fun c => far (dotL l ss c)) = T.any fun c => far (dotL l ss c)) : kbOf n S = kbOf n T := by
  unfold kbOf
  exact List.map_congr_left fun l _ => List.map_congr_left fun ss _ => h l ss
theorem any_mem {α : Type} {S T : List α} (p : α → Bool) (h : ∀ c, c ∈ S ↔ c ∈ T) : S.any p = T.any p := by
  rw [Bool.eq_iff_iff, List.any_eq_true, List.any_eq_true]
  exact ⟨fun ⟨c, h1, h2⟩ => ⟨c, (h c).mp h1, h2⟩, fun ⟨c, h1, h2⟩ => ⟨c, (h c).mpr h1, h2⟩⟩
theorem loop_sound {f : List Cl → List (List Int) → List (List Bool) → Bool} {S : List (List Int)} {mk : List (List Bool)} : ∀ {av : List Cl}, loopB f av S mk = true → ∀ {T : List Cl}, T.Sublist av → T ≠ [] →
    ∃ t T' rest, T = t :: T' ∧ T'.Sublist rest ∧ (t :: rest).Sublist av ∧ f (rest.filter fun q => bitB t.adj q.id) (t.c :: S) (orB t.kb mk) = true
  | [], _, T, hs, hn => absurd (List.sublist_nil.mp hs) hn
  | p :: rest, h, T, hs, hn => by
    unfold loopB at h
    rw [Bool.and_eq_true] at h
    cases hs with
    | cons _ hs =>
      obtain ⟨t, T', rest', e, h1, h2, h3⟩ := loop_sound h.2 hs hn
      exact ⟨t, T', rest', e, h1, h2.trans (List.sublist_cons_self _ _), h3⟩
    | cons_cons _ hs => exact ⟨p, _, rest, rfl, hs, List.Sublist.refl _, h.1⟩
theorem go_sound (n : Nat) : ∀ (r : Nat) (av : List Cl) (S : List (List Int)) (mk : List (List Bool)), goB n r av S mk = true → mk = kbOf n S → (∀ p ∈ av, p.kb = kbOf n [p.c]) → (∀ p ∈ av, ∀ q ∈ av, bitB p.adj q.id = false → bad2 n p.c q.c = true) →
    ∀ T : List Cl, T.Sublist av → T.length ≤ r → fullB (kbOf n (T.map (·.c) ++ S)) = true → BadP n (T.map (·.c) ++ S)
  | 0, av, S, mk, h, hm, hk, hb, T, hs, hl, hf => by
    have : T = [] := List.length_eq_zero_iff.mp (by omega)
    subst this
    unfold goB at h
    rw [hm, show fullB (kbOf n S) = true from hf] at h
    exact badS_sound (by simpa using h)
  | r + 1, av, S, mk, h, hm, hk, hb, T, hs, hl, hf => by
    unfold goB at h
    split at h
    · exact (badS_sound h).mono fun c hc => List.mem_append_right _ hc
    · rename_i nf
      cases T with
      | nil => exact absurd (show fullB mk = true by rw [hm]; exact hf) nf
      | cons t0 T0 =>
        obtain ⟨t, T', rest, e, h1, h2, h3⟩ := loop_sound h hs (by simp)
        rw [e] at hl hf ⊢
        have ht : t ∈ av := h2.subset (List.mem_cons_self ..)
        have hr : ∀ q ∈ rest, q ∈ av := fun q hq => h2.subset (List.mem_cons_of_mem _ hq)
        by_cases hall : ∀ q ∈ T', bitB t.adj q.id = true
        · have hs' : T'.Sublist (rest.filter fun q => bitB t.adj q.id) := by
            have := h1.filter fun q => bitB t.adj q.id
            rwa [List.filter_eq_self.mpr hall] at this
          have sub : ∀ p ∈ rest.filter fun q => bitB t.adj q.id, p ∈ av := fun p hp => hr p (List.mem_filter.mp hp).1
          have same : ∀ c, c ∈ (t :: T').map (·.c) ++ S ↔ c ∈ T'.map (·.c) ++ t.c :: S := fun c => by
            simp only [List.map_cons, List.mem_append, List.mem_cons, List.cons_append]
            constructor
            · rintro (h | h | h)
              · exact .inr (.inl h)
              · exact .inl h
              · exact .inr (.inr h)
            · rintro (h | h | h)
              · exact .inr (.inl h)
              · exact .inl h
              · exact .inr (.inr h)
          refine (go_sound n r _ (t.c :: S) _ h3 (by rw [hk t ht, hm, kb_cons]) (fun p hp => hk p (sub p hp)) (fun p hp q hq => hb p (sub p hp) q (sub q hq)) T' hs' (by simp at hl; omega) ?_).mono fun c hc => (same c).mpr hc
          rw [← kb_congr fun l ss => any_mem (fun c => far (dotL l ss c)) same]
          exact hf
        · have : ∃ q ∈ T', bitB t.adj q.id = false := by
            refine Classical.byContradiction fun z => hall fun q hq => ?_
            cases e : bitB t.adj q.id with
            | true => rfl
            | false => exact absurd ⟨q, hq, e⟩ z
          obtain ⟨q, hq, e2⟩ := this
          exact .inl ⟨t.c, by simp, q.c, by simp; exact .inr (.inl ⟨q, hq, rfl⟩), hb t ht q (hr q (h1.subset hq)) e2⟩
theorem tbl_ok : ∀ n, 1 ≤ n → n ≤ 4 → okTbl n = true ∧ goB n 4 (tbl n) [] (kbOf n []) = true
  | 1, _, _ => ⟨okT1, go1⟩
  | 2, _, _ => ⟨okT2, go2⟩
  | 3, _, _ => ⟨okT3, go3⟩
  | 4, _, _ => ⟨okT4, go4⟩
  | 0, h, _ => absurd h (by omega)
  | n + 5, _, h => absurd h (by omega)
/-- for classes -/
theorem search (n : Nat) (h1 : 1 ≤ n) (h4 : n ≤ 4) (T : List Cl) (hs : T.Sublist (tbl n)) (hl : T.length ≤ 4) (hf : fullB (kbOf n (T.map (·.c))) = true) : BadP n (T.map (·.c)) := by
  obtain ⟨o, g⟩ := tbl_ok n h1 h4
  unfold okTbl at o
  rw [List.all_eq_true] at o
  have := go_sound n 4 (tbl n) [] _ g rfl (fun p hp => by have := o p hp; rw [Bool.and_eq_true, beq_iff_eq] at this; exact this.1) (fun p hp q hq e => by
    have := o p hp
    rw [Bool.and_eq_true, List.all_eq_true] at this
    have := this.2 q hq
    rw [e, Bool.false_or] at this
    exact this) T hs hl (by rw [List.append_nil]; exact hf)
  rwa [List.append_nil] at this
/-! ### columns up to sign -/
def ngL (c : List Int) : List Int := c.map fun x => -x
theorem ng_ng (c : List Int) : ngL (ngL c) = c := by
  unfold ngL
  rw [List.map_map]
  exact (List.map_congr_left fun x _ => by simp).trans (List.map_id c)
theorem far_neg (a : Int) : far (-a) = far a := by
  unfold far
  rw [Bool.eq_iff_iff]
  simp only [Bool.or_eq_true, decide_eq_true_eq]
  omega
theorem at_ng (c : List Int) (i : Nat) : at0 (ngL c) i = -at0 c i := by
  unfold at0 ngL
  rw [List.getElem?_map]
  cases c[i]? <;> simp
theorem dot_ng (l : List Nat) (ss c : List Int) : dotL l ss (ngL c) = -dotL l ss c := by
  unfold dotL
  generalize l.zip ss = ps
  induction ps with
  | nil => rfl
  | cons p ps ih =>
    simp only [List.map_cons, List.sum_cons]
    rw [ih, show (ngL c)[p.1]?.getD 0 = -(c[p.1]?.getD 0) from at_ng c p.1, Int.mul_neg]
    omega
end L2.DL

namespace L2.DL
/-! ### columns of -1, 0, 1 and their classes -/
def allV : Nat → List (List Int)
  | 0 => [[]]
  | n + 1 => (allV n).flatMap fun v => [-1 :: v, 0 :: v, 1 :: v]
theorem mem_allV : ∀ {n : Nat} {c : List Int}, c.length = n → (∀ x ∈ c, -1 ≤ x ∧ x ≤ 1) → c ∈ allV n
  | 0, [], _, _ => by simp [allV]
  | 0, _ :: _, h, _ => by simp at h
  | n + 1, [], h, _ => by simp at h
  | n + 1, x :: c, h, hb => by
    have ih := mem_allV (n := n) (c := c) (by simpa using h) fun y hy => hb y (List.mem_cons_of_mem _ hy)
    have hx := hb x (List.mem_cons_self ..)
    unfold allV
    rw [List.mem_flatMap]
    refine ⟨c, ih, ?_⟩
    have : x = -1 ∨ x = 0 ∨ x = 1 := by omega
    rcases this with rfl | rfl | rfl <;> simp
def mat (c : List Int) (p : Cl) : Bool := p.c == c || p.c == ngL c
def one (n : Nat) : Bool := (allV n).all fun c => decide ((tbl n).countP (mat c) ≤ 1) && (c.all (fun x => x == 0) || (tbl n).any (mat c))
theorem one1 : one 1 = true := by decide +kernel
theorem one2 : one 2 = true := by decide +kernel
theorem one3 : one 3 = true := by decide +kernel
theorem one4 : one 4 = true := by decide +kernel
theorem one_ok : ∀ n, 1 ≤ n → n ≤ 4 → one n = true
  | 1, _, _ => one1
  | 2, _, _ => one2
  | 3, _, _ => one3
  | 4, _, _ => one4
  | 0, h, _ => absurd h (by omega)
  | n + 5, _, h => absurd h (by omega)
theorem one_at {n : Nat} (h1 : 1 ≤ n) (h4 : n ≤ 4) {c : List Int} (hc : c ∈ allV n) : (tbl n).countP (mat c) ≤ 1 ∧ ((∀ x ∈ c, x = 0) ∨ ∃ p ∈ tbl n, mat c p = true) := by
  have := one_ok n h1 h4
  unfold one at this
  have := List.all_eq_true.mp this c hc
  rw [Bool.and_eq_true, decide_eq_true_eq, Bool.or_eq_true, List.all_eq_true, List.any_eq_true] at this
  exact ⟨this.1, this.2.imp (fun h x hx => by simpa using h x hx) id⟩
theorem countP_or {α : Type} (p q : α → Bool) : ∀ l : List α, l.countP (fun x => p x || q x) ≤ l.countP p + l.countP q
  | [] => by simp
  | x :: l => by
    have := countP_or p q l
    simp only [List.countP_cons]
    cases p x <;> cases q x <;> simp <;> omega
theorem count_any {n : Nat} (h1 : 1 ≤ n) (h4 : n ≤ 4) : ∀ S : List (List Int), (∀ c ∈ S, c ∈ allV n) → (tbl n).countP (fun p => S.any fun c => mat c p) ≤ S.length
  | [], _ => by simp
  | c :: S, h => by
    have ih := count_any h1 h4 S fun d hd => h d (List.mem_cons_of_mem _ hd)
    have h0 := (one_at h1 h4 (h c (List.mem_cons_self ..))).1
    have := countP_or (mat c) (fun p => S.any fun c => mat c p) (tbl n)
    simp only [List.any_cons, List.length_cons]
    omega
theorem dot_zero (l : List Nat) (ss : List Int) {c : List Int} (h : ∀ x ∈ c, x = 0) : dotL l ss c = 0 := by
  unfold dotL
  generalize l.zip ss = ps
  induction ps with
  | nil => rfl
  | cons p ps ih =>
    simp only [List.map_cons, List.sum_cons]
    rw [ih]
    have : c[p.1]?.getD 0 = 0 := by
      cases e : c[p.1]? with
      | none => rfl
      | some x => exact h x (List.mem_of_getElem? e)
    rw [this]
    simp
def Pm (a a' : List Int) : Prop := a' = a ∨ a' = ngL a
theorem far_dot_pm {a a' : List Int} (h : Pm a a') (l : List Nat) (ss : List Int) : far (dotL l ss a') = far (dotL l ss a) := by
  rcases h with rfl | rfl
  · rfl
  · rw [dot_ng, far_neg]
theorem mat_pm {c : List Int} {p : Cl} (h : mat c p = true) : Pm p.c c := by
  unfold mat at h
  rw [Bool.or_eq_true, beq_iff_eq, beq_iff_eq] at h
  rcases h with h | h
  · exact .inl h.symm
  · refine .inr ?_
    rw [h, ng_ng]
/-! ### determinants up to sign -/
theorem pm_at {a a' : List Int} (h : Pm a a') : (∀ i, at0 a' i = at0 a i) ∨ ∀ i, at0 a' i = -at0 a i := by
  rcases h with rfl | rfl
  · exact .inl fun _ => rfl
  · exact .inr fun i => at_ng a i
theorem far_pm {x y : Int} (h : x = y ∨ x = -y) : far x = far y := by
  rcases h with rfl | rfl
  · rfl
  · exact far_neg y
theorem det2_ng1 (a b : List Int) (i j : Nat) : det2 (ngL a) b i j = -det2 a b i j := by
  unfold det2; simp only [at_ng]; grind
theorem det2_ng2 (a b : List Int) (i j : Nat) : det2 a (ngL b) i j = -det2 a b i j := by
  unfold det2; simp only [at_ng]; grind
theorem det3_ng1 (a b c : List Int) (i j k : Nat) : det3 (ngL a) b c i j k = -det3 a b c i j k := by
  unfold det3 det2; simp only [at_ng]; grind
theorem det3_ng2 (a b c : List Int) (i j k : Nat) : det3 a (ngL b) c i j k = -det3 a b c i j k := by
  unfold det3 det2; simp only [at_ng]; grind
theorem det3_ng3 (a b c : List Int) (i j k : Nat) : det3 a b (ngL c) i j k = -det3 a b c i j k := by
  unfold det3 det2; simp only [at_ng]; grind
theorem det4_ng1 (a b c d : List Int) (i j k l : Nat) : det4 (ngL a) b c d i j k l = -det4 a b c d i j k l := by
  unfold det4 det3 det2; simp only [at_ng]; grind
theorem det4_ng2 (a b c d : List Int) (i j k l : Nat) : det4 a (ngL b) c d i j k l = -det4 a b c d i j k l := by
  unfold det4 det3 det2; simp only [at_ng]; grind
theorem det4_ng3 (a b c d : List Int) (i j k l : Nat) : det4 a b (ngL c) d i j k l = -det4 a b c d i j k l := by
  unfold det4 det3 det2; simp only [at_ng]; grind
theorem det4_ng4 (a b c d : List Int) (i j k l : Nat) : det4 a b c (ngL d) i j k l = -det4 a b c d i j k l := by
  unfold det4 det3 det2; simp only [at_ng]; grind
theorem bad2_pm {n : Nat} {a a' b b' : List Int} (ha : Pm a a') (hb : Pm b b') : bad2 n a' b' = bad2 n a b := by
  have e1 : bad2 n a' b' = bad2 n a b' := by
    rcases ha with rfl | rfl
    · rfl
    · unfold bad2
      congr 1
      funext r
      rw [det2_ng1, far_neg]
  have e2 : bad2 n a b' = bad2 n a b := by
    rcases hb with rfl | rfl
    · rfl
    · unfold bad2
      congr 1
      funext r
      rw [det2_ng2, far_neg]
  rw [e1, e2]
theorem bad3_pm {n : Nat} {a a' b b' c c' : List Int} (ha : Pm a a') (hb : Pm b b') (hc : Pm c c') : bad3 n a' b' c' = bad3 n a b c := by
  have e1 : bad3 n a' b' c' = bad3 n a b' c' := by
    rcases ha with rfl | rfl
    · rfl
    · unfold bad3
      congr 1
      funext r
      rw [det3_ng1, far_neg]
  have e2 : bad3 n a b' c' = bad3 n a b c' := by
    rcases hb with rfl | rfl
    · rfl
    · unfold bad3
      congr 1
      funext r
      rw [det3_ng2, far_neg]
  have e3 : bad3 n a b c' = bad3 n a b c := by
    rcases hc with rfl | rfl
    · rfl
    · unfold bad3
      congr 1
      funext r
      rw [det3_ng3, far_neg]
  rw [e1, e2, e3]
theorem bad4_pm {n : Nat} {a a' b b' c c' d d' : List Int} (ha : Pm a a') (hb : Pm b b') (hc : Pm c c') (hd : Pm d d') : bad4 n a' b' c' d' = bad4 n a b c d := by
  have e1 : bad4 n a' b' c' d' = bad4 n a b' c' d' := by
    rcases ha with rfl | rfl
    · rfl
    · unfold bad4
      congr 1
      funext r
      rw [det4_ng1, far_neg]
  have e2 : bad4 n a b' c' d' = bad4 n a b c' d' := by
    rcases hb with rfl | rfl
    · rfl
    · unfold bad4
      congr 1
      funext r
      rw [det4_ng2, far_neg]
  have e3 : bad4 n a b c' d' = bad4 n a b c d' := by
    rcases hc with rfl | rfl
    · rfl
    · unfold bad4
      congr 1
      funext r
      rw [det4_ng3, far_neg]
  have e4 : bad4 n a b c d' = bad4 n a b c d := by
    rcases hd with rfl | rfl
    · rfl
    · unfold bad4
      congr 1
      funext r
      rw [det4_ng4, far_neg]
  rw [e1, e2, e3, e4]
/-- columns with numbers -1, 0, 1: some rows without halving, then a determinant beyond -/
theorem search_cols {n : Nat} (h1 : 1 ≤ n) (h4 : n ≤ 4) {S : List (List Int)} (hl : S.length ≤ 4) (hS : ∀ c ∈ S, c.length = n ∧ ∀ x ∈ c, -1 ≤ x ∧ x ≤ 1) {l : List Nat} (hc : l ∈ chL n) (hf : ∀ ss ∈ signsL l.length, ∃ c ∈ S, far (dotL l ss c) = true) : BadP n S := by
  have hA : ∀ c ∈ S, c ∈ allV n := fun c h => mem_allV (hS c h).1 (hS c h).2
  let f := fun p : Cl => S.any fun c => mat c p
  have hT : ((tbl n).filter f).length ≤ 4 := by
    rw [← List.countP_eq_length_filter]
    exact Nat.le_trans (count_any h1 h4 S hA) hl
  have key : ∀ l ss, (S.any fun c => far (dotL l ss c)) = (((tbl n).filter f).map (·.c)).any fun c => far (dotL l ss c) := by
    intro l ss
    rw [Bool.eq_iff_iff, List.any_eq_true, List.any_eq_true]
    constructor
    · rintro ⟨c, hc, hf⟩
      rcases (one_at h1 h4 (hA c hc)).2 with z | ⟨p, hp, hm⟩
      · rw [dot_zero l ss z] at hf
        cases hf
      · refine ⟨p.c, List.mem_map.mpr ⟨p, List.mem_filter.mpr ⟨hp, List.any_eq_true.mpr ⟨c, hc, hm⟩⟩, rfl⟩, ?_⟩
        rw [← far_dot_pm (mat_pm hm)]
        exact hf
    · rintro ⟨c, hc, hf⟩
      obtain ⟨p, hp, rfl⟩ := List.mem_map.mp hc
      obtain ⟨_, hp2⟩ := List.mem_filter.mp hp
      obtain ⟨c, hc, hm⟩ := List.any_eq_true.mp hp2
      refine ⟨c, hc, ?_⟩
      rw [far_dot_pm (mat_pm hm)]
      exact hf
  have hfull : fullB (kbOf n (((tbl n).filter f).map (·.c))) = true := by
    rw [← kb_congr key]
    unfold fullB kbOf
    rw [List.any_eq_true]
    refine ⟨_, List.mem_map.mpr ⟨l, hc, rfl⟩, ?_⟩
    rw [List.all_eq_true]
    intro b hb
    obtain ⟨ss, hss, rfl⟩ := List.mem_map.mp hb
    exact List.any_eq_true.mpr (hf ss hss)
  have pick : ∀ a ∈ ((tbl n).filter f).map (·.c), ∃ c ∈ S, Pm a c := by
    intro a ha
    obtain ⟨p, hp, rfl⟩ := List.mem_map.mp ha
    obtain ⟨_, hp2⟩ := List.mem_filter.mp hp
    obtain ⟨c, hc, hm⟩ := List.any_eq_true.mp hp2
    exact ⟨c, hc, mat_pm hm⟩
  rcases search n h1 h4 ((tbl n).filter f) List.filter_sublist hT hfull with ⟨a, ha, b, hb, h⟩ | ⟨a, ha, b, hb, c, hc, h⟩ | ⟨a, ha, b, hb, c, hc, d, hd, h⟩
  · obtain ⟨a', ha', pa⟩ := pick a ha
    obtain ⟨b', hb', pb⟩ := pick b hb
    exact .inl ⟨a', ha', b', hb', (bad2_pm pa pb).trans h⟩
  · obtain ⟨a', ha', pa⟩ := pick a ha
    obtain ⟨b', hb', pb⟩ := pick b hb
    obtain ⟨c', hc', pc⟩ := pick c hc
    exact .inr (.inl ⟨a', ha', b', hb', c', hc', (bad3_pm pa pb pc).trans h⟩)
  · obtain ⟨a', ha', pa⟩ := pick a ha
    obtain ⟨b', hb', pb⟩ := pick b hb
    obtain ⟨c', hc', pc⟩ := pick c hc
    obtain ⟨d', hd', pd⟩ := pick d hd
    exact .inr (.inr ⟨a', ha', b', hb', c', hc', d', hd', (bad4_pm pa pb pc pd).trans h⟩)
end L2.DL

namespace L2.DL
/-! ### parts in their sequence -/
theorem s2 {P : Nat → Nat → Prop} (s : ∀ a b, P a b → P b a) (z : ∀ a, ¬P a a) {a b : Nat} (h : P a b) : ∃ x y, x < y ∧ P x y := by
  rcases Nat.lt_trichotomy a b with k | rfl | k
  · exact ⟨a, b, k, h⟩
  · exact absurd h (z a)
  · exact ⟨b, a, k, s a b h⟩
theorem s3 {P : Nat → Nat → Nat → Prop} (s12 : ∀ a b c, P a b c → P b a c) (s23 : ∀ a b c, P a b c → P a c b) (z12 : ∀ a c, ¬P a a c) (z23 : ∀ a b, ¬P a b b) {a b c : Nat} (h : P a b c) : ∃ x y z, x < y ∧ y < z ∧ P x y z := by
  obtain ⟨y, z, k, h⟩ := s2 (P := P a) (fun b c => s23 a b c) (z23 a) h
  rcases Nat.lt_trichotomy a y with k1 | rfl | k1
  · exact ⟨a, y, z, k1, k, h⟩
  · exact absurd h (z12 a z)
  · have h2 := s12 _ _ _ h
    rcases Nat.lt_trichotomy a z with k2 | rfl | k2
    · exact ⟨y, a, z, k1, k2, h2⟩
    · exact absurd h2 (z23 y a)
    · exact ⟨y, z, a, k, k2, s23 _ _ _ h2⟩
theorem s4 {P : Nat → Nat → Nat → Nat → Prop} (s12 : ∀ a b c d, P a b c d → P b a c d) (s23 : ∀ a b c d, P a b c d → P a c b d) (s34 : ∀ a b c d, P a b c d → P a b d c) (z12 : ∀ a c d, ¬P a a c d) (z23 : ∀ a b d, ¬P a b b d) (z34 : ∀ a b c, ¬P a b c c) {a b c d : Nat} (h : P a b c d) : ∃ x y z w, x < y ∧ y < z ∧ z < w ∧ P x y z w := by
  obtain ⟨x, y, z, kx, ky, h⟩ := s3 (P := P a) (fun b c d => s23 a b c d) (fun b c d => s34 a b c d) (fun b d => z23 a b d) (fun b c => z34 a b c) h
  rcases Nat.lt_trichotomy a x with k1 | rfl | k1
  · exact ⟨a, x, y, z, k1, kx, ky, h⟩
  · exact absurd h (z12 a _ _)
  · have h2 := s12 _ _ _ _ h
    rcases Nat.lt_trichotomy a y with k2 | rfl | k2
    · exact ⟨x, a, y, z, k1, k2, ky, h2⟩
    · exact absurd h2 (z23 x a z)
    · have h3 := s23 _ _ _ _ h2
      rcases Nat.lt_trichotomy a z with k3 | rfl | k3
      · exact ⟨x, y, a, z, kx, k2, k3, h3⟩
      · exact absurd h3 (z34 x y a)
      · exact ⟨x, y, z, a, kx, ky, k3, s34 _ _ _ _ h3⟩
theorem det2_s (a b : List Int) (i j : Nat) : det2 b a i j = -det2 a b i j := by unfold det2; grind
theorem det2_z (a : List Int) (i j : Nat) : det2 a a i j = 0 := by unfold det2; grind
theorem det3_s12 (a b c : List Int) (i j k : Nat) : det3 b a c i j k = -det3 a b c i j k := by unfold det3 det2; grind
theorem det3_s23 (a b c : List Int) (i j k : Nat) : det3 a c b i j k = -det3 a b c i j k := by unfold det3 det2; grind
theorem det3_z12 (a c : List Int) (i j k : Nat) : det3 a a c i j k = 0 := by unfold det3 det2; grind
theorem det3_z23 (a b : List Int) (i j k : Nat) : det3 a b b i j k = 0 := by unfold det3 det2; grind
theorem det4_s12 (a b c d : List Int) (i j k l : Nat) : det4 b a c d i j k l = -det4 a b c d i j k l := by unfold det4 det3 det2; grind
theorem det4_s23 (a b c d : List Int) (i j k l : Nat) : det4 a c b d i j k l = -det4 a b c d i j k l := by unfold det4 det3 det2; grind
theorem det4_s34 (a b c d : List Int) (i j k l : Nat) : det4 a b d c i j k l = -det4 a b c d i j k l := by unfold det4 det3 det2; grind
theorem det4_z12 (a c d : List Int) (i j k l : Nat) : det4 a a c d i j k l = 0 := by unfold det4 det3 det2; grind
theorem det4_z23 (a b d : List Int) (i j k l : Nat) : det4 a b b d i j k l = 0 := by unfold det4 det3 det2; grind
theorem det4_z34 (a b c : List Int) (i j k l : Nat) : det4 a b c c i j k l = 0 := by unfold det4 det3 det2; grind
theorem far0 : far 0 = false := rfl
def colI (rs : List (List Int)) (j : Nat) : List Int := rs.map fun r => r[j]?.getD 0
def lotsL (m k : Nat) : List (List Nat) := (chL m).filter fun l => l.length == k
def partsL (m w : Nat) : List (List Nat × List Nat) := (List.range (min m w)).flatMap fun k => (lotsL m (k + 1)).flatMap fun R => (lotsL w (k + 1)).map fun C => (R, C)
def detP (rs : List (List Int)) : List Nat → List Nat → Int
  | [i], [a] => at0 (colI rs a) i
  | [i, j], [a, b] => det2 (colI rs a) (colI rs b) i j
  | [i, j, k], [a, b, c] => det3 (colI rs a) (colI rs b) (colI rs c) i j k
  | [i, j, k, l], [a, b, c, d] => det4 (colI rs a) (colI rs b) (colI rs c) (colI rs d) i j k l
  | _, _ => 0
def mw : List (Nat × Nat) := [(1, 1), (1, 2), (1, 3), (1, 4), (2, 1), (2, 2), (2, 3), (2, 4), (3, 1), (3, 2), (3, 3), (3, 4), (4, 1), (4, 2), (4, 3), (4, 4)]
theorem in_mw {m w : Nat} (h1 : 1 ≤ m) (h2 : m ≤ 4) (h3 : 1 ≤ w) (h4 : w ≤ 4) : (m, w) ∈ mw := by
  have a : m = 1 ∨ m = 2 ∨ m = 3 ∨ m = 4 := by omega
  have b : w = 1 ∨ w = 2 ∨ w = 3 ∨ w = 4 := by omega
  rcases a with rfl | rfl | rfl | rfl <;> rcases b with rfl | rfl | rfl | rfl <;> decide
theorem p1 : ∀ p ∈ mw, ∀ i ∈ List.range p.1, ∀ a ∈ List.range p.2, (([i], [a]) : List Nat × List Nat) ∈ partsL p.1 p.2 := by decide +kernel
theorem p2 : ∀ p ∈ mw, ∀ r ∈ two p.1, ∀ a ∈ List.range p.2, ∀ b ∈ List.range p.2, a < b → (([r.1, r.2], [a, b]) : List Nat × List Nat) ∈ partsL p.1 p.2 := by decide +kernel
theorem p3 : ∀ p ∈ mw, ∀ r ∈ three p.1, ∀ a ∈ List.range p.2, ∀ b ∈ List.range p.2, a < b → ∀ c ∈ List.range p.2, b < c → (([r.1, r.2.1, r.2.2], [a, b, c]) : List Nat × List Nat) ∈ partsL p.1 p.2 := by decide +kernel
theorem p4 : ∀ p ∈ mw, ∀ r ∈ four p.1, ∀ a ∈ List.range p.2, ∀ b ∈ List.range p.2, a < b → ∀ c ∈ List.range p.2, b < c → ∀ d ∈ List.range p.2, c < d → (([r.1, r.2.1, r.2.2.1, r.2.2.2], [a, b, c, d]) : List Nat × List Nat) ∈ partsL p.1 p.2 := by decide +kernel
def Far (rs : List (List Int)) (m w : Nat) : Prop := ∃ p ∈ partsL m w, far (detP rs p.1 p.2) = true
theorem not_far {x : Int} (h : far x = true) : x ≠ 0 := by
  rintro rfl
  cases h
theorem bad_part {rs : List (List Int)} {m w : Nat} (h1 : 1 ≤ m) (h2 : m ≤ 4) (h3 : 1 ≤ w) (h4 : w ≤ 4) (h : BadP m ((List.range w).map (colI rs))) : Far rs m w := by
  have hin := in_mw h1 h2 h3 h4
  have hr : ∀ {a}, a < w → a ∈ List.range w := fun h => List.mem_range.mpr h
  rcases h with ⟨a, ha, b, hb, h⟩ | ⟨a, ha, b, hb, c, hc, h⟩ | ⟨a, ha, b, hb, c, hc, d, hd, h⟩
  · obtain ⟨x, hx, rfl⟩ := List.mem_map.mp ha
    obtain ⟨y, hy, rfl⟩ := List.mem_map.mp hb
    unfold bad2 at h
    obtain ⟨r, hr2, h⟩ := List.any_eq_true.mp h
    obtain ⟨x, y, k, hx, hy, h⟩ := s2 (P := fun x y => x < w ∧ y < w ∧ far (det2 (colI rs x) (colI rs y) r.1 r.2) = true) (fun a b ⟨u, v, h⟩ => ⟨v, u, by rw [det2_s, far_neg]; exact h⟩) (fun a ⟨_, _, h⟩ => not_far h (det2_z ..)) ⟨List.mem_range.mp hx, List.mem_range.mp hy, h⟩
    exact ⟨_, p2 (m, w) hin r hr2 x (hr hx) y (hr hy) k, h⟩
  · obtain ⟨x, hx, rfl⟩ := List.mem_map.mp ha
    obtain ⟨y, hy, rfl⟩ := List.mem_map.mp hb
    obtain ⟨z, hz, rfl⟩ := List.mem_map.mp hc
    unfold bad3 at h
    obtain ⟨r, hr2, h⟩ := List.any_eq_true.mp h
    obtain ⟨x, y, z, k, k2, hx, hy, hz, h⟩ := s3 (P := fun x y z => x < w ∧ y < w ∧ z < w ∧ far (det3 (colI rs x) (colI rs y) (colI rs z) r.1 r.2.1 r.2.2) = true) (fun a b c ⟨u, v, t, h⟩ => ⟨v, u, t, by rw [det3_s12, far_neg]; exact h⟩) (fun a b c ⟨u, v, t, h⟩ => ⟨u, t, v, by rw [det3_s23, far_neg]; exact h⟩) (fun a c ⟨_, _, _, h⟩ => not_far h (det3_z12 ..)) (fun a c ⟨_, _, _, h⟩ => not_far h (det3_z23 ..)) ⟨List.mem_range.mp hx, List.mem_range.mp hy, List.mem_range.mp hz, h⟩
    exact ⟨_, p3 (m, w) hin r hr2 x (hr hx) y (hr hy) k z (hr hz) k2, h⟩
  · obtain ⟨x, hx, rfl⟩ := List.mem_map.mp ha
    obtain ⟨y, hy, rfl⟩ := List.mem_map.mp hb
    obtain ⟨z, hz, rfl⟩ := List.mem_map.mp hc
    obtain ⟨t, ht, rfl⟩ := List.mem_map.mp hd
    unfold bad4 at h
    obtain ⟨r, hr2, h⟩ := List.any_eq_true.mp h
    obtain ⟨x, y, z, t, k, k2, k3, hx, hy, hz, ht, h⟩ := s4 (P := fun x y z t => x < w ∧ y < w ∧ z < w ∧ t < w ∧ far (det4 (colI rs x) (colI rs y) (colI rs z) (colI rs t) r.1 r.2.1 r.2.2.1 r.2.2.2) = true) (fun a b c d ⟨u, v, t, s, h⟩ => ⟨v, u, t, s, by rw [det4_s12, far_neg]; exact h⟩) (fun a b c d ⟨u, v, t, s, h⟩ => ⟨u, t, v, s, by rw [det4_s23, far_neg]; exact h⟩) (fun a b c d ⟨u, v, t, s, h⟩ => ⟨u, v, s, t, by rw [det4_s34, far_neg]; exact h⟩) (fun a c d ⟨_, _, _, _, h⟩ => not_far h (det4_z12 ..)) (fun a c d ⟨_, _, _, _, h⟩ => not_far h (det4_z23 ..)) (fun a c d ⟨_, _, _, _, h⟩ => not_far h (det4_z34 ..)) ⟨List.mem_range.mp hx, List.mem_range.mp hy, List.mem_range.mp hz, List.mem_range.mp ht, h⟩
    exact ⟨_, p4 (m, w) hin r hr2 x (hr hx) y (hr hy) k z (hr hz) k2 t (hr ht) k3, h⟩
/-- rows without halving, then a part with a determinant beyond -1, 0, 1 -/
theorem far_of_none {rs : List (List Int)} {m w : Nat} (hm : rs.length = m) (h1 : 1 ≤ m) (h2 : m ≤ 4) (h3 : 1 ≤ w) (h4 : w ≤ 4) {l : List Nat} (hl : l ∈ chL m) (hf : ∀ ss ∈ signsL l.length, ∃ j, j < w ∧ far (dotL l ss (colI rs j)) = true) : Far rs m w := by
  have hin := in_mw h1 h2 h3 h4
  by_cases hs : ∀ j, j < w → ∀ i, i < m → far (at0 (colI rs j) i) = false
  · refine bad_part h1 h2 h3 h4 (search_cols h1 h2 (S := (List.range w).map (colI rs)) (by simpa using h4) ?_ hl fun ss hss => ?_)
    · intro c hc
      obtain ⟨j, hj, rfl⟩ := List.mem_map.mp hc
      have hlen : (colI rs j).length = m := by unfold colI; simpa using hm
      refine ⟨hlen, fun x hx => ?_⟩
      obtain ⟨i, hi⟩ := List.mem_iff_getElem?.mp hx
      have hlt := (List.getElem?_eq_some_iff.mp hi).1
      have := hs j (List.mem_range.mp hj) i (by omega)
      unfold at0 far at this
      rw [hi] at this
      simp at this
      omega
    · obtain ⟨j, hj, h⟩ := hf ss hss
      exact ⟨_, List.mem_map.mpr ⟨j, List.mem_range.mpr hj, rfl⟩, h⟩
  · have : ∃ j, j < w ∧ ∃ i, i < m ∧ far (at0 (colI rs j) i) = true := by
      refine Classical.byContradiction fun z => hs fun j hj i hi => ?_
      cases e : far (at0 (colI rs j) i) with
      | false => rfl
      | true => exact absurd ⟨j, hj, i, hi, e⟩ z
    obtain ⟨j, hj, i, hi, h⟩ := this
    exact ⟨_, p1 (m, w) hin i (List.mem_range.mpr hi) j (List.mem_range.mpr hj), h⟩
end L2.DL

namespace L2.DL
/-! ### a least part with a determinant beyond -1, 0, 1 has rows without halving -/
theorem far_no {x : Int} : far x = false ↔ -1 ≤ x ∧ x ≤ 1 := by
  unfold far
  rw [Bool.or_eq_false_iff, decide_eq_false_iff_not, decide_eq_false_iff_not]
  omega
theorem par {c s : Int} (hc : -1 ≤ c ∧ c ≤ 1) (hs : -1 ≤ s ∧ s ≤ 1) (h : s = 0 ↔ c = 0) : ∃ u, s = c + 2 * u := by
  have : (s - c) % 2 = 0 := by omega
  exact ⟨(s - c) / 2, by omega⟩
theorem even0 {t u : Int} (h : t = 2 * u) (hb : -1 ≤ t ∧ t ≤ 1) : t = 0 := by omega
theorem mul_le {t c : Int} (ht : -1 ≤ t ∧ t ≤ 1) (hc : -1 ≤ c ∧ c ≤ 1) : -1 ≤ t * c ∧ t * c ≤ 1 := by
  have : t = -1 ∨ t = 0 ∨ t = 1 := by omega
  rcases this with rfl | rfl | rfl <;> omega
theorem pm_le {d s t c : Int} (h : d * s = t * c) (ht : -1 ≤ t ∧ t ≤ 1) (hc : -1 ≤ c ∧ c ≤ 1) (hs : -1 ≤ s ∧ s ≤ 1) (h0 : s ≠ 0) : -1 ≤ d ∧ d ≤ 1 := by
  have := mul_le ht hc
  rw [← h] at this
  have : s = -1 ∨ s = 1 := by omega
  rcases this with rfl | rfl <;> omega
theorem G2 {a1 a2 b1 b2 s1 s2 : Int} (k1 : -1 ≤ b2 ∧ b2 ≤ 1) (k2 : -1 ≤ -b1 ∧ -b1 ≤ 1) (m1 : -1 ≤ s1 ∧ s1 ≤ 1) (m2 : -1 ≤ s2 ∧ s2 ≤ 1) (z1 : s1 = 0 ↔ b2 = 0) (z2 : s2 = 0 ↔ -b1 = 0)
    (ta : -1 ≤ s1 * a1 + s2 * a2 ∧ s1 * a1 + s2 * a2 ≤ 1) (tb : -1 ≤ s1 * b1 + s2 * b2 ∧ s1 * b1 + s2 * b2 ≤ 1) : -1 ≤ a1 * b2 - b1 * a2 ∧ a1 * b2 - b1 * a2 ≤ 1 := by
  obtain ⟨u1, e1⟩ := par k1 m1 z1
  obtain ⟨u2, e2⟩ := par k2 m2 z2
  have hb : s1 * b1 + s2 * b2 = 0 := even0 (u := u1 * b1 + u2 * b2) (by rw [e1, e2]; grind) tb
  by_cases n1 : s1 = 0
  · by_cases n2 : s2 = 0
    · have y1 := z1.mp n1
      have y2 := z2.mp n2
      have : a1 * b2 - b1 * a2 = 0 := by
        rw [show a1 * b2 - b1 * a2 = a1 * b2 + a2 * (-b1) by grind, y1, y2]
        simp
      omega
    · exact pm_le (show _ = (s1 * a1 + s2 * a2) * (-b1) by grind) ta k2 m2 n2
  · exact pm_le (show _ = (s1 * a1 + s2 * a2) * b2 by grind) ta k1 m1 n1
def d3 (a1 a2 a3 b1 b2 b3 c1 c2 c3 : Int) : Int := a1 * (b2 * c3 - c2 * b3) - b1 * (a2 * c3 - c2 * a3) + c1 * (a2 * b3 - b2 * a3)
theorem G3 {a1 a2 a3 b1 b2 b3 c1 c2 c3 s1 s2 s3 : Int} (k1 : -1 ≤ b2 * c3 - c2 * b3 ∧ b2 * c3 - c2 * b3 ≤ 1) (k2 : -1 ≤ -(b1 * c3 - c1 * b3) ∧ -(b1 * c3 - c1 * b3) ≤ 1) (k3 : -1 ≤ b1 * c2 - c1 * b2 ∧ b1 * c2 - c1 * b2 ≤ 1)
    (m1 : -1 ≤ s1 ∧ s1 ≤ 1) (m2 : -1 ≤ s2 ∧ s2 ≤ 1) (m3 : -1 ≤ s3 ∧ s3 ≤ 1) (z1 : s1 = 0 ↔ b2 * c3 - c2 * b3 = 0) (z2 : s2 = 0 ↔ -(b1 * c3 - c1 * b3) = 0) (z3 : s3 = 0 ↔ b1 * c2 - c1 * b2 = 0)
    (ta : -1 ≤ s1 * a1 + s2 * a2 + s3 * a3 ∧ s1 * a1 + s2 * a2 + s3 * a3 ≤ 1) (tb : -1 ≤ s1 * b1 + s2 * b2 + s3 * b3 ∧ s1 * b1 + s2 * b2 + s3 * b3 ≤ 1) (tc : -1 ≤ s1 * c1 + s2 * c2 + s3 * c3 ∧ s1 * c1 + s2 * c2 + s3 * c3 ≤ 1) :
    -1 ≤ d3 a1 a2 a3 b1 b2 b3 c1 c2 c3 ∧ d3 a1 a2 a3 b1 b2 b3 c1 c2 c3 ≤ 1 := by
  obtain ⟨u1, e1⟩ := par k1 m1 z1
  obtain ⟨u2, e2⟩ := par k2 m2 z2
  obtain ⟨u3, e3⟩ := par k3 m3 z3
  have hb : s1 * b1 + s2 * b2 + s3 * b3 = 0 := even0 (u := u1 * b1 + u2 * b2 + u3 * b3) (by rw [e1, e2, e3]; grind) tb
  have hc : s1 * c1 + s2 * c2 + s3 * c3 = 0 := even0 (u := u1 * c1 + u2 * c2 + u3 * c3) (by rw [e1, e2, e3]; grind) tc
  have i1 : d3 a1 a2 a3 b1 b2 b3 c1 c2 c3 * s1 = (s1 * a1 + s2 * a2 + s3 * a3) * (b2 * c3 - c2 * b3) - (s1 * b1 + s2 * b2 + s3 * b3) * (a2 * c3 - c2 * a3) + (s1 * c1 + s2 * c2 + s3 * c3) * (a2 * b3 - b2 * a3) := by unfold d3; grind
  have i2 : d3 a1 a2 a3 b1 b2 b3 c1 c2 c3 * s2 = (s1 * a1 + s2 * a2 + s3 * a3) * (-(b1 * c3 - c1 * b3)) + (s1 * b1 + s2 * b2 + s3 * b3) * (a1 * c3 - c1 * a3) - (s1 * c1 + s2 * c2 + s3 * c3) * (a1 * b3 - b1 * a3) := by unfold d3; grind
  have i3 : d3 a1 a2 a3 b1 b2 b3 c1 c2 c3 * s3 = (s1 * a1 + s2 * a2 + s3 * a3) * (b1 * c2 - c1 * b2) - (s1 * b1 + s2 * b2 + s3 * b3) * (a1 * c2 - c1 * a2) + (s1 * c1 + s2 * c2 + s3 * c3) * (a1 * b2 - b1 * a2) := by unfold d3; grind
  rw [hb, hc, Int.zero_mul, Int.zero_mul] at i1 i2 i3
  by_cases n1 : s1 = 0
  · by_cases n2 : s2 = 0
    · by_cases n3 : s3 = 0
      · have : d3 a1 a2 a3 b1 b2 b3 c1 c2 c3 = a1 * (b2 * c3 - c2 * b3) + a2 * (-(b1 * c3 - c1 * b3)) + a3 * (b1 * c2 - c1 * b2) := by unfold d3; grind
        rw [z1.mp n1, z2.mp n2, z3.mp n3] at this
        simp at this
        omega
      · exact pm_le (i3.trans (by simp)) ta k3 m3 n3
    · exact pm_le (i2.trans (by simp)) ta k2 m2 n2
  · exact pm_le (i1.trans (by simp)) ta k1 m1 n1
def d4 (a1 a2 a3 a4 b1 b2 b3 b4 c1 c2 c3 c4 e1 e2 e3 e4 : Int) : Int := a1 * d3 b2 b3 b4 c2 c3 c4 e2 e3 e4 - b1 * d3 a2 a3 a4 c2 c3 c4 e2 e3 e4 + c1 * d3 a2 a3 a4 b2 b3 b4 e2 e3 e4 - e1 * d3 a2 a3 a4 b2 b3 b4 c2 c3 c4
theorem G4 {a1 a2 a3 a4 b1 b2 b3 b4 c1 c2 c3 c4 e1 e2 e3 e4 s1 s2 s3 s4 : Int}
    (k1 : -1 ≤ d3 b2 b3 b4 c2 c3 c4 e2 e3 e4 ∧ d3 b2 b3 b4 c2 c3 c4 e2 e3 e4 ≤ 1) (k2 : -1 ≤ -d3 b1 b3 b4 c1 c3 c4 e1 e3 e4 ∧ -d3 b1 b3 b4 c1 c3 c4 e1 e3 e4 ≤ 1) (k3 : -1 ≤ d3 b1 b2 b4 c1 c2 c4 e1 e2 e4 ∧ d3 b1 b2 b4 c1 c2 c4 e1 e2 e4 ≤ 1) (k4 : -1 ≤ -d3 b1 b2 b3 c1 c2 c3 e1 e2 e3 ∧ -d3 b1 b2 b3 c1 c2 c3 e1 e2 e3 ≤ 1)
    (m1 : -1 ≤ s1 ∧ s1 ≤ 1) (m2 : -1 ≤ s2 ∧ s2 ≤ 1) (m3 : -1 ≤ s3 ∧ s3 ≤ 1) (m4 : -1 ≤ s4 ∧ s4 ≤ 1)
    (z1 : s1 = 0 ↔ d3 b2 b3 b4 c2 c3 c4 e2 e3 e4 = 0) (z2 : s2 = 0 ↔ -d3 b1 b3 b4 c1 c3 c4 e1 e3 e4 = 0) (z3 : s3 = 0 ↔ d3 b1 b2 b4 c1 c2 c4 e1 e2 e4 = 0) (z4 : s4 = 0 ↔ -d3 b1 b2 b3 c1 c2 c3 e1 e2 e3 = 0)
    (ta : -1 ≤ s1 * a1 + s2 * a2 + s3 * a3 + s4 * a4 ∧ s1 * a1 + s2 * a2 + s3 * a3 + s4 * a4 ≤ 1) (tb : -1 ≤ s1 * b1 + s2 * b2 + s3 * b3 + s4 * b4 ∧ s1 * b1 + s2 * b2 + s3 * b3 + s4 * b4 ≤ 1) (tc : -1 ≤ s1 * c1 + s2 * c2 + s3 * c3 + s4 * c4 ∧ s1 * c1 + s2 * c2 + s3 * c3 + s4 * c4 ≤ 1) (te : -1 ≤ s1 * e1 + s2 * e2 + s3 * e3 + s4 * e4 ∧ s1 * e1 + s2 * e2 + s3 * e3 + s4 * e4 ≤ 1) :
    -1 ≤ d4 a1 a2 a3 a4 b1 b2 b3 b4 c1 c2 c3 c4 e1 e2 e3 e4 ∧ d4 a1 a2 a3 a4 b1 b2 b3 b4 c1 c2 c3 c4 e1 e2 e3 e4 ≤ 1 := by
  obtain ⟨u1, f1⟩ := par k1 m1 z1
  obtain ⟨u2, f2⟩ := par k2 m2 z2
  obtain ⟨u3, f3⟩ := par k3 m3 z3
  obtain ⟨u4, f4⟩ := par k4 m4 z4
  have hb : s1 * b1 + s2 * b2 + s3 * b3 + s4 * b4 = 0 := even0 (u := u1 * b1 + u2 * b2 + u3 * b3 + u4 * b4) (by rw [f1, f2, f3, f4]; unfold d3; grind) tb
  have hc : s1 * c1 + s2 * c2 + s3 * c3 + s4 * c4 = 0 := even0 (u := u1 * c1 + u2 * c2 + u3 * c3 + u4 * c4) (by rw [f1, f2, f3, f4]; unfold d3; grind) tc
  have he : s1 * e1 + s2 * e2 + s3 * e3 + s4 * e4 = 0 := even0 (u := u1 * e1 + u2 * e2 + u3 * e3 + u4 * e4) (by rw [f1, f2, f3, f4]; unfold d3; grind) te
  have i1 : d4 a1 a2 a3 a4 b1 b2 b3 b4 c1 c2 c3 c4 e1 e2 e3 e4 * s1 = (s1 * a1 + s2 * a2 + s3 * a3 + s4 * a4) * d3 b2 b3 b4 c2 c3 c4 e2 e3 e4 - (s1 * b1 + s2 * b2 + s3 * b3 + s4 * b4) * d3 a2 a3 a4 c2 c3 c4 e2 e3 e4 + (s1 * c1 + s2 * c2 + s3 * c3 + s4 * c4) * d3 a2 a3 a4 b2 b3 b4 e2 e3 e4 - (s1 * e1 + s2 * e2 + s3 * e3 + s4 * e4) * d3 a2 a3 a4 b2 b3 b4 c2 c3 c4 := by unfold d4 d3; grind
  have i2 : d4 a1 a2 a3 a4 b1 b2 b3 b4 c1 c2 c3 c4 e1 e2 e3 e4 * s2 = (s1 * a1 + s2 * a2 + s3 * a3 + s4 * a4) * (-d3 b1 b3 b4 c1 c3 c4 e1 e3 e4) - (s1 * b1 + s2 * b2 + s3 * b3 + s4 * b4) * (-d3 a1 a3 a4 c1 c3 c4 e1 e3 e4) + (s1 * c1 + s2 * c2 + s3 * c3 + s4 * c4) * (-d3 a1 a3 a4 b1 b3 b4 e1 e3 e4) - (s1 * e1 + s2 * e2 + s3 * e3 + s4 * e4) * (-d3 a1 a3 a4 b1 b3 b4 c1 c3 c4) := by unfold d4 d3; grind
  have i3 : d4 a1 a2 a3 a4 b1 b2 b3 b4 c1 c2 c3 c4 e1 e2 e3 e4 * s3 = (s1 * a1 + s2 * a2 + s3 * a3 + s4 * a4) * d3 b1 b2 b4 c1 c2 c4 e1 e2 e4 - (s1 * b1 + s2 * b2 + s3 * b3 + s4 * b4) * d3 a1 a2 a4 c1 c2 c4 e1 e2 e4 + (s1 * c1 + s2 * c2 + s3 * c3 + s4 * c4) * d3 a1 a2 a4 b1 b2 b4 e1 e2 e4 - (s1 * e1 + s2 * e2 + s3 * e3 + s4 * e4) * d3 a1 a2 a4 b1 b2 b4 c1 c2 c4 := by unfold d4 d3; grind
  have i4 : d4 a1 a2 a3 a4 b1 b2 b3 b4 c1 c2 c3 c4 e1 e2 e3 e4 * s4 = (s1 * a1 + s2 * a2 + s3 * a3 + s4 * a4) * (-d3 b1 b2 b3 c1 c2 c3 e1 e2 e3) - (s1 * b1 + s2 * b2 + s3 * b3 + s4 * b4) * (-d3 a1 a2 a3 c1 c2 c3 e1 e2 e3) + (s1 * c1 + s2 * c2 + s3 * c3 + s4 * c4) * (-d3 a1 a2 a3 b1 b2 b3 e1 e2 e3) - (s1 * e1 + s2 * e2 + s3 * e3 + s4 * e4) * (-d3 a1 a2 a3 b1 b2 b3 c1 c2 c3) := by unfold d4 d3; grind
  rw [hb, hc, he, Int.zero_mul, Int.zero_mul, Int.zero_mul] at i1 i2 i3 i4
  by_cases n1 : s1 = 0
  · by_cases n2 : s2 = 0
    · by_cases n3 : s3 = 0
      · by_cases n4 : s4 = 0
        · have : d4 a1 a2 a3 a4 b1 b2 b3 b4 c1 c2 c3 c4 e1 e2 e3 e4 = a1 * d3 b2 b3 b4 c2 c3 c4 e2 e3 e4 + a2 * (-d3 b1 b3 b4 c1 c3 c4 e1 e3 e4) + a3 * d3 b1 b2 b4 c1 c2 c4 e1 e2 e4 + a4 * (-d3 b1 b2 b3 c1 c2 c3 e1 e2 e3) := by unfold d4 d3; grind
          rw [z1.mp n1, z2.mp n2, z3.mp n3, z4.mp n4] at this
          simp at this
          omega
        · exact pm_le (i4.trans (by simp)) ta k4 m4 n4
      · exact pm_le (i3.trans (by simp)) ta k3 m3 n3
    · exact pm_le (i2.trans (by simp)) ta k2 m2 n2
  · exact pm_le (i1.trans (by simp)) ta k1 m1 n1
/-! ### rows left out -/
def maskL : List Nat → List Int → List Nat
  | r :: R, y :: ys => if y = 0 then maskL R ys else r :: maskL R ys
  | _, _ => []
def maskB : List Nat → List Bool → List Nat
  | r :: R, b :: bs => if b then maskB R bs else r :: maskB R bs
  | _, _ => []
theorem mask_b : ∀ (R : List Nat) (ys : List Int), maskL R ys = maskB R (ys.map fun y => decide (y = 0))
  | [], _ => by simp [maskL, maskB]
  | _ :: _, [] => by simp [maskL, maskB]
  | r :: R, y :: ys => by
    simp only [maskL, maskB, List.map_cons, decide_eq_true_eq]
    rw [mask_b R ys]
def bools : Nat → List (List Bool)
  | 0 => [[]]
  | n + 1 => (bools n).flatMap fun v => [false :: v, true :: v]
theorem mem_bools : ∀ {n : Nat} (v : List Bool), v.length = n → v ∈ bools n
  | 0, [], _ => by simp [bools]
  | 0, _ :: _, h => by simp at h
  | n + 1, [], h => by simp at h
  | n + 1, b :: v, h => by
    unfold bools
    rw [List.mem_flatMap]
    refine ⟨v, mem_bools v (by simpa using h), ?_⟩
    cases b <;> simp
theorem mask_all : ∀ m ∈ [1, 2, 3, 4], ∀ R ∈ chL m, ∀ bs ∈ bools R.length, maskB R bs = [] ∨ (maskB R bs ∈ chL m ∧ (maskB R bs).length ≤ R.length) := by decide +kernel
theorem mask_nil : ∀ {R : List Nat} {ys : List Int}, R.length = ys.length → maskL R ys = [] → ∀ y ∈ ys, y = 0
  | [], [], _, _ => by simp
  | [], _ :: _, h, _ => by simp at h
  | _ :: _, [], h, _ => by simp at h
  | r :: R, y :: ys, h, hm => by
    unfold maskL at hm
    split at hm
    · rename_i e
      intro z hz
      rcases List.mem_cons.mp hz with rfl | hz
      · exact e
      · exact mask_nil (by simpa using h) hm z hz
    · cases hm
theorem mask_ext : ∀ {R : List Nat} {ys : List Int}, R.length = ys.length → ∀ {ss : List Int}, ss.length = (maskL R ys).length → (∀ s ∈ ss, s = 1 ∨ s = -1) →
    ∃ s : List Int, s.length = R.length ∧ (∀ i, i < R.length → (at0 s i = 0 ↔ at0 ys i = 0) ∧ -1 ≤ at0 s i ∧ at0 s i ≤ 1) ∧ ∀ c, dotL R s c = dotL (maskL R ys) ss c
  | [], ys, h, ss, hl, hs => ⟨[], rfl, fun i hi => absurd hi (by simp), fun c => by simp [dotL, maskL]⟩
  | _ :: _, [], h, _, _, _ => by simp at h
  | r :: R, y :: ys, h, ss, hl, hs => by
    by_cases e : y = 0
    · rw [show maskL (r :: R) (y :: ys) = maskL R ys by simp [maskL, e]] at hl ⊢
      obtain ⟨s, h1, h2, h3⟩ := mask_ext (R := R) (ys := ys) (by simpa using h) hl hs
      refine ⟨0 :: s, by simp [h1], fun i hi => ?_, fun c => ?_⟩
      · cases i with
        | zero => simp [at0, e]
        | succ i => exact h2 i (by simpa using hi)
      · rw [← h3 c]
        simp [dotL]
    · rw [show maskL (r :: R) (y :: ys) = r :: maskL R ys by simp [maskL, e]] at hl ⊢
      cases ss with
      | nil => simp at hl
      | cons s0 ss =>
        obtain ⟨s, h1, h2, h3⟩ := mask_ext (R := R) (ys := ys) (by simpa using h) (ss := ss) (by simpa using hl) fun z hz => hs z (List.mem_cons_of_mem _ hz)
        refine ⟨s0 :: s, by simp [h1], fun i hi => ?_, fun c => ?_⟩
        · cases i with
          | zero =>
            have := hs s0 (List.mem_cons_self ..)
            simp [at0, e]
            omega
          | succ i => exact h2 i (by simpa using hi)
        · have := h3 c
          unfold dotL at this ⊢
          simp only [List.zip_cons_cons, List.map_cons, List.sum_cons]
          rw [this]
theorem dot1 (i : Nat) (s : Int) (c : List Int) : dotL [i] [s] c = s * at0 c i := by simp [dotL, at0]
theorem dot2 (i j : Nat) (s t : Int) (c : List Int) : dotL [i, j] [s, t] c = s * at0 c i + t * at0 c j := by simp [dotL, at0]
theorem dot3 (i j k : Nat) (s t u : Int) (c : List Int) : dotL [i, j, k] [s, t, u] c = s * at0 c i + t * at0 c j + u * at0 c k := by simp [dotL, at0]; omega
theorem dot4 (i j k l : Nat) (s t u v : Int) (c : List Int) : dotL [i, j, k, l] [s, t, u, v] c = s * at0 c i + t * at0 c j + u * at0 c k + v * at0 c l := by simp [dotL, at0]; omega
theorem parts_ok : ∀ p ∈ mw, ∀ q ∈ partsL p.1 p.2, q.1 ∈ chL p.1 ∧ q.2 ∈ chL p.2 ∧ q.1.length = q.2.length ∧ 1 ≤ q.1.length ∧ q.1.length ≤ 4 ∧ (∀ a ∈ q.2, a < p.2) ∧ (2 ≤ q.1.length → ∀ i ∈ List.range q.1.length, (q.1.eraseIdx i, q.2.tail) ∈ partsL p.1 p.2) := by decide +kernel
end L2.DL

namespace L2.DL
theorem sg_ok : ∀ n ∈ [1, 2, 3, 4], ∀ ss ∈ signsL n, ss.length = n ∧ ∀ s ∈ ss, s = 1 ∨ s = -1 := by decide
theorem in14 {n : Nat} (h1 : 1 ≤ n) (h4 : n ≤ 4) : n ∈ [1, 2, 3, 4] := by
  have : n = 1 ∨ n = 2 ∨ n = 3 ∨ n = 4 := by omega
  rcases this with rfl | rfl | rfl | rfl <;> decide
theorem ch_len : ∀ m ∈ [1, 2, 3, 4], ∀ R ∈ chL m, 1 ≤ R.length ∧ R.length ≤ 4 ∧ ∀ i ∈ R, i < m := by decide
/-- rows where each choice of signs leaves a column beyond -1, 0, 1 -/
def NoHv (rs : List (List Int)) (w : Nat) (l : List Nat) : Prop := ∀ ss ∈ signsL l.length, ∃ j, j < w ∧ far (dotL l ss (colI rs j)) = true
theorem of_mask {rs : List (List Int)} {m w : Nat} (hm : m ∈ [1, 2, 3, 4]) {R : List Nat} (hR : R ∈ chL m) {ys : List Int} (hy : R.length = ys.length) (hn : ∃ y ∈ ys, y ≠ 0) {C : List Nat} (hC : ∀ a ∈ C, a < w)
    (h : ∀ s : List Int, s.length = R.length → (∀ i, i < R.length → (at0 s i = 0 ↔ at0 ys i = 0) ∧ -1 ≤ at0 s i ∧ at0 s i ≤ 1) → (∀ a ∈ C, -1 ≤ dotL R s (colI rs a) ∧ dotL R s (colI rs a) ≤ 1) → False) :
    ∃ l ∈ chL m, l.length ≤ R.length ∧ NoHv rs w l := by
  have hk := mask_all m hm R hR (ys.map fun y => decide (y = 0)) (mem_bools _ (by simpa using hy.symm))
  rw [← mask_b] at hk
  rcases hk with hk | ⟨hk, hle⟩
  · obtain ⟨y, hy1, hy2⟩ := hn
    exact absurd (mask_nil hy hk y hy1) hy2
  · refine ⟨_, hk, hle, fun ss hss => Classical.byContradiction fun z => ?_⟩
    obtain ⟨b1, b4, _⟩ := ch_len m hm _ hk
    obtain ⟨o1, o2⟩ := sg_ok _ (in14 b1 b4) ss hss
    obtain ⟨s, h1, h2, h3⟩ := mask_ext hy o1 o2
    refine h s h1 h2 fun a ha => ?_
    rw [h3]
    refine far_no.mp ?_
    cases e : far (dotL (maskL R ys) ss (colI rs a)) with
    | false => rfl
    | true => exact absurd ⟨a, hC a ha, e⟩ z
theorem l1 {α : Type} : ∀ {l : List α}, l.length = 1 → ∃ a, l = [a]
  | [a], _ => ⟨a, rfl⟩
theorem l2 {α : Type} : ∀ {l : List α}, l.length = 2 → ∃ a b, l = [a, b]
  | [a, b], _ => ⟨a, b, rfl⟩
theorem l3 {α : Type} : ∀ {l : List α}, l.length = 3 → ∃ a b c, l = [a, b, c]
  | [a, b, c], _ => ⟨a, b, c, rfl⟩
theorem l4 {α : Type} : ∀ {l : List α}, l.length = 4 → ∃ a b c d, l = [a, b, c, d]
  | [a, b, c, d], _ => ⟨a, b, c, d, rfl⟩
theorem ng_le {x : Int} (h : -1 ≤ x ∧ x ≤ 1) : -1 ≤ -x ∧ -x ≤ 1 := by omega
theorem far_min {rs : List (List Int)} {m w : Nat} (h1 : 1 ≤ m) (h2 : m ≤ 4) (h3 : 1 ≤ w) (h4 : w ≤ 4) {q : List Nat × List Nat} (hq : q ∈ partsL m w) (hf : far (detP rs q.1 q.2) = true) (hmin : ∀ p ∈ partsL m w, p.1.length < q.1.length → far (detP rs p.1 p.2) = false) :
    ∃ l ∈ chL m, l.length ≤ q.1.length ∧ NoHv rs w l := by
  obtain ⟨o1, o2, o3, o4, o5, o6, o7⟩ := parts_ok (m, w) (in_mw h1 h2 h3 h4) q hq
  obtain ⟨R, C⟩ := q
  simp only at o1 o2 o3 o4 o5 o6 o7 hf hmin
  have hm := in14 h1 h2
  have small : 2 ≤ R.length → ∀ i, i < R.length → -1 ≤ detP rs (R.eraseIdx i) C.tail ∧ detP rs (R.eraseIdx i) C.tail ≤ 1 := fun h i hi => far_no.mp (hmin _ (o7 h i (List.mem_range.mpr hi)) (by rw [List.length_eraseIdx]; simp [hi]; omega))
  have : R.length = 1 ∨ R.length = 2 ∨ R.length = 3 ∨ R.length = 4 := by omega
  rcases this with kk | kk | kk | kk
  · obtain ⟨i, rfl⟩ := l1 kk
    obtain ⟨a, rfl⟩ := l1 (o3.symm.trans kk)
    refine ⟨[i], o1, Nat.le_refl _, fun ss hss => ?_⟩
    have : ss = [1] := by simpa [signsL] using hss
    subst this
    refine ⟨a, o6 a (by simp), ?_⟩
    rw [dot1, Int.one_mul]
    exact hf
  · obtain ⟨i, j, rfl⟩ := l2 kk
    obtain ⟨a, b, rfl⟩ := l2 (o3.symm.trans kk)
    have y1 : -1 ≤ at0 (colI rs b) j ∧ at0 (colI rs b) j ≤ 1 := small (by simp) 0 (by simp)
    have y2 : -1 ≤ at0 (colI rs b) i ∧ at0 (colI rs b) i ≤ 1 := small (by simp) 1 (by simp)
    refine of_mask hm o1 (ys := [at0 (colI rs b) j, -at0 (colI rs b) i]) rfl ?_ o6 fun s hs hz hd => ?_
    · refine Classical.byContradiction fun z => ?_
      have e1 : at0 (colI rs b) j = 0 := Classical.byContradiction fun n => z ⟨_, by simp, n⟩
      have e2 : -at0 (colI rs b) i = 0 := Classical.byContradiction fun n => z ⟨_, by simp, n⟩
      refine not_far hf ?_
      show det2 _ _ _ _ = 0
      unfold det2
      rw [e1, show at0 (colI rs b) i = 0 by omega]
      simp
    · obtain ⟨s1, s2, rfl⟩ := l2 hs
      have t1 := hd a (by simp)
      have t2 := hd b (by simp)
      rw [dot2] at t1 t2
      obtain ⟨z1, m1⟩ := hz 0 (by simp)
      obtain ⟨z2, m2⟩ := hz 1 (by simp)
      have := G2 y1 (ng_le y2) m1 m2 z1 z2 t1 t2
      rw [show far (detP rs [i, j] [a, b]) = false from far_no.mpr this] at hf
      cases hf
  · obtain ⟨i, j, k, rfl⟩ := l3 kk
    obtain ⟨a, b, c, rfl⟩ := l3 (o3.symm.trans kk)
    have y1 : -1 ≤ det2 (colI rs b) (colI rs c) j k ∧ det2 (colI rs b) (colI rs c) j k ≤ 1 := small (by simp) 0 (by simp)
    have y2 : -1 ≤ det2 (colI rs b) (colI rs c) i k ∧ det2 (colI rs b) (colI rs c) i k ≤ 1 := small (by simp) 1 (by simp)
    have y3 : -1 ≤ det2 (colI rs b) (colI rs c) i j ∧ det2 (colI rs b) (colI rs c) i j ≤ 1 := small (by simp) 2 (by simp)
    refine of_mask hm o1 (ys := [det2 (colI rs b) (colI rs c) j k, -det2 (colI rs b) (colI rs c) i k, det2 (colI rs b) (colI rs c) i j]) rfl ?_ o6 fun s hs hz hd => ?_
    · refine Classical.byContradiction fun z => ?_
      have e1 : det2 (colI rs b) (colI rs c) j k = 0 := Classical.byContradiction fun n => z ⟨_, by simp, n⟩
      have e2 : -det2 (colI rs b) (colI rs c) i k = 0 := Classical.byContradiction fun n => z ⟨_, by simp, n⟩
      have e3 : det2 (colI rs b) (colI rs c) i j = 0 := Classical.byContradiction fun n => z ⟨_, by simp, n⟩
      refine not_far hf ?_
      show det3 _ _ _ _ _ _ = 0
      have : det3 (colI rs a) (colI rs b) (colI rs c) i j k = at0 (colI rs a) i * det2 (colI rs b) (colI rs c) j k + at0 (colI rs a) j * (-det2 (colI rs b) (colI rs c) i k) + at0 (colI rs a) k * det2 (colI rs b) (colI rs c) i j := by unfold det3 det2; grind
      rw [this, e1, e2, e3]
      simp
    · obtain ⟨s1, s2, s3, rfl⟩ := l3 hs
      have t1 := hd a (by simp)
      have t2 := hd b (by simp)
      have t3 := hd c (by simp)
      rw [dot3] at t1 t2 t3
      obtain ⟨z1, m1⟩ := hz 0 (by simp)
      obtain ⟨z2, m2⟩ := hz 1 (by simp)
      obtain ⟨z3, m3⟩ := hz 2 (by simp)
      have := G3 y1 (ng_le y2) y3 m1 m2 m3 z1 z2 z3 t1 t2 t3
      rw [show far (detP rs [i, j, k] [a, b, c]) = false from far_no.mpr this] at hf
      cases hf
  · obtain ⟨i, j, k, l, rfl⟩ := l4 kk
    obtain ⟨a, b, c, d, rfl⟩ := l4 (o3.symm.trans kk)
    have y1 : -1 ≤ det3 (colI rs b) (colI rs c) (colI rs d) j k l ∧ det3 (colI rs b) (colI rs c) (colI rs d) j k l ≤ 1 := small (by simp) 0 (by simp)
    have y2 : -1 ≤ det3 (colI rs b) (colI rs c) (colI rs d) i k l ∧ det3 (colI rs b) (colI rs c) (colI rs d) i k l ≤ 1 := small (by simp) 1 (by simp)
    have y3 : -1 ≤ det3 (colI rs b) (colI rs c) (colI rs d) i j l ∧ det3 (colI rs b) (colI rs c) (colI rs d) i j l ≤ 1 := small (by simp) 2 (by simp)
    have y4 : -1 ≤ det3 (colI rs b) (colI rs c) (colI rs d) i j k ∧ det3 (colI rs b) (colI rs c) (colI rs d) i j k ≤ 1 := small (by simp) 3 (by simp)
    refine of_mask hm o1 (ys := [det3 (colI rs b) (colI rs c) (colI rs d) j k l, -det3 (colI rs b) (colI rs c) (colI rs d) i k l, det3 (colI rs b) (colI rs c) (colI rs d) i j l, -det3 (colI rs b) (colI rs c) (colI rs d) i j k]) rfl ?_ o6 fun s hs hz hd => ?_
    · refine Classical.byContradiction fun z => ?_
      have e1 : det3 (colI rs b) (colI rs c) (colI rs d) j k l = 0 := Classical.byContradiction fun n => z ⟨_, by simp, n⟩
      have e2 : -det3 (colI rs b) (colI rs c) (colI rs d) i k l = 0 := Classical.byContradiction fun n => z ⟨_, by simp, n⟩
      have e3 : det3 (colI rs b) (colI rs c) (colI rs d) i j l = 0 := Classical.byContradiction fun n => z ⟨_, by simp, n⟩
      have e4 : -det3 (colI rs b) (colI rs c) (colI rs d) i j k = 0 := Classical.byContradiction fun n => z ⟨_, by simp, n⟩
      refine not_far hf ?_
      show det4 _ _ _ _ _ _ _ _ = 0
      have : det4 (colI rs a) (colI rs b) (colI rs c) (colI rs d) i j k l = at0 (colI rs a) i * det3 (colI rs b) (colI rs c) (colI rs d) j k l + at0 (colI rs a) j * (-det3 (colI rs b) (colI rs c) (colI rs d) i k l) + at0 (colI rs a) k * det3 (colI rs b) (colI rs c) (colI rs d) i j l + at0 (colI rs a) l * (-det3 (colI rs b) (colI rs c) (colI rs d) i j k) := by unfold det4 det3 det2; grind
      rw [this, e1, e2, e3, e4]
      simp
    · obtain ⟨s1, s2, s3, s4, rfl⟩ := l4 hs
      have t1 := hd a (by simp)
      have t2 := hd b (by simp)
      have t3 := hd c (by simp)
      have t4 := hd d (by simp)
      rw [dot4] at t1 t2 t3 t4
      obtain ⟨z1, m1⟩ := hz 0 (by simp)
      obtain ⟨z2, m2⟩ := hz 1 (by simp)
      obtain ⟨z3, m3⟩ := hz 2 (by simp)
      obtain ⟨z4, m4⟩ := hz 3 (by simp)
      have := G4 y1 (ng_le y2) y3 (ng_le y4) m1 m2 m3 m4 z1 z2 z3 z4 t1 t2 t3 t4
      rw [show far (detP rs [i, j, k, l] [a, b, c, d]) = false from far_no.mpr this] at hf
      cases hf
/-! ### the two clauses -/
theorem parts_up : ∀ p ∈ mw, (partsL p.1 p.2).Pairwise fun a b => a.1.length ≤ b.1.length := by decide +kernel
theorem ch_up : ∀ m ∈ [1, 2, 3, 4], (chL m).Pairwise fun a b => a.length ≤ b.length := by decide +kernel
def barL (rs : List (List Int)) (m w : Nat) : Option (List Nat × List Nat) := (partsL m w).find? fun p => far (detP rs p.1 p.2)
theorem clauses {rs : List (List Int)} {m w : Nat} (hm : rs.length = m) (h1 : 1 ≤ m) (h2 : m ≤ 4) (h3 : 1 ≤ w) (h4 : w ≤ 4) {ls : List (List Nat)} (hs : ls.Sublist (chL m)) (hl : ∀ l ∈ chL m, l ∈ ls ↔ NoHv rs w l) :
    (ls = [] ↔ barL rs m w = none) ∧ ∀ q, barL rs m w = some q → ∃ l rest, ls = l :: rest ∧ l.length ≤ q.1.length := by
  have hx : ∀ q, barL rs m w = some q → ∃ l rest, ls = l :: rest ∧ l.length ≤ q.1.length := by
    intro q hq
    unfold barL at hq
    rw [List.find?_eq_some_iff_append] at hq
    obtain ⟨hf, as, bs, hab, hn⟩ := hq
    have up := parts_up (m, w) (in_mw h1 h2 h3 h4)
    rw [hab] at up
    rw [List.pairwise_append] at up
    have hmin : ∀ p ∈ partsL m w, p.1.length < q.1.length → far (detP rs p.1 p.2) = false := by
      intro p hp hlt
      rw [hab, List.mem_append, List.mem_cons] at hp
      rcases hp with hp | rfl | hp
      · simpa using hn p hp
      · omega
      · have := (List.pairwise_cons.mp up.2.1).1 p hp
        omega
    obtain ⟨l, hl1, hl2, hl3⟩ := far_min (rs := rs) h1 h2 h3 h4 (show q ∈ partsL m w by rw [hab]; simp) hf hmin
    have hin := (hl l hl1).mpr hl3
    cases e : ls with
    | nil => rw [e] at hin; cases hin
    | cons x rest =>
      refine ⟨x, rest, rfl, ?_⟩
      have := (ch_up m (in14 h1 h2)).sublist hs
      rw [e, List.pairwise_cons] at this
      rw [e, List.mem_cons] at hin
      rcases hin with rfl | hin
      · exact hl2
      · exact Nat.le_trans (this.1 l hin) hl2
  refine ⟨⟨fun e => ?_, fun e => ?_⟩, hx⟩
  · cases b : barL rs m w with
    | none => rfl
    | some q =>
      obtain ⟨l, rest, e2, _⟩ := hx q b
      rw [e] at e2
      cases e2
  · cases d : ls with
    | nil => rfl
    | cons x rest =>
      have hx1 : x ∈ chL m := hs.subset (by rw [d]; exact List.mem_cons_self ..)
      obtain ⟨p, hp, hf⟩ := far_of_none hm h1 h2 h3 h4 hx1 ((hl x hx1).mp (by rw [d]; exact List.mem_cons_self ..))
      unfold barL at e
      rw [List.find?_eq_none] at e
      exact absurd hf (e p hp)
end L2.DL

namespace L2.K72
open PySem PySem.Spec PyProof.Rows L2.DL
def rowD (r : List Int) : PyData := .tuple (r.map .int)
def tabD (rs : List (List Int)) : PyData := .tuple (rs.map rowD)
structure Tb (rs : List (List Int)) (m w : Nat) : Prop where
  len : rs.length = m
  m1 : 1 ≤ m
  m4 : m ≤ 4
  w1 : 1 ≤ w
  w4 : w ≤ 4
  row : ∀ r ∈ rs, r.length = w ∧ ∀ i ∈ r, -9 ≤ i ∧ i ≤ 9
theorem at_nat (xs : List PyData) (i : Nat) (h : i < xs.length) : atI xs (i : Int) = xs[i]? := atI_nat (List.getElem?_eq_getElem h) |>.trans (List.getElem?_eq_getElem h).symm
theorem v_sign_rows : ∀ n : Nat, 1 ≤ n → n ≤ 4 → F_sign_rows [.int (n : Int)] = some (.ret (.fr ((signsL n).map rowD)))
  | 1, _, _ => by kernel_rfl
  | 2, _, _ => by kernel_rfl
  | 3, _, _ => by kernel_rfl
  | 4, _, _ => by kernel_rfl
  | 0, h, _ => absurd h (by decide)
  | n + 5, _, h => absurd h (by omega)
theorem v_law_signs : ∀ n : Nat, 1 ≤ n → n ≤ 4 → F__law_signs [.int (n : Int)] = some (.ret (.fr ((signsL n).map rowD)))
  | 1, _, _ => by kernel_rfl
  | 2, _, _ => by kernel_rfl
  | 3, _, _ => by kernel_rfl
  | 4, _, _ => by kernel_rfl
  | 0, h, _ => absurd h (by decide)
  | n + 5, _, h => absurd h (by omega)
theorem v_law_choices : ∀ n : Nat, 1 ≤ n → n ≤ 4 → F__law_choices [.int (n : Int)] = some (.ret (.fr ((chL n).map natT)))
  | 1, _, _ => by kernel_rfl
  | 2, _, _ => by kernel_rfl
  | 3, _, _ => by kernel_rfl
  | 4, _, _ => by kernel_rfl
  | 0, h, _ => absurd h (by decide)
  | n + 5, _, h => absurd h (by omega)
theorem v_choices : ∀ xs : List PyData, 1 ≤ xs.length → xs.length ≤ 4 → F_choices [.tuple xs] = some (.ret (.fr ((chL xs.length).map natT)))
  | [_], _, _ => by kernel_rfl
  | [_, _], _, _ => by kernel_rfl
  | [_, _, _], _, _ => by kernel_rfl
  | [_, _, _, _], _, _ => by kernel_rfl
  | [], h, _ => absurd h (by decide)
  | _ :: _ :: _ :: _ :: _ :: _, _, h => absurd h (by simp)
theorem v_sort_ch : ∀ n : Nat, 1 ≤ n → n ≤ 4 → sortF [.list ((chL n).map natT)] = some (.fr ((soL n).map natT))
  | 1, _, _ => by kernel_rfl
  | 2, _, _ => by kernel_rfl
  | 3, _, _ => by kernel_rfl
  | 4, _, _ => by kernel_rfl
  | 0, h, _ => absurd h (by decide)
  | n + 5, _, h => absurd h (by omega)
end L2.K72

namespace L2.K72
open PySem PySem.Spec PyProof.Rows L2.DL
theorem bools_any {α : Type} (xs : List α) (p : α → Bool) : boolsOf (xs.map fun x => .bool (p x)) = some (xs.map p) := by
  induction xs with
  | nil => rfl
  | cons x xs ih => simp [boolsOf, ih]
theorem shaped_int (i : Int) : SeqAt.shaped (.int i) = true := rfl
theorem shaped_bool (b : Bool) : SeqAt.shaped (.bool b) = true := rfl
theorem eqv_int (i j : Int) : PyData.eqv (.int i) (.int j) = (i == j) := rfl
theorem v_is_a_table {rs : List (List Int)} {m w : Nat} (T : Tb rs m w) : F_is_a_table [tabD rs] = some (.ret (.d (.bool true))) := by
  have hl : (rs.map rowD).length = m := by simp [T.len]
  have t1 : tupw (tabD rs) 1 6 = true := by
    have := T.m1; have := T.m4
    simp [tupw, tabD, T.len]; omega
  refine runP_ok ?_
  simp only [m_is_a_table, m_is_a_table_1, m_is_a_table_2, m_is_a_table_3, m_is_a_table_4, m_is_a_table_5, m_is_a_table_6, m_is_a_table_7, m_is_a_table_8, run_bnd, run_ret, run_lift, run_peek, run_freeze, run_var, run_store, run_bName, run_callF, run_callM, run_isOwn, run_extM, run_if, eC, eBin, eUn, aNil, aCons, eTup, eLst, eCall, cV, cAnd, cOr, cNot, eIf, eAnd, eOr, eChain, sSet, sSets, stores, clash, sSeq, sNx, sIf, sExpr, sRet, sRetN, sAsg, eFn, eFnM, eFnK, peeks, freezes, iSeq, iRng, iZips, eMut, eSl, partN, partS, asInt, eExt, bSub, cYes, eLc, sFor, asBool, asRet, asRetM, List.map_cons, List.map_nil, List.replicate, List.cons_append, List.nil_append, List.append_nil, List.getElem?_cons_zero, List.getElem?_cons_succ, List.set_cons_zero, List.set_cons_succ, addF, subF, isi_int, isi_bool, isi_tuple, isi_str, isi_list, lenF, ltF, leF, gtF, geF, cmpF, negF, absF, intF, tupF, lstF, notF, seqOf, v_is_tuple, Option.some.injEq, exists_eq_left', FR.ret.injEq, Vl.d.injEq, t1, Bool.not_true, Bool.false_eq_true, if_false, List.length_cons, List.length_nil, exists_and_left, exists_eq_left]
  simp only [tabD, run_bnd, run_ret, run_lift, run_peek, run_freeze, run_var, run_store, run_bName, run_callF, run_callM, run_isOwn, run_extM, run_if, eC, eBin, eUn, aNil, aCons, eTup, eLst, eCall, cV, cAnd, cOr, cNot, eIf, eAnd, eOr, eChain, sSet, sSets, stores, clash, sSeq, sNx, sIf, sExpr, sRet, sRetN, sAsg, eFn, eFnM, eFnK, peeks, freezes, iSeq, iRng, iZips, eMut, eSl, partN, partS, asInt, eExt, bSub, cYes, eLc, sFor, asBool, asRet, asRetM, List.map_cons, List.map_nil, List.replicate, List.cons_append, List.nil_append, List.append_nil, List.getElem?_cons_zero, List.getElem?_cons_succ, List.set_cons_zero, List.set_cons_succ, addF, subF, isi_int, isi_bool, isi_tuple, isi_str, isi_list, lenF, ltF, leF, gtF, geF, cmpF, negF, absF, intF, tupF, lstF, notF, seqOf, Option.some.injEq, exists_eq_left']
  simp
  refine ⟨by rw [T.len]; have := T.m4; omega, ?_⟩
  refine run_map _ (fun x => .bool true) rfl (fun x hx => ?_) ?_
  · obtain ⟨r, hr, rfl⟩ := List.mem_map.mp hx
    have hw := (T.row r hr).1
    have := T.w1; have := T.w4
    simp [run_bnd, run_ret, run_lift, run_peek, run_freeze, run_var, run_store, run_bName, run_callF, run_callM, run_isOwn, run_extM, run_if, eC, eBin, eUn, aNil, aCons, eTup, eLst, eCall, cV, cAnd, cOr, cNot, eIf, eAnd, eOr, eChain, sSet, sSets, stores, clash, sSeq, sNx, sIf, sExpr, sRet, sRetN, sAsg, eFn, eFnM, eFnK, peeks, freezes, iSeq, iRng, iZips, eMut, eSl, partN, partS, asInt, eExt, bSub, cYes, eLc, sFor, asBool, asRet, asRetM, List.map_cons, List.map_nil, List.replicate, List.cons_append, List.nil_append, List.append_nil, List.getElem?_cons_zero, List.getElem?_cons_succ, List.set_cons_zero, List.set_cons_succ, addF, subF, isi_int, isi_bool, isi_tuple, isi_str, isi_list, lenF, ltF, leF, gtF, geF, cmpF, negF, absF, intF, tupF, lstF, notF, seqOf, v_is_tuple, wipeE, tupw, rowD, hw]
    omega
  · simp [allF, Function.comp_def, bools_any _ (fun _ => true), run_bnd, run_ret, run_lift, run_peek, run_freeze, run_var, run_store, run_bName, run_callF, run_callM, run_isOwn, run_extM, run_if, eC, eBin, eUn, aNil, aCons, eTup, eLst, eCall, cV, cAnd, cOr, cNot, eIf, eAnd, eOr, eChain, sSet, sSets, stores, clash, sSeq, sNx, sIf, sExpr, sRet, sRetN, sAsg, eFn, eFnM, eFnK, peeks, freezes, iSeq, iRng, iZips, eMut, eSl, partN, partS, asInt, eExt, bSub, cYes, eLc, sFor, asBool, asRet, asRetM, List.map_cons, List.map_nil, List.replicate, List.cons_append, List.nil_append, List.append_nil, List.getElem?_cons_zero, List.getElem?_cons_succ, List.set_cons_zero, List.set_cons_succ, addF, subF, isi_int, isi_bool, isi_tuple, isi_str, isi_list, lenF, ltF, leF, gtF, geF, cmpF, negF, absF, intF, tupF, lstF, notF, seqOf, wipeE]
    refine run_for _ (fun i e => ∃ y, e = [.d (tabD rs), y, .un]) ⟨_, rfl⟩ ?_ ?_
    · rintro i x e hx ⟨y, rfl⟩
      have hm := List.mem_of_getElem? hx
      obtain ⟨r, hr, rfl⟩ := List.mem_map.mp hm
      have h0 : ∃ r0, (rs.map rowD)[0]? = some (rowD r0) ∧ r0.length = w := by
        cases rs with
        | nil => cases hr
        | cons r0 rs => exact ⟨r0, rfl, (T.row r0 (List.mem_cons_self ..)).1⟩
      obtain ⟨r0, e0, w0⟩ := h0
      have hat : atI (rs.map rowD) 0 = some (rowD r0) := atI_nat e0
      have hw := (T.row r hr).1
      simp [run_bnd, run_ret, run_lift, run_peek, run_freeze, run_var, run_store, run_bName, run_callF, run_callM, run_isOwn, run_extM, run_if, eC, eBin, eUn, aNil, aCons, eTup, eLst, eCall, cV, cAnd, cOr, cNot, eIf, eAnd, eOr, eChain, sSet, sSets, stores, clash, sSeq, sNx, sIf, sExpr, sRet, sRetN, sAsg, eFn, eFnM, eFnK, peeks, freezes, iSeq, iRng, iZips, eMut, eSl, partN, partS, asInt, eExt, bSub, cYes, eLc, sFor, asBool, asRet, asRetM, List.map_cons, List.map_nil, List.replicate, List.cons_append, List.nil_append, List.append_nil, List.getElem?_cons_zero, List.getElem?_cons_succ, List.set_cons_zero, List.set_cons_succ, addF, subF, isi_int, isi_bool, isi_tuple, isi_str, isi_list, lenF, ltF, leF, gtF, geF, cmpF, negF, absF, intF, tupF, lstF, notF, seqOf, ixF, tabD, hat, rowD, neF, w0, hw, shaped_int, eqv_int]
      refine ⟨by have := T.w4; omega, ?_⟩
      refine run_map _ (fun x => .bool true) rfl (fun x hx => ?_) ?_
      · obtain ⟨a, ha, rfl⟩ := List.mem_map.mp hx
        have := (T.row r hr).2 a ha
        simp [run_bnd, run_ret, run_lift, run_peek, run_freeze, run_var, run_store, run_bName, run_callF, run_callM, run_isOwn, run_extM, run_if, eC, eBin, eUn, aNil, aCons, eTup, eLst, eCall, cV, cAnd, cOr, cNot, eIf, eAnd, eOr, eChain, sSet, sSets, stores, clash, sSeq, sNx, sIf, sExpr, sRet, sRetN, sAsg, eFn, eFnM, eFnK, peeks, freezes, iSeq, iRng, iZips, eMut, eSl, partN, partS, asInt, eExt, bSub, cYes, eLc, sFor, asBool, asRet, asRetM, List.map_cons, List.map_nil, List.replicate, List.cons_append, List.nil_append, List.append_nil, List.getElem?_cons_zero, List.getElem?_cons_succ, List.set_cons_zero, List.set_cons_succ, addF, subF, isi_int, isi_bool, isi_tuple, isi_str, isi_list, lenF, ltF, leF, gtF, geF, cmpF, negF, absF, intF, tupF, lstF, notF, seqOf, v_is_between, wipeE, btw]
        omega
      · simp [allF, Function.comp_def, bools_any _ (fun _ => true), run_bnd, run_ret, run_lift, run_peek, run_freeze, run_var, run_store, run_bName, run_callF, run_callM, run_isOwn, run_extM, run_if, eC, eBin, eUn, aNil, aCons, eTup, eLst, eCall, cV, cAnd, cOr, cNot, eIf, eAnd, eOr, eChain, sSet, sSets, stores, clash, sSeq, sNx, sIf, sExpr, sRet, sRetN, sAsg, eFn, eFnM, eFnK, peeks, freezes, iSeq, iRng, iZips, eMut, eSl, partN, partS, asInt, eExt, bSub, cYes, eLc, sFor, asBool, asRet, asRetM, List.map_cons, List.map_nil, List.replicate, List.cons_append, List.nil_append, List.append_nil, List.getElem?_cons_zero, List.getElem?_cons_succ, List.set_cons_zero, List.set_cons_succ, addF, subF, isi_int, isi_bool, isi_tuple, isi_str, isi_list, lenF, ltF, leF, gtF, geF, cmpF, negF, absF, intF, tupF, lstF, notF, seqOf, wipeE]
    · rintro e ⟨y, rfl⟩
      simp [run_bnd, run_ret, run_lift, run_peek, run_freeze, run_var, run_store, run_bName, run_callF, run_callM, run_isOwn, run_extM, run_if, eC, eBin, eUn, aNil, aCons, eTup, eLst, eCall, cV, cAnd, cOr, cNot, eIf, eAnd, eOr, eChain, sSet, sSets, stores, clash, sSeq, sNx, sIf, sExpr, sRet, sRetN, sAsg, eFn, eFnM, eFnK, peeks, freezes, iSeq, iRng, iZips, eMut, eSl, partN, partS, asInt, eExt, bSub, cYes, eLc, sFor, asBool, asRet, asRetM, List.map_cons, List.map_nil, List.replicate, List.cons_append, List.nil_append, List.append_nil, List.getElem?_cons_zero, List.getElem?_cons_succ, List.set_cons_zero, List.set_cons_succ, addF, subF, isi_int, isi_bool, isi_tuple, isi_str, isi_list, lenF, ltF, leF, gtF, geF, cmpF, negF, absF, intF, tupF, lstF, notF, seqOf]
theorem v_need_table {rs : List (List Int)} {m w : Nat} (T : Tb rs m w) : F_need_table [tabD rs] = some (.ret (.d .none)) := by
  refine runP_ok ?_
  simp [m_need_table, m_need_table_1, m_need_table_2, run_bnd, run_ret, run_lift, run_peek, run_freeze, run_var, run_store, run_bName, run_callF, run_callM, run_isOwn, run_extM, run_if, eC, eBin, eUn, aNil, aCons, eTup, eLst, eCall, cV, cAnd, cOr, cNot, eIf, eAnd, eOr, eChain, sSet, sSets, stores, clash, sSeq, sNx, sIf, sExpr, sRet, sRetN, sAsg, eFn, eFnM, eFnK, peeks, freezes, iSeq, iRng, iZips, eMut, eSl, partN, partS, asInt, eExt, bSub, cYes, eLc, sFor, asBool, asRet, asRetM, List.map_cons, List.map_nil, List.replicate, List.cons_append, List.nil_append, List.append_nil, List.getElem?_cons_zero, List.getElem?_cons_succ, List.set_cons_zero, List.set_cons_succ, addF, subF, isi_int, isi_bool, isi_tuple, isi_str, isi_list, lenF, ltF, leF, gtF, geF, cmpF, negF, absF, intF, tupF, lstF, notF, seqOf, v_is_a_table T]
end L2.K72

namespace L2.K72
open PySem PySem.Spec PyProof.Rows L2.DL
theorem ex_and_eq {α : Type} {p : Prop} {x : α} {q : α → Prop} : (∃ a, (p ∧ x = a) ∧ q a) ↔ p ∧ q x := ⟨fun ⟨_, ⟨h1, h2⟩, h3⟩ => by subst h2; exact ⟨h1, h3⟩, fun ⟨h1, h2⟩ => ⟨_, ⟨h1, rfl⟩, h2⟩⟩
def colS (rs : List (List Int)) (l : List Nat) (ss : List Int) (j : Nat) : Int := ((l.zip ss).map fun p => p.2 * (rs[p.1]?.getD [])[j]?.getD 0).sum
def absI (a : Int) : Int := if a < 0 then -a else a
def goodJ (rs : List (List Int)) (l : List Nat) (ss : List Int) (j : Nat) : Bool := decide (absI (colS rs l ss j) ≤ 1)
def hvB (rs : List (List Int)) (w : Nat) (l : List Nat) (ss : List Int) : Bool := (List.range w).all fun j => goodJ rs l ss j
theorem ints_any {α : Type} (xs : List α) (f : α → Int) : intsOf (xs.map fun x => .int (f x)) = some (xs.map f) := by
  induction xs with
  | nil => rfl
  | cons x xs ih => simp [intsOf, ih]
theorem small_of {i : Int} (h : -1000 ≤ i ∧ i ≤ 1000) : smallI i = true := by
  unfold smallI
  simp
  omega
theorem tab_at {rs : List (List Int)} {i : Nat} (h : i < rs.length) : atI (rs.map rowD) (i : Int) = some (rowD (rs[i]?.getD [])) := by
  refine atI_nat ?_
  rw [List.getElem?_map, List.getElem?_eq_getElem h]
  rfl
theorem row_at {r : List Int} {j : Nat} (h : j < r.length) : atI (r.map PyData.int) (j : Int) = some (.int (r[j]?.getD 0)) := by
  refine atI_nat ?_
  rw [List.getElem?_map, List.getElem?_eq_getElem h]
  rfl
def prodJ (rs : List (List Int)) (j : Nat) : PyData → PyData
  | .tuple [.int i, .int s] => .int (s * (rs[i.toNat]?.getD [])[j]?.getD 0)
  | d => d
theorem getD_mem {rs : List (List Int)} {i : Nat} (h : i < rs.length) : rs[i]?.getD [] ∈ rs := by
  rw [List.getElem?_eq_getElem h]
  exact List.getElem_mem h
theorem v_halves {rs : List (List Int)} {m w : Nat} (T : Tb rs m w) {l : List Nat} (hl : ∀ i ∈ l, i < m) (hz : l.length ≤ 100) {ss : List Int} (hs : ∀ s ∈ ss, -1000 ≤ s ∧ s ≤ 1000) : F_halves [tabD rs, natT l, rowD ss] = some (.ret (.d (.bool (hvB rs w l ss)))) := by
  have h0 : atI (rs.map rowD) 0 = some (rowD (rs[0]?.getD [])) := tab_at (i := 0) (by rw [T.len]; exact T.m1)
  have w0 : (rs[0]?.getD []).length = w := (T.row _ (getD_mem (by rw [T.len]; exact T.m1))).1
  have := T.w4
  refine runP_ok ?_
  simp [m_halves, m_halves_1, m_halves_2, m_halves_3, m_halves_4, m_halves_5, run_bnd, run_ret, run_lift, run_peek, run_freeze, run_var, run_store, run_bName, run_callF, run_callM, run_isOwn, run_extM, run_if, eC, eBin, eUn, aNil, aCons, eTup, eLst, eCall, cV, cAnd, cOr, cNot, eIf, eAnd, eOr, eChain, sSet, sSets, stores, clash, sSeq, sNx, sIf, sExpr, sRet, sRetN, sAsg, eFn, eFnM, eFnK, peeks, freezes, iSeq, iRng, iZips, eMut, eSl, partN, partS, asInt, eExt, bSub, cYes, eLc, sFor, asBool, asRet, asRetM, List.map_cons, List.map_nil, List.replicate, List.cons_append, List.nil_append, List.append_nil, List.getElem?_cons_zero, List.getElem?_cons_succ, List.set_cons_zero, List.set_cons_succ, addF, subF, isi_int, isi_bool, isi_tuple, isi_str, isi_list, lenF, ltF, leF, gtF, geF, cmpF, negF, absF, intF, tupF, lstF, notF, seqOf, tabD, ixF, h0, rng1]
  simp [rowD, w0, ex_and_eq]
  refine ⟨by omega, ?_⟩
  refine run_for _ (fun i e => (∀ j, j < i → goodJ rs l ss j = true) ∧ ∃ y, e = [.d (tabD rs), .d (natT l), .d (rowD ss), y, .un, .un]) ⟨fun j h => absurd h (by omega), _, rfl⟩ ?_ ?_
  · rintro i x e hx ⟨hg, y, rfl⟩
    have hi : i < w := by
      have := (List.getElem?_eq_some_iff.mp hx).1
      simpa using this
    have ex : x = .int (i : Int) := by
      rw [List.getElem?_map, List.getElem?_range hi] at hx
      simpa using hx.symm
    subst ex
    simp [run_bnd, run_ret, run_lift, run_peek, run_freeze, run_var, run_store, run_bName, run_callF, run_callM, run_isOwn, run_extM, run_if, eC, eBin, eUn, aNil, aCons, eTup, eLst, eCall, cV, cAnd, cOr, cNot, eIf, eAnd, eOr, eChain, sSet, sSets, stores, clash, sSeq, sNx, sIf, sExpr, sRet, sRetN, sAsg, eFn, eFnM, eFnK, peeks, freezes, iSeq, iRng, iZips, eMut, eSl, partN, partS, asInt, eExt, bSub, cYes, eLc, sFor, asBool, asRet, asRetM, List.map_cons, List.map_nil, List.replicate, List.cons_append, List.nil_append, List.append_nil, List.getElem?_cons_zero, List.getElem?_cons_succ, List.set_cons_zero, List.set_cons_succ, addF, subF, isi_int, isi_bool, isi_tuple, isi_str, isi_list, lenF, ltF, leF, gtF, geF, cmpF, negF, absF, intF, tupF, lstF, notF, seqOf, natT, rowD, zip2]
    refine ⟨by simp [pairs]; omega, ?_⟩
    refine run_map _ (prodJ rs i) rfl (fun x hx => ?_) ?_
    · unfold pairs at hx
      obtain ⟨⟨a, b⟩, hab, rfl⟩ := List.mem_map.mp hx
      have h1 := List.of_mem_zip hab
      obtain ⟨a', ha, rfl⟩ := List.mem_map.mp h1.1
      obtain ⟨b', hb, rfl⟩ := List.mem_map.mp h1.2
      have la := hl a' ha
      have lw : i < (rs[a']?.getD []).length := by rw [(T.row _ (getD_mem (by rw [T.len]; exact la))).1]; exact hi
      simp only [bTup, bAll, run_bnd, run_ret, run_lift, run_peek, run_freeze, run_var, run_store, run_bName, run_callF, run_callM, run_isOwn, run_extM, run_if, eC, eBin, eUn, aNil, aCons, eTup, eLst, eCall, cV, cAnd, cOr, cNot, eIf, eAnd, eOr, eChain, sSet, sSets, stores, clash, sSeq, sNx, sIf, sExpr, sRet, sRetN, sAsg, eFn, eFnM, eFnK, peeks, freezes, iSeq, iRng, iZips, eMut, eSl, partN, partS, asInt, eExt, bSub, cYes, eLc, sFor, asBool, asRet, asRetM, List.map_cons, List.map_nil, List.replicate, List.cons_append, List.nil_append, List.append_nil, List.getElem?_cons_zero, List.getElem?_cons_succ, List.set_cons_zero, List.set_cons_succ, addF, subF, isi_int, isi_bool, isi_tuple, isi_str, isi_list, lenF, ltF, leF, gtF, geF, cmpF, negF, absF, intF, tupF, lstF, notF, seqOf, tabD, ixF, tab_at (by rw [T.len]; exact la), rowD, row_at lw, mulF, small_of (hs b' hb), Option.map_some, Option.some.injEq, exists_eq_left', Bool.true_or, if_true, wipeE, prodJ, Int.toNat_natCast]
      simp
    · have e1 : (pairs (l.map fun (i : Nat) => PyData.int (i : Int)) (ss.map PyData.int)).map (prodJ rs i) = (l.zip ss).map fun p => PyData.int (p.2 * (rs[p.1]?.getD [])[i]?.getD 0) := by
        unfold pairs
        rw [List.zip_map, List.map_map, List.map_map]
        apply List.map_congr_left
        rintro ⟨a, b⟩ _
        simp [prodJ]
      rw [e1]
      simp only [run_bnd, run_ret, run_lift, run_peek, run_freeze, run_var, run_store, run_bName, run_callF, run_callM, run_isOwn, run_extM, run_if, eC, eBin, eUn, aNil, aCons, eTup, eLst, eCall, cV, cAnd, cOr, cNot, eIf, eAnd, eOr, eChain, sSet, sSets, stores, clash, sSeq, sNx, sIf, sExpr, sRet, sRetN, sAsg, eFn, eFnM, eFnK, peeks, freezes, iSeq, iRng, iZips, eMut, eSl, partN, partS, asInt, eExt, bSub, cYes, eLc, sFor, asBool, asRet, asRetM, List.map_cons, List.map_nil, List.replicate, List.cons_append, List.nil_append, List.append_nil, List.getElem?_cons_zero, List.getElem?_cons_succ, List.set_cons_zero, List.set_cons_succ, addF, subF, isi_int, isi_bool, isi_tuple, isi_str, isi_list, lenF, ltF, leF, gtF, geF, cmpF, negF, absF, intF, tupF, lstF, notF, seqOf, sumF, ints_any (l.zip ss) fun p => p.2 * (rs[p.1]?.getD [])[i]?.getD 0, Option.map_some, Option.some.injEq, exists_eq_left', wipeE]
      have e2 : (((l.zip ss).map fun p => p.2 * (rs[p.1]?.getD [])[i]?.getD 0).sum) = colS rs l ss i := rfl
      rw [e2]
      by_cases hb : absI (colS rs l ss i) ≤ 1
      · have hd : decide (1 < absI (colS rs l ss i)) = false := decide_eq_false (by omega)
        have hd2 : decide (1 < if colS rs l ss i < 0 then -colS rs l ss i else colS rs l ss i) = false := hd
        simp only [hd2, Bool.false_eq_true, if_false]
        refine .inl ⟨trivial, fun j hj => ?_, _, rfl⟩
        by_cases hji : j = i
        · rw [hji]; exact decide_eq_true hb
        · exact hg j (by omega)
      · have hd2 : decide (1 < if colS rs l ss i < 0 then -colS rs l ss i else colS rs l ss i) = true := decide_eq_true (by unfold absI at hb; omega)
        simp only [hd2, if_true]
        have : hvB rs w l ss = false := by
          unfold hvB
          rw [List.all_eq_false]
          exact ⟨i, List.mem_range.mpr hi, by unfold goodJ; rw [decide_eq_false hb]; simp⟩
        rw [this]
        simp [run_bnd, run_ret, run_lift, run_peek, run_freeze, run_var, run_store, run_bName, run_callF, run_callM, run_isOwn, run_extM, run_if, eC, eBin, eUn, aNil, aCons, eTup, eLst, eCall, cV, cAnd, cOr, cNot, eIf, eAnd, eOr, eChain, sSet, sSets, stores, clash, sSeq, sNx, sIf, sExpr, sRet, sRetN, sAsg, eFn, eFnM, eFnK, peeks, freezes, iSeq, iRng, iZips, eMut, eSl, partN, partS, asInt, eExt, bSub, cYes, eLc, sFor, asBool, asRet, asRetM, List.map_cons, List.map_nil, List.replicate, List.cons_append, List.nil_append, List.append_nil, List.getElem?_cons_zero, List.getElem?_cons_succ, List.set_cons_zero, List.set_cons_succ, addF, subF, isi_int, isi_bool, isi_tuple, isi_str, isi_list, lenF, ltF, leF, gtF, geF, cmpF, negF, absF, intF, tupF, lstF, notF, seqOf]
  · rintro e ⟨hg, y, rfl⟩
    have : hvB rs w l ss = true := by
      unfold hvB
      rw [List.all_eq_true]
      exact fun j hj => hg j (by simpa using hj)
    rw [this]
    simp [run_bnd, run_ret, run_lift, run_peek, run_freeze, run_var, run_store, run_bName, run_callF, run_callM, run_isOwn, run_extM, run_if, eC, eBin, eUn, aNil, aCons, eTup, eLst, eCall, cV, cAnd, cOr, cNot, eIf, eAnd, eOr, eChain, sSet, sSets, stores, clash, sSeq, sNx, sIf, sExpr, sRet, sRetN, sAsg, eFn, eFnM, eFnK, peeks, freezes, iSeq, iRng, iZips, eMut, eSl, partN, partS, asInt, eExt, bSub, cYes, eLc, sFor, asBool, asRet, asRetM, List.map_cons, List.map_nil, List.replicate, List.cons_append, List.nil_append, List.append_nil, List.getElem?_cons_zero, List.getElem?_cons_succ, List.set_cons_zero, List.set_cons_succ, addF, subF, isi_int, isi_bool, isi_tuple, isi_str, isi_list, lenF, ltF, leF, gtF, geF, cmpF, negF, absF, intF, tupF, lstF, notF, seqOf]
end L2.K72

namespace L2.K72
open PySem PySem.Spec PyProof.Rows L2.DL
theorem lh_eq : F__law_halves = F_halves := rfl
def optD : Option (List Int) → PyData
  | some ss => rowD ss
  | none => .none
theorem signs_ok (n : Nat) (h1 : 1 ≤ n) (h4 : n ≤ 4) : ∀ ss ∈ signsL n, ss.length = n ∧ ∀ s ∈ ss, s = 1 ∨ s = -1 := by
  have : n = 1 ∨ n = 2 ∨ n = 3 ∨ n = 4 := by omega
  rcases this with rfl | rfl | rfl | rfl <;> decide
/-- what a choice of rows is -/
structure Ch (l : List Nat) (m : Nat) : Prop where
  n1 : 1 ≤ l.length
  n4 : l.length ≤ 4
  lt : ∀ i ∈ l, i < m
def fh (rs : List (List Int)) (w : Nat) (l : List Nat) : Option (List Int) := (signsL l.length).find? fun ss => hvB rs w l ss
theorem v_hv {rs : List (List Int)} {m w : Nat} (T : Tb rs m w) {l : List Nat} (C : Ch l m) {ss : List Int} (h : ss ∈ signsL l.length) : F_halves [tabD rs, natT l, rowD ss] = some (.ret (.d (.bool (hvB rs w l ss)))) :=
  v_halves T C.lt (by have := C.n4; omega) fun s hs => by
    rcases (signs_ok _ C.n1 C.n4 ss h).2 s hs with rfl | rfl <;> omega
theorem find_none {α : Type} {p : α → Bool} {xs : List α} (h : ∀ (j : Nat) x, xs[j]? = some x → p x = false) : xs.find? p = none := by
  rw [List.find?_eq_none]
  intro x hx
  obtain ⟨j, hj⟩ := List.mem_iff_getElem?.mp hx
  rw [h j x hj]
  exact Bool.false_ne_true
theorem find_at {α : Type} {p : α → Bool} {xs : List α} {i : Nat} {x : α} (hx : xs[i]? = some x) (hp : p x = true) (h : ∀ (j : Nat) y, j < i → xs[j]? = some y → p y = false) : xs.find? p = some x := by
  induction xs generalizing i with
  | nil => cases hx
  | cons y xs ih =>
    cases i with
    | zero =>
      cases hx
      rw [List.find?_cons, hp]
    | succ i =>
      rw [List.find?_cons, h 0 y (by omega) rfl]
      exact ih hx fun j z hj hz => h (j + 1) z (by omega) hz
theorem v_first_halving {rs : List (List Int)} {m w : Nat} (T : Tb rs m w) {l : List Nat} (C : Ch l m) : F_first_halving [tabD rs, natT l] = some (.ret (.d (optD (fh rs w l)))) := by
  have e1 := v_sign_rows l.length C.n1 C.n4
  refine runP_ok ?_
  have hlen : ((l.map fun (i : Nat) => PyData.int (i : Int)).length : Int) = (l.length : Nat) := by simp
  simp [m_first_halving, m_first_halving_1, m_first_halving_2, m_first_halving_3, m_first_halving_4, run_bnd, run_ret, run_lift, run_peek, run_freeze, run_var, run_store, run_bName, run_callF, run_callM, run_isOwn, run_extM, run_if, eC, eBin, eUn, aNil, aCons, eTup, eLst, eCall, cV, cAnd, cOr, cNot, eIf, eAnd, eOr, eChain, sSet, sSets, stores, clash, sSeq, sNx, sIf, sExpr, sRet, sRetN, sAsg, eFn, eFnM, eFnK, peeks, freezes, iSeq, iRng, iZips, eMut, eSl, partN, partS, asInt, eExt, bSub, cYes, eLc, sFor, asBool, asRet, asRetM, List.map_cons, List.map_nil, List.replicate, List.cons_append, List.nil_append, List.append_nil, List.getElem?_cons_zero, List.getElem?_cons_succ, List.set_cons_zero, List.set_cons_succ, addF, subF, isi_int, isi_bool, isi_tuple, isi_str, isi_list, lenF, ltF, leF, gtF, geF, cmpF, negF, absF, intF, tupF, lstF, notF, seqOf, natT, hlen, e1]
  refine run_for _ (fun i e => (∀ j ss, j < i → (signsL l.length)[j]? = some ss → hvB rs w l ss = false) ∧ ∃ y, e = [.d (tabD rs), .d (natT l), y]) ⟨fun j ss h => absurd h (by omega), _, rfl⟩ ?_ ?_
  · rintro i x e hx ⟨hg, y, rfl⟩
    rw [List.getElem?_map] at hx
    obtain ⟨ss, hss, rfl⟩ := Option.map_eq_some_iff.mp hx
    have e2 := v_hv T C (List.mem_of_getElem? hss)
    simp only [run_bnd, run_ret, run_lift, run_peek, run_freeze, run_var, run_store, run_bName, run_callF, run_callM, run_isOwn, run_extM, run_if, eC, eBin, eUn, aNil, aCons, eTup, eLst, eCall, cV, cAnd, cOr, cNot, eIf, eAnd, eOr, eChain, sSet, sSets, stores, clash, sSeq, sNx, sIf, sExpr, sRet, sRetN, sAsg, eFn, eFnM, eFnK, peeks, freezes, iSeq, iRng, iZips, eMut, eSl, partN, partS, asInt, eExt, bSub, cYes, eLc, sFor, asBool, asRet, asRetM, List.map_cons, List.map_nil, List.replicate, List.cons_append, List.nil_append, List.append_nil, List.getElem?_cons_zero, List.getElem?_cons_succ, List.set_cons_zero, List.set_cons_succ, addF, subF, isi_int, isi_bool, isi_tuple, isi_str, isi_list, lenF, ltF, leF, gtF, geF, cmpF, negF, absF, intF, tupF, lstF, notF, seqOf, e2, Option.some.injEq, exists_eq_left', FR.ret.injEq, if_true]
    cases hb : hvB rs w l ss with
    | false =>
      simp
      intro j s' hj hs'
      by_cases hji : j = i
      · subst hji
        rw [hss] at hs'
        cases hs'
        exact hb
      · exact hg j s' (by omega) hs'
    | true =>
      have : fh rs w l = some ss := find_at hss hb hg
      simp [this, optD, run_bnd, run_ret, run_lift, run_peek, run_freeze, run_var, run_store, run_bName, run_callF, run_callM, run_isOwn, run_extM, run_if, eC, eBin, eUn, aNil, aCons, eTup, eLst, eCall, cV, cAnd, cOr, cNot, eIf, eAnd, eOr, eChain, sSet, sSets, stores, clash, sSeq, sNx, sIf, sExpr, sRet, sRetN, sAsg, eFn, eFnM, eFnK, peeks, freezes, iSeq, iRng, iZips, eMut, eSl, partN, partS, asInt, eExt, bSub, cYes, eLc, sFor, asBool, asRet, asRetM, List.map_cons, List.map_nil, List.replicate, List.cons_append, List.nil_append, List.append_nil, List.getElem?_cons_zero, List.getElem?_cons_succ, List.set_cons_zero, List.set_cons_succ, addF, subF, isi_int, isi_bool, isi_tuple, isi_str, isi_list, lenF, ltF, leF, gtF, geF, cmpF, negF, absF, intF, tupF, lstF, notF, seqOf]
  · rintro e ⟨hg, y, rfl⟩
    have : fh rs w l = none := find_none fun j x hx => hg j x (by have := (List.getElem?_eq_some_iff.mp hx).1; simpa using this) hx
    simp [this, optD, run_bnd, run_ret, run_lift, run_peek, run_freeze, run_var, run_store, run_bName, run_callF, run_callM, run_isOwn, run_extM, run_if, eC, eBin, eUn, aNil, aCons, eTup, eLst, eCall, cV, cAnd, cOr, cNot, eIf, eAnd, eOr, eChain, sSet, sSets, stores, clash, sSeq, sNx, sIf, sExpr, sRet, sRetN, sAsg, eFn, eFnM, eFnK, peeks, freezes, iSeq, iRng, iZips, eMut, eSl, partN, partS, asInt, eExt, bSub, cYes, eLc, sFor, asBool, asRet, asRetM, List.map_cons, List.map_nil, List.replicate, List.cons_append, List.nil_append, List.append_nil, List.getElem?_cons_zero, List.getElem?_cons_succ, List.set_cons_zero, List.set_cons_succ, addF, subF, isi_int, isi_bool, isi_tuple, isi_str, isi_list, lenF, ltF, leF, gtF, geF, cmpF, negF, absF, intF, tupF, lstF, notF, seqOf]
/-! ### data that may be compared -/
def lay (n : Nat) (d : PyData) : Bool := d.canLay0 && decide (d.depth ≤ n)
theorem lay_all {n : Nat} : ∀ {xs : List PyData}, (∀ x ∈ xs, lay n x = true) → PyData.canLayAll0 xs = true ∧ PyData.depthAll xs ≤ n
  | [], _ => ⟨rfl, Nat.zero_le _⟩
  | x :: xs, h => by
    obtain ⟨h1, h2⟩ := lay_all fun y hy => h y (List.mem_cons_of_mem _ hy)
    have h3 := h x (List.mem_cons_self ..)
    unfold lay at h3
    rw [Bool.and_eq_true] at h3
    have h4 := of_decide_eq_true h3.2
    refine ⟨?_, ?_⟩
    · unfold PyData.canLayAll0
      rw [h3.1, h1]
      rfl
    · unfold PyData.depthAll
      omega
theorem lay_list {n : Nat} {xs : List PyData} (h : ∀ x ∈ xs, lay n x = true) : lay (n + 1) (.list xs) = true := by
  obtain ⟨h1, h2⟩ := lay_all h
  unfold lay PyData.canLay0 PyData.depth
  rw [h1]
  simpa using h2
theorem lay_tuple {n : Nat} {xs : List PyData} (h : ∀ x ∈ xs, lay n x = true) : lay (n + 1) (.tuple xs) = true := by
  obtain ⟨h1, h2⟩ := lay_all h
  unfold lay PyData.canLay0 PyData.depth
  rw [h1]
  simpa using h2
theorem lay_mono {n m : Nat} {d : PyData} (h : lay n d = true) (hm : n ≤ m) : lay m d = true := by
  unfold lay at h ⊢
  rw [Bool.and_eq_true] at h ⊢
  exact ⟨h.1, decide_eq_true (Nat.le_trans (of_decide_eq_true h.2) hm)⟩
theorem lay_shaped {n : Nat} {d : PyData} (h : lay n d = true) (hn : n ≤ 64) : SeqAt.shaped d = true := by
  have := lay_mono h hn
  exact this
theorem lay_int (i : Int) : lay 0 (.int i) = true := rfl
theorem lay_row (r : List Int) : lay 1 (rowD r) = true := lay_tuple fun x hx => by
  obtain ⟨i, _, rfl⟩ := List.mem_map.mp hx
  rfl
theorem lay_natT (l : List Nat) : lay 1 (natT l) = true := lay_tuple fun x hx => by
  obtain ⟨i, _, rfl⟩ := List.mem_map.mp hx
  rfl
theorem sh_nil : SeqAt.shaped (.list []) = true := rfl
theorem eqv_list_nil (xs : List PyData) : PyData.eqv (.list xs) (.list []) = xs.isEmpty := by
  cases xs <;> rfl
theorem v_law_halving {rs : List (List Int)} {m w : Nat} (T : Tb rs m w) {l : List Nat} (C : Ch l m) : F__law_halving [tabD rs, natT l] = some (.ret (.d (optD (fh rs w l)))) := by
  have e1 := v_law_signs l.length C.n1 C.n4
  refine runP_ok ?_
  have hlen : ((l.map fun (i : Nat) => PyData.int (i : Int)).length : Int) = (l.length : Nat) := by simp
  simp [m__law_halving, m__law_halving_1, m__law_halving_2, m__law_halving_3, run_bnd, run_ret, run_lift, run_peek, run_freeze, run_var, run_store, run_bName, run_callF, run_callM, run_isOwn, run_extM, run_if, eC, eBin, eUn, aNil, aCons, eTup, eLst, eCall, cV, cAnd, cOr, cNot, eIf, eAnd, eOr, eChain, sSet, sSets, stores, clash, sSeq, sNx, sIf, sExpr, sRet, sRetN, sAsg, eFn, eFnM, eFnK, peeks, freezes, iSeq, iRng, iZips, eMut, eSl, partN, partS, asInt, eExt, bSub, cYes, eLc, sFor, asBool, asRet, asRetM, List.map_cons, List.map_nil, List.replicate, List.cons_append, List.nil_append, List.append_nil, List.getElem?_cons_zero, List.getElem?_cons_succ, List.set_cons_zero, List.set_cons_succ, addF, subF, isi_int, isi_bool, isi_tuple, isi_str, isi_list, lenF, ltF, leF, gtF, geF, cmpF, negF, absF, intF, tupF, lstF, notF, seqOf, natT, hlen, e1]
  have hsz : (signsL l.length).length < 100 := by
    have h1 := C.n1
    have h4 := C.n4
    have : l.length = 1 ∨ l.length = 2 ∨ l.length = 3 ∨ l.length = 4 := by omega
    rcases this with h | h | h | h <;> rw [h] <;> decide
  refine ⟨by omega, ?_⟩
  refine run_filter _ (fun x => match x with | .tuple xs => (match intsOf xs with | some ss => hvB rs w l ss | none => false) | _ => false) (fun x => x) rfl (fun x hx => ?_) ?_
  · obtain ⟨ss, hss, rfl⟩ := List.mem_map.mp hx
    have e2 := v_hv T C hss
    have e3 : intsOf (ss.map PyData.int) = some ss := by have := ints_any ss id; simpa using this
    have e4 : F__law_halves [tabD rs, .tuple (l.map fun (i : Nat) => PyData.int (i : Int)), .tuple (ss.map PyData.int)] = some (.ret (.d (.bool (hvB rs w l ss)))) := e2
    simp only [rowD, run_bnd, run_ret, run_lift, run_peek, run_freeze, run_var, run_store, run_bName, run_callF, run_callM, run_isOwn, run_extM, run_if, eC, eBin, eUn, aNil, aCons, eTup, eLst, eCall, cV, cAnd, cOr, cNot, eIf, eAnd, eOr, eChain, sSet, sSets, stores, clash, sSeq, sNx, sIf, sExpr, sRet, sRetN, sAsg, eFn, eFnM, eFnK, peeks, freezes, iSeq, iRng, iZips, eMut, eSl, partN, partS, asInt, eExt, bSub, cYes, eLc, sFor, asBool, asRet, asRetM, List.map_cons, List.map_nil, List.replicate, List.cons_append, List.nil_append, List.append_nil, List.getElem?_cons_zero, List.getElem?_cons_succ, List.set_cons_zero, List.set_cons_succ, addF, subF, isi_int, isi_bool, isi_tuple, isi_str, isi_list, lenF, ltF, leF, gtF, geF, cmpF, negF, absF, intF, tupF, lstF, notF, seqOf, e4, Option.some.injEq, exists_eq_left', FR.ret.injEq, e3, wipeE]
    simp
  · have e5 : ((signsL l.length).map rowD).filter (fun x => match x with | .tuple xs => (match intsOf xs with | some ss => hvB rs w l ss | none => false) | _ => false) = ((signsL l.length).filter fun ss => hvB rs w l ss).map rowD := by
      rw [List.filter_map]
      congr 1
      apply List.filter_congr
      intro ss _
      have e3 : intsOf (ss.map PyData.int) = some ss := by have := ints_any ss id; simpa using this
      simp [rowD, e3]
    rw [e5, show (fun (x : PyData) => x) = id from rfl, List.map_id]
    have hs : SeqAt.shaped (.list (((signsL l.length).filter fun ss => hvB rs w l ss).map rowD)) = true := lay_shaped (lay_list fun x hx => by obtain ⟨r, _, rfl⟩ := List.mem_map.mp hx; exact lay_row r) (by omega)
    cases hf : (signsL l.length).filter fun ss => hvB rs w l ss with
    | nil =>
      have : fh rs w l = none := by
        unfold fh
        rw [List.find?_eq_none]
        intro x hx hx2
        have : x ∈ (signsL l.length).filter fun ss => hvB rs w l ss := List.mem_filter.mpr ⟨hx, hx2⟩
        rw [hf] at this
        cases this
      simp [run_bnd, run_ret, run_lift, run_peek, run_freeze, run_var, run_store, run_bName, run_callF, run_callM, run_isOwn, run_extM, run_if, eC, eBin, eUn, aNil, aCons, eTup, eLst, eCall, cV, cAnd, cOr, cNot, eIf, eAnd, eOr, eChain, sSet, sSets, stores, clash, sSeq, sNx, sIf, sExpr, sRet, sRetN, sAsg, eFn, eFnM, eFnK, peeks, freezes, iSeq, iRng, iZips, eMut, eSl, partN, partS, asInt, eExt, bSub, cYes, eLc, sFor, asBool, asRet, asRetM, List.map_cons, List.map_nil, List.replicate, List.cons_append, List.nil_append, List.append_nil, List.getElem?_cons_zero, List.getElem?_cons_succ, List.set_cons_zero, List.set_cons_succ, addF, subF, isi_int, isi_bool, isi_tuple, isi_str, isi_list, lenF, ltF, leF, gtF, geF, cmpF, negF, absF, intF, tupF, lstF, notF, seqOf, wipeE, neF, sh_nil, eqv_list_nil, this, optD]
    | cons a as =>
      have : fh rs w l = some a := by
        unfold fh
        rw [← List.head?_filter, hf]
        rfl
      rw [hf] at hs
      simp only [List.map_cons] at hs
      simp [run_bnd, run_ret, run_lift, run_peek, run_freeze, run_var, run_store, run_bName, run_callF, run_callM, run_isOwn, run_extM, run_if, eC, eBin, eUn, aNil, aCons, eTup, eLst, eCall, cV, cAnd, cOr, cNot, eIf, eAnd, eOr, eChain, sSet, sSets, stores, clash, sSeq, sNx, sIf, sExpr, sRet, sRetN, sAsg, eFn, eFnM, eFnK, peeks, freezes, iSeq, iRng, iZips, eMut, eSl, partN, partS, asInt, eExt, bSub, cYes, eLc, sFor, asBool, asRet, asRetM, List.map_cons, List.map_nil, List.replicate, List.cons_append, List.nil_append, List.append_nil, List.getElem?_cons_zero, List.getElem?_cons_succ, List.set_cons_zero, List.set_cons_succ, addF, subF, isi_int, isi_bool, isi_tuple, isi_str, isi_list, lenF, ltF, leF, gtF, geF, cmpF, negF, absF, intF, tupF, lstF, notF, seqOf, wipeE, neF, hs, sh_nil, eqv_list_nil, this, optD, ixF, atI, ixN, ex_and_eq]
end L2.K72

namespace L2.K72
open PySem PySem.Spec PyProof.Rows L2.DL
def ihB (rs : List (List Int)) (w : Nat) (l : List Nat) (d : PyData) : Bool := match d with
  | .tuple xs => (match intsOf xs with
    | some ss => (signsL l.length).contains ss && hvB rs w l ss
    | none => false)
  | _ => false
theorem tri {a : Int} (h : -1 ≤ a ∧ a ≤ 1) : a = -1 ∨ a = 0 ∨ a = 1 := by omega
theorem sg_iff (n : Nat) (h1 : 1 ≤ n) (h4 : n ≤ 4) (ss : List Int) (hl : ss.length = n) (hb : ∀ s ∈ ss, -1 ≤ s ∧ s ≤ 1) : (signsL n).contains ss = (!(ss.any fun s => s == 0) && ss.head? == some 1) := by
  have : n = 1 ∨ n = 2 ∨ n = 3 ∨ n = 4 := by omega
  rcases this with rfl | rfl | rfl | rfl
  · match ss, hl with
    | [a], _ =>
      rcases tri (hb a (by simp)) with rfl | rfl | rfl <;> decide
  · match ss, hl with
    | [a, b], _ =>
      rcases tri (hb a (by simp)) with rfl | rfl | rfl <;> rcases tri (hb b (by simp)) with rfl | rfl | rfl <;> decide
  · match ss, hl with
    | [a, b, c], _ =>
      rcases tri (hb a (by simp)) with rfl | rfl | rfl <;> rcases tri (hb b (by simp)) with rfl | rfl | rfl <;> rcases tri (hb c (by simp)) with rfl | rfl | rfl <;> decide
  · match ss, hl with
    | [a, b, c, d], _ =>
      rcases tri (hb a (by simp)) with rfl | rfl | rfl <;> rcases tri (hb b (by simp)) with rfl | rfl | rfl <;> rcases tri (hb c (by simp)) with rfl | rfl | rfl <;> rcases tri (hb d (by simp)) with rfl | rfl | rfl <;> decide
theorem intsOf_map (ss : List Int) : intsOf (ss.map PyData.int) = some ss := by have := ints_any ss id; simpa using this
theorem intsOf_some : ∀ {xs : List PyData} {ss : List Int}, intsOf xs = some ss → xs = ss.map PyData.int
  | [], _, h => by cases h; rfl
  | .int i :: xs, ss, h => by
    unfold intsOf at h
    obtain ⟨ts, h1, rfl⟩ := Option.map_eq_some_iff.mp h
    rw [intsOf_some h1]
    rfl
  | .none :: _, _, h => by cases h
  | .bool _ :: _, _, h => by cases h
  | .str _ :: _, _, h => by cases h
  | .list _ :: _, _, h => by cases h
  | .tuple _ :: _, _, h => by cases h
  | .dict _ :: _, _, h => by cases h
theorem ints_ex : ∀ {xs : List PyData}, (∀ x ∈ xs, isI x = true) → ∃ ss : List Int, xs = ss.map PyData.int
  | [], _ => ⟨[], rfl⟩
  | x :: xs, h => by
    obtain ⟨ss, rfl⟩ := ints_ex fun y hy => h y (List.mem_cons_of_mem _ hy)
    have := h x (List.mem_cons_self ..)
    cases x <;> simp [isI] at this
    rename_i i
    exact ⟨i :: ss, rfl⟩
theorem any_map0 (ss : List Int) : ((ss.map PyData.int).any fun z => PyData.eqv z (.int 0)) = ss.any fun s => s == 0 := by
  rw [List.any_map]
  rfl
theorem flat_ints (ss : List Int) : (ss.map PyData.int).all flatD = true := by
  rw [List.all_eq_true]
  intro x hx
  obtain ⟨i, _, rfl⟩ := List.mem_map.mp hx
  rfl
theorem run_seq {f g : Mo Fl} {e : En} {Q : Fl → En → Prop} : Run (sSeq f g) e Q ↔ Run f e fun fl e1 => match fl with
    | .nx => Run g e1 Q
    | other => Q other e1 := by
  unfold sSeq
  rw [run_bnd]
  constructor
  · exact fun h => h.imp fun fl e1 q => by cases fl <;> first | exact q | exact run_ret.mp q
  · exact fun h => h.imp fun fl e1 q => by cases fl <;> first | exact q | exact run_ret.mpr q
theorem v_is_halving {rs : List (List Int)} {m w : Nat} (T : Tb rs m w) {l : List Nat} (C : Ch l m) (d : PyData) : F_is_halving [tabD rs, natT l, d] = some (.ret (.d (.bool (ihB rs w l d)))) := by
  refine runP_ok ?_
  simp only [m_is_halving, run_seq, List.map_cons, List.map_nil, List.replicate, List.cons_append, List.nil_append]
  cases ht : tupw d l.length l.length with
  | false =>
    have : ihB rs w l d = false := by
      cases d with
      | tuple xs =>
        unfold ihB
        dsimp only
        cases hi : intsOf xs with
        | none => rfl
        | some ss =>
          dsimp only
          cases hc : (signsL l.length).contains ss with
          | false => rfl
          | true =>
            have := (signs_ok _ C.n1 C.n4 ss (by simpa using hc)).1
            rw [intsOf_some hi] at ht
            simp [tupw, this] at ht
      | _ => rfl
    unfold m_is_halving_3 m_is_halving_2
    simp only [natT, ↓u_lift, ↓u_callF, ↓u_callM, ↓u_eC, ↓u_eBin, ↓u_eUn, ↓u_aNil, ↓u_aCons, ↓u_peeks0, ↓u_peeks1, ↓u_freezes0, ↓u_freezes1, ↓u_eTup, ↓u_eLst, ↓u_eCall, ↓u_eFn, ↓u_cV, ↓u_cAnd, ↓u_cOr, ↓u_cNot, ↓u_cYes, ↓u_eIf, ↓u_eAnd, ↓u_eOr, ↓u_sSet, ↓u_sSeq, ↓u_sNx, ↓u_sIf, ↓u_sExpr, ↓u_sRet, ↓u_iSeq, ↓u_iRng, ↓u_iZips, ↓u_sFor, ↓u_eLc, ↓u_eMut, ↓u_eExt, ↓u_eFnM, ↓u_sSets, ↓u_stores0, ↓u_stores1, ↓u_sAsg, ↓u_bSub, ↓run_peek, ↓run_freeze, ↓run_var, ↓run_store, ↓run_bName, ↓run_isOwn, ↓run_extM, ↓run_bnd, ↓run_ret, ↓reduceIte, asRet, asRetM, List.map_cons, List.map_nil, List.replicate, List.cons_append, List.nil_append, List.append_nil, List.getElem?_cons_zero, List.getElem?_cons_succ, List.set_cons_zero, List.set_cons_succ, addF, subF, isi_int, isi_bool, isi_tuple, isi_str, isi_list, lenF, ltF, leF, gtF, geF, cmpF, negF, absF, intF, tupF, lstF, notF, seqOf, List.length_cons, List.length_nil, Nat.zero_add, Nat.reduceAdd, Bool.not_true, Bool.not_false, Bool.false_eq_true, Option.map_some, wipeE, v_is_tuple, List.length_map, ht, this]
  | true =>
    cases d with
    | tuple xs =>
      have hlen : xs.length = l.length := by
        simp [tupw] at ht
        omega
      have h4 := C.n4
      unfold m_is_halving_3 m_is_halving_2
      simp only [natT, ↓u_lift, ↓u_callF, ↓u_callM, ↓u_eC, ↓u_eBin, ↓u_eUn, ↓u_aNil, ↓u_aCons, ↓u_peeks0, ↓u_peeks1, ↓u_freezes0, ↓u_freezes1, ↓u_eTup, ↓u_eLst, ↓u_eCall, ↓u_eFn, ↓u_cV, ↓u_cAnd, ↓u_cOr, ↓u_cNot, ↓u_cYes, ↓u_eIf, ↓u_eAnd, ↓u_eOr, ↓u_sSet, ↓u_sSeq, ↓u_sNx, ↓u_sIf, ↓u_sExpr, ↓u_sRet, ↓u_iSeq, ↓u_iRng, ↓u_iZips, ↓u_sFor, ↓u_eLc, ↓u_eMut, ↓u_eExt, ↓u_eFnM, ↓u_sSets, ↓u_stores0, ↓u_stores1, ↓u_sAsg, ↓u_bSub, ↓run_peek, ↓run_freeze, ↓run_var, ↓run_store, ↓run_bName, ↓run_isOwn, ↓run_extM, ↓run_bnd, ↓run_ret, ↓reduceIte, asRet, asRetM, List.map_cons, List.map_nil, List.replicate, List.cons_append, List.nil_append, List.append_nil, List.getElem?_cons_zero, List.getElem?_cons_succ, List.set_cons_zero, List.set_cons_succ, addF, subF, isi_int, isi_bool, isi_tuple, isi_str, isi_list, lenF, ltF, leF, gtF, geF, cmpF, negF, absF, intF, tupF, lstF, notF, seqOf, List.length_cons, List.length_nil, Nat.zero_add, Nat.reduceAdd, Bool.not_true, Bool.not_false, Bool.false_eq_true, Option.map_some, wipeE, v_is_tuple, List.length_map, ht]
      unfold m_is_halving_1
      simp only [↓u_lift, ↓u_callF, ↓u_callM, ↓u_eC, ↓u_eBin, ↓u_eUn, ↓u_aNil, ↓u_aCons, ↓u_peeks0, ↓u_peeks1, ↓u_freezes0, ↓u_freezes1, ↓u_eTup, ↓u_eLst, ↓u_eCall, ↓u_eFn, ↓u_cV, ↓u_cAnd, ↓u_cOr, ↓u_cNot, ↓u_cYes, ↓u_eIf, ↓u_eAnd, ↓u_eOr, ↓u_sSet, ↓u_sSeq, ↓u_sNx, ↓u_sIf, ↓u_sExpr, ↓u_sRet, ↓u_iSeq, ↓u_iRng, ↓u_iZips, ↓u_sFor, ↓u_eLc, ↓u_eMut, ↓u_eExt, ↓u_eFnM, ↓u_sSets, ↓u_stores0, ↓u_stores1, ↓u_sAsg, ↓u_bSub, ↓run_peek, ↓run_freeze, ↓run_var, ↓run_store, ↓run_bName, ↓run_isOwn, ↓run_extM, ↓run_bnd, ↓run_ret, ↓reduceIte, asRet, asRetM, List.map_cons, List.map_nil, List.replicate, List.cons_append, List.nil_append, List.append_nil, List.getElem?_cons_zero, List.getElem?_cons_succ, List.set_cons_zero, List.set_cons_succ, addF, subF, isi_int, isi_bool, isi_tuple, isi_str, isi_list, lenF, ltF, leF, gtF, geF, cmpF, negF, absF, intF, tupF, lstF, notF, seqOf, List.length_cons, List.length_nil, Nat.zero_add, Nat.reduceAdd, Bool.not_true, Bool.not_false, Bool.false_eq_true, Option.map_some, wipeE]
      rw [if_pos (by omega)]
      refine run_map _ (fun x => .bool (btw x (-1) 1)) rfl (fun x hx => ?_) ?_
      · simp only [↓u_lift, ↓u_callF, ↓u_callM, ↓u_eC, ↓u_eBin, ↓u_eUn, ↓u_aNil, ↓u_aCons, ↓u_peeks0, ↓u_peeks1, ↓u_freezes0, ↓u_freezes1, ↓u_eTup, ↓u_eLst, ↓u_eCall, ↓u_eFn, ↓u_cV, ↓u_cAnd, ↓u_cOr, ↓u_cNot, ↓u_cYes, ↓u_eIf, ↓u_eAnd, ↓u_eOr, ↓u_sSet, ↓u_sSeq, ↓u_sNx, ↓u_sIf, ↓u_sExpr, ↓u_sRet, ↓u_iSeq, ↓u_iRng, ↓u_iZips, ↓u_sFor, ↓u_eLc, ↓u_eMut, ↓u_eExt, ↓u_eFnM, ↓u_sSets, ↓u_stores0, ↓u_stores1, ↓u_sAsg, ↓u_bSub, ↓run_peek, ↓run_freeze, ↓run_var, ↓run_store, ↓run_bName, ↓run_isOwn, ↓run_extM, ↓run_bnd, ↓run_ret, ↓reduceIte, asRet, asRetM, List.map_cons, List.map_nil, List.replicate, List.cons_append, List.nil_append, List.append_nil, List.getElem?_cons_zero, List.getElem?_cons_succ, List.set_cons_zero, List.set_cons_succ, addF, subF, isi_int, isi_bool, isi_tuple, isi_str, isi_list, lenF, ltF, leF, gtF, geF, cmpF, negF, absF, intF, tupF, lstF, notF, seqOf, List.length_cons, List.length_nil, Nat.zero_add, Nat.reduceAdd, Bool.not_true, Bool.not_false, Bool.false_eq_true, Option.map_some, wipeE, v_is_between, and_self]
      · simp only [↓u_lift, ↓u_callF, ↓u_callM, ↓u_eC, ↓u_eBin, ↓u_eUn, ↓u_aNil, ↓u_aCons, ↓u_peeks0, ↓u_peeks1, ↓u_freezes0, ↓u_freezes1, ↓u_eTup, ↓u_eLst, ↓u_eCall, ↓u_eFn, ↓u_cV, ↓u_cAnd, ↓u_cOr, ↓u_cNot, ↓u_cYes, ↓u_eIf, ↓u_eAnd, ↓u_eOr, ↓u_sSet, ↓u_sSeq, ↓u_sNx, ↓u_sIf, ↓u_sExpr, ↓u_sRet, ↓u_iSeq, ↓u_iRng, ↓u_iZips, ↓u_sFor, ↓u_eLc, ↓u_eMut, ↓u_eExt, ↓u_eFnM, ↓u_sSets, ↓u_stores0, ↓u_stores1, ↓u_sAsg, ↓u_bSub, ↓run_peek, ↓run_freeze, ↓run_var, ↓run_store, ↓run_bName, ↓run_isOwn, ↓run_extM, ↓run_bnd, ↓run_ret, ↓reduceIte, asRet, asRetM, List.map_cons, List.map_nil, List.replicate, List.cons_append, List.nil_append, List.append_nil, List.getElem?_cons_zero, List.getElem?_cons_succ, List.set_cons_zero, List.set_cons_succ, addF, subF, isi_int, isi_bool, isi_tuple, isi_str, isi_list, lenF, ltF, leF, gtF, geF, cmpF, negF, absF, intF, tupF, lstF, notF, seqOf, List.length_cons, List.length_nil, Nat.zero_add, Nat.reduceAdd, Bool.not_true, Bool.not_false, Bool.false_eq_true, Option.map_some, wipeE, allF, bools_map]
        have hid : ∀ bs : List Bool, bs.all id = bs.all fun b => b := fun bs => rfl
        rw [List.all_map]
        cases hb : xs.all (id ∘ fun x => btw x (-1) 1) with
        | false =>
          have : ihB rs w l (.tuple xs) = false := by
            unfold ihB
            dsimp only
            cases hi : intsOf xs with
            | none => rfl
            | some ss =>
              dsimp only
              cases hc : (signsL l.length).contains ss with
              | false => rfl
              | true =>
                have hs := (signs_ok _ C.n1 C.n4 ss (by simpa using hc)).2
                rw [intsOf_some hi, List.all_map] at hb
                rw [List.all_eq_false] at hb
                obtain ⟨s, hs1, hs2⟩ := hb
                rcases hs s hs1 with rfl | rfl <;> simp [btw] at hs2
          simp only [↓u_lift, ↓u_callF, ↓u_callM, ↓u_eC, ↓u_eBin, ↓u_eUn, ↓u_aNil, ↓u_aCons, ↓u_peeks0, ↓u_peeks1, ↓u_freezes0, ↓u_freezes1, ↓u_eTup, ↓u_eLst, ↓u_eCall, ↓u_eFn, ↓u_cV, ↓u_cAnd, ↓u_cOr, ↓u_cNot, ↓u_cYes, ↓u_eIf, ↓u_eAnd, ↓u_eOr, ↓u_sSet, ↓u_sSeq, ↓u_sNx, ↓u_sIf, ↓u_sExpr, ↓u_sRet, ↓u_iSeq, ↓u_iRng, ↓u_iZips, ↓u_sFor, ↓u_eLc, ↓u_eMut, ↓u_eExt, ↓u_eFnM, ↓u_sSets, ↓u_stores0, ↓u_stores1, ↓u_sAsg, ↓u_bSub, ↓run_peek, ↓run_freeze, ↓run_var, ↓run_store, ↓run_bName, ↓run_isOwn, ↓run_extM, ↓run_bnd, ↓run_ret, ↓reduceIte, asRet, asRetM, List.map_cons, List.map_nil, List.replicate, List.cons_append, List.nil_append, List.append_nil, List.getElem?_cons_zero, List.getElem?_cons_succ, List.set_cons_zero, List.set_cons_succ, addF, subF, isi_int, isi_bool, isi_tuple, isi_str, isi_list, lenF, ltF, leF, gtF, geF, cmpF, negF, absF, intF, tupF, lstF, notF, seqOf, List.length_cons, List.length_nil, Nat.zero_add, Nat.reduceAdd, Bool.not_true, Bool.not_false, Bool.false_eq_true, Option.map_some, wipeE, this]
        | true =>
          have hb' : ∀ x ∈ xs, btw x (-1) 1 = true := List.all_eq_true.mp hb
          obtain ⟨ss, rfl⟩ := ints_ex fun x hx => by
            have := hb' x hx
            cases x <;> simp [btw] at this
            rfl
          have hs : ∀ s ∈ ss, -1 ≤ s ∧ s ≤ 1 := fun s h => by
            have := hb' (.int s) (List.mem_map.mpr ⟨s, h, rfl⟩)
            simpa [btw] using this
          have hsl : ss.length = l.length := by simpa using hlen
          have eh : F_halves [tabD rs, .tuple (l.map fun (i : Nat) => PyData.int (i : Int)), .tuple (ss.map PyData.int)] = some (.ret (.d (.bool (hvB rs w l ss)))) := v_halves T C.lt (by omega) fun s h => by have := hs s h; omega
          have he : ihB rs w l (.tuple (ss.map PyData.int)) = (!(ss.any fun s => s == 0) && ss.head? == some 1 && hvB rs w l ss) := by
            unfold ihB
            dsimp only
            rw [intsOf_map]
            dsimp only
            rw [sg_iff _ C.n1 C.n4 ss hsl hs]
          rw [he]
          unfold m_is_halving_4
          simp only [↓u_lift, ↓u_callF, ↓u_callM, ↓u_eC, ↓u_eBin, ↓u_eUn, ↓u_aNil, ↓u_aCons, ↓u_peeks0, ↓u_peeks1, ↓u_freezes0, ↓u_freezes1, ↓u_eTup, ↓u_eLst, ↓u_eCall, ↓u_eFn, ↓u_cV, ↓u_cAnd, ↓u_cOr, ↓u_cNot, ↓u_cYes, ↓u_eIf, ↓u_eAnd, ↓u_eOr, ↓u_sSet, ↓u_sSeq, ↓u_sNx, ↓u_sIf, ↓u_sExpr, ↓u_sRet, ↓u_iSeq, ↓u_iRng, ↓u_iZips, ↓u_sFor, ↓u_eLc, ↓u_eMut, ↓u_eExt, ↓u_eFnM, ↓u_sSets, ↓u_stores0, ↓u_stores1, ↓u_sAsg, ↓u_bSub, ↓run_peek, ↓run_freeze, ↓run_var, ↓run_store, ↓run_bName, ↓run_isOwn, ↓run_extM, ↓run_bnd, ↓run_ret, ↓reduceIte, asRet, asRetM, List.map_cons, List.map_nil, List.replicate, List.cons_append, List.nil_append, List.append_nil, List.getElem?_cons_zero, List.getElem?_cons_succ, List.set_cons_zero, List.set_cons_succ, addF, subF, isi_int, isi_bool, isi_tuple, isi_str, isi_list, lenF, ltF, leF, gtF, geF, cmpF, negF, absF, intF, tupF, lstF, notF, seqOf, List.length_cons, List.length_nil, Nat.zero_add, Nat.reduceAdd, Bool.not_true, Bool.not_false, Bool.false_eq_true, Option.map_some, wipeE, ninF, flatD, flat_ints, Bool.true_and, any_map0]
          cases ss with
          | nil => have := C.n1; simp at hsl; omega
          | cons a as =>
            cases hz : (a :: as).any fun s => s == 0 with
            | true => simp
            | false =>
              have hat : ixF (.tuple ((a :: as).map PyData.int)) (.int 0) = some (.d (.int a)) := by simp [ixF, atI, ixN]
              simp only [List.map_cons] at hat eh
              simp only [↓u_lift, ↓u_callF, ↓u_callM, ↓u_eC, ↓u_eBin, ↓u_eUn, ↓u_aNil, ↓u_aCons, ↓u_peeks0, ↓u_peeks1, ↓u_freezes0, ↓u_freezes1, ↓u_eTup, ↓u_eLst, ↓u_eCall, ↓u_eFn, ↓u_cV, ↓u_cAnd, ↓u_cOr, ↓u_cNot, ↓u_cYes, ↓u_eIf, ↓u_eAnd, ↓u_eOr, ↓u_sSet, ↓u_sSeq, ↓u_sNx, ↓u_sIf, ↓u_sExpr, ↓u_sRet, ↓u_iSeq, ↓u_iRng, ↓u_iZips, ↓u_sFor, ↓u_eLc, ↓u_eMut, ↓u_eExt, ↓u_eFnM, ↓u_sSets, ↓u_stores0, ↓u_stores1, ↓u_sAsg, ↓u_bSub, ↓run_peek, ↓run_freeze, ↓run_var, ↓run_store, ↓run_bName, ↓run_isOwn, ↓run_extM, ↓run_bnd, ↓run_ret, ↓reduceIte, asRet, asRetM, List.map_cons, List.map_nil, List.replicate, List.cons_append, List.nil_append, List.append_nil, List.getElem?_cons_zero, List.getElem?_cons_succ, List.set_cons_zero, List.set_cons_succ, addF, subF, isi_int, isi_bool, isi_tuple, isi_str, isi_list, lenF, ltF, leF, gtF, geF, cmpF, negF, absF, intF, tupF, lstF, notF, seqOf, List.length_cons, List.length_nil, Nat.zero_add, Nat.reduceAdd, Bool.not_true, Bool.not_false, Bool.false_eq_true, Option.map_some, wipeE, hat, eqF, shaped_int, eqv_int, Bool.true_and, eh]
              by_cases ha : a = 1
              · subst ha
                simp
              · have : (a == 1) = false := by simpa using ha
                simp [this]
    | _ => cases ht
end L2.K72

namespace L2.K72
open PySem PySem.Spec PyProof.Rows L2.DL
theorem lay_inv : ∀ {n : Nat} {xs : List PyData}, PyData.canLayAll0 xs = true → PyData.depthAll xs ≤ n → ∀ x ∈ xs, lay n x = true
  | _, [], _, _, _, h => by cases h
  | n, y :: ys, h1, h2, x, h => by
    unfold PyData.canLayAll0 at h1
    unfold PyData.depthAll at h2
    rw [Bool.and_eq_true] at h1
    rcases List.mem_cons.mp h with rfl | h
    · unfold lay
      rw [h1.1]
      simp
      omega
    · exact lay_inv h1.2 (by omega) x h
theorem lay_tup {n : Nat} {xs : List PyData} (h : lay n (.tuple xs) = true) : ∀ x ∈ xs, lay n x = true := by
  unfold lay PyData.canLay0 PyData.depth at h
  rw [Bool.and_eq_true] at h
  have := of_decide_eq_true h.2
  exact lay_inv h.1 (by omega)
theorem eqvAll_ints : ∀ (a b : List Int), PyData.eqvAll (a.map PyData.int) (b.map PyData.int) = (a == b)
  | [], [] => rfl
  | [], _ :: _ => rfl
  | _ :: _, [] => rfl
  | x :: a, y :: b => by
    show (PyData.eqv (.int x) (.int y) && PyData.eqvAll (a.map PyData.int) (b.map PyData.int)) = _
    rw [eqvAll_ints a b]
    rfl
theorem eqv_rows (a b : List Int) : PyData.eqv (rowD a) (rowD b) = (a == b) := eqvAll_ints a b
theorem in_rows (L : List (List Int)) (ss : List Int) : inF (rowD ss) (.list (L.map rowD)) = some (.d (.bool (L.contains ss))) := by
  have h1 : SeqAt.shaped (rowD ss) = true := lay_shaped (lay_row ss) (by omega)
  have h2 : SeqAt.shaped (.list (L.map rowD)) = true := lay_shaped (lay_list fun x hx => by obtain ⟨r, _, rfl⟩ := List.mem_map.mp hx; exact lay_row r) (by omega)
  show (if SeqAt.shaped (rowD ss) && SeqAt.shaped (.list (L.map rowD)) then _ else _) = _
  rw [h1, h2]
  simp only [Bool.and_self, if_true]
  congr 4
  rw [List.any_map]
  rw [List.contains_eq_any_beq]
  congr 1
  funext t
  show PyData.eqv (rowD t) (rowD ss) = _
  rw [eqv_rows]
  exact Bool.eq_iff_iff.mpr ⟨fun h => by simpa using (by simpa using h : t = ss).symm, fun h => by simpa using (by simpa using h : ss = t).symm⟩
end L2.K72

namespace L2.K72
open PySem PySem.Spec PyProof.Rows L2.DL
/-! ### the pool -/
structure Pl (xs : List PyData) : Prop where
  ex : ∃ zs : List Int, xs = zs.map PyData.int ∧ zs.length < 100000
theorem lay_ints (zs : List Int) : SeqAt.shaped (.list (zs.map PyData.int)) = true := lay_shaped (n := 1) (lay_list (n := 0) fun x hx => by obtain ⟨i, _, rfl⟩ := List.mem_map.mp hx; rfl) (by omega)
theorem v_take {xs : List PyData} (h : Pl xs) (k : Nat) (hk : 1 ≤ k) : ∃ r : Nat, r < k ∧ ∃ ys, Pl ys ∧ F__law_take xs [.int (k : Int)] = some (.int (r : Int), ys) := by
  obtain ⟨zs, rfl, hz⟩ := h.ex
  cases zs with
  | nil =>
    refine ⟨0, by omega, [], ⟨⟨[], rfl, by simp⟩⟩, runM_ok ?_⟩
    unfold m__law_take m__law_take_2 m__law_take_1
    simp only [↓u_lift, ↓u_callF, ↓u_callM, ↓u_eC, ↓u_eBin, ↓u_eUn, ↓u_aNil, ↓u_aCons, ↓u_peeks0, ↓u_peeks1, ↓u_freezes0, ↓u_freezes1, ↓u_eTup, ↓u_eLst, ↓u_eCall, ↓u_eFn, ↓u_cV, ↓u_cAnd, ↓u_cOr, ↓u_cNot, ↓u_cYes, ↓u_eIf, ↓u_eAnd, ↓u_eOr, ↓u_sSet, ↓u_sSeq, ↓u_sNx, ↓u_sIf, ↓u_sExpr, ↓u_sRet, ↓u_iSeq, ↓u_iRng, ↓u_iZips, ↓u_sFor, ↓u_eLc, ↓u_eMut, ↓u_eExt, ↓u_eFnM, ↓u_sSets, ↓u_stores0, ↓u_stores1, ↓u_sAsg, ↓u_bSub, ↓run_peek, ↓run_freeze, ↓run_var, ↓run_store, ↓run_bName, ↓run_isOwn, ↓run_extM, ↓run_bnd, ↓run_ret, ↓reduceIte, asRet, asRetM, List.map_cons, List.map_nil, List.replicate, List.cons_append, List.nil_append, List.append_nil, List.getElem?_cons_zero, List.getElem?_cons_succ, List.set_cons_zero, List.set_cons_succ, addF, subF, isi_int, isi_bool, isi_tuple, isi_str, isi_list, lenF, ltF, leF, gtF, geF, cmpF, negF, absF, intF, tupF, lstF, notF, seqOf, List.length_cons, List.length_nil, Nat.zero_add, Nat.reduceAdd, Bool.not_true, Bool.not_false, Bool.false_eq_true, Option.map_some, wipeE, eqF, sh_nil, eqv_list_nil, Bool.and_self, Nat.zero_le, List.isEmpty_nil]
    rfl
  | cons z zs =>
    have hl := lay_ints (z :: zs)
    obtain ⟨y, hy⟩ : ∃ y, (z :: zs)[zs.length]? = some y := ⟨(z :: zs)[zs.length], List.getElem?_eq_getElem (by simp)⟩
    have hk0 : (0 : Int) < (k : Int) := by omega
    have hm0 := Int.fmod_nonneg_of_pos y hk0
    have hm1 := Int.fmod_lt_of_pos y hk0
    refine ⟨(y.fmod k).toNat, by omega, ((z :: zs).dropLast).map PyData.int, ⟨⟨_, rfl, by simp at hz ⊢; omega⟩⟩, runM_ok ?_⟩
    have hp : ((z :: zs).map PyData.int)[((z :: zs).map PyData.int).length - 1]? = some (.int y) := by
      rw [List.getElem?_map, List.length_map, List.length_cons, Nat.add_sub_cancel, hy]
      rfl
    have ep : popF ((z :: zs).map PyData.int) [] = some (.int y, ((z :: zs).map PyData.int).dropLast) := by
      unfold popF
      simp only [hp]
    unfold m__law_take m__law_take_2
    simp only [List.map_cons] at hl ep
    simp only [↓u_lift, ↓u_callF, ↓u_callM, ↓u_eC, ↓u_eBin, ↓u_eUn, ↓u_aNil, ↓u_aCons, ↓u_peeks0, ↓u_peeks1, ↓u_freezes0, ↓u_freezes1, ↓u_eTup, ↓u_eLst, ↓u_eCall, ↓u_eFn, ↓u_cV, ↓u_cAnd, ↓u_cOr, ↓u_cNot, ↓u_cYes, ↓u_eIf, ↓u_eAnd, ↓u_eOr, ↓u_sSet, ↓u_sSeq, ↓u_sNx, ↓u_sIf, ↓u_sExpr, ↓u_sRet, ↓u_iSeq, ↓u_iRng, ↓u_iZips, ↓u_sFor, ↓u_eLc, ↓u_eMut, ↓u_eExt, ↓u_eFnM, ↓u_sSets, ↓u_stores0, ↓u_stores1, ↓u_sAsg, ↓u_bSub, ↓run_peek, ↓run_freeze, ↓run_var, ↓run_store, ↓run_bName, ↓run_isOwn, ↓run_extM, ↓run_bnd, ↓run_ret, ↓reduceIte, asRet, asRetM, List.map_cons, List.map_nil, List.replicate, List.cons_append, List.nil_append, List.append_nil, List.getElem?_cons_zero, List.getElem?_cons_succ, List.set_cons_zero, List.set_cons_succ, addF, subF, isi_int, isi_bool, isi_tuple, isi_str, isi_list, lenF, ltF, leF, gtF, geF, cmpF, negF, absF, intF, tupF, lstF, notF, seqOf, List.length_cons, List.length_nil, Nat.zero_add, Nat.reduceAdd, Bool.not_true, Bool.not_false, Bool.false_eq_true, Option.map_some, wipeE, eqF, sh_nil, eqv_list_nil, hl, Bool.and_self, Nat.zero_le, List.isEmpty_cons]
    unfold m__law_take_3
    have hd : decide ((k : Int) ≠ 0) = true := decide_eq_true (by omega)
    simp only [↓u_lift, ↓u_callF, ↓u_callM, ↓u_eC, ↓u_eBin, ↓u_eUn, ↓u_aNil, ↓u_aCons, ↓u_peeks0, ↓u_peeks1, ↓u_freezes0, ↓u_freezes1, ↓u_eTup, ↓u_eLst, ↓u_eCall, ↓u_eFn, ↓u_cV, ↓u_cAnd, ↓u_cOr, ↓u_cNot, ↓u_cYes, ↓u_eIf, ↓u_eAnd, ↓u_eOr, ↓u_sSet, ↓u_sSeq, ↓u_sNx, ↓u_sIf, ↓u_sExpr, ↓u_sRet, ↓u_iSeq, ↓u_iRng, ↓u_iZips, ↓u_sFor, ↓u_eLc, ↓u_eMut, ↓u_eExt, ↓u_eFnM, ↓u_sSets, ↓u_stores0, ↓u_stores1, ↓u_sAsg, ↓u_bSub, ↓run_peek, ↓run_freeze, ↓run_var, ↓run_store, ↓run_bName, ↓run_isOwn, ↓run_extM, ↓run_bnd, ↓run_ret, ↓reduceIte, asRet, asRetM, List.map_cons, List.map_nil, List.replicate, List.cons_append, List.nil_append, List.append_nil, List.getElem?_cons_zero, List.getElem?_cons_succ, List.set_cons_zero, List.set_cons_succ, addF, subF, isi_int, isi_bool, isi_tuple, isi_str, isi_list, lenF, ltF, leF, gtF, geF, cmpF, negF, absF, intF, tupF, lstF, notF, seqOf, List.length_cons, List.length_nil, Nat.zero_add, Nat.reduceAdd, Bool.not_true, Bool.not_false, Bool.false_eq_true, Option.map_some, wipeE, ep, modF, hd]
    rw [Int.toNat_of_nonneg hm0]
    simp [List.map_dropLast]
end L2.K72

namespace L2.K72
open PySem PySem.Spec PyProof.Rows L2.DL
/-- the state between the turns -/
def PSt (sc : PyData) (L : Nat) (e : En) : Prop := ∃ (zs : List Int) (seed : Int) (x4 x5 x6 : Md), e = [.d sc, .d (.int 300), .own (zs.map PyData.int), .d (.int seed), x4, x5, x6] ∧ zs.length ≤ L ∧ 0 ≤ seed ∧ seed < 2147483647
theorem app_ok (zs : List Int) (z : Int) (h : zs.length < 100000) : appendF (zs.map PyData.int) [.int z] = some (.none, (zs ++ [z]).map PyData.int) := by
  unfold appendF
  simp only [List.length_map]
  rw [if_pos (by omega)]
  simp
theorem small_seed {i : Int} (h0 : 0 ≤ i) (h1 : i < 2 ^ 40) : smallI i = true := by
  unfold smallI
  simp
  omega
theorem pool_inner {sc : PyData} {L : Nat} (hL : L < 50000) {e : En} (zs : List Int) (seed left : Int) (x4 x5 : Md) (he : e = [.d sc, .d (.int 300), .own (zs.map PyData.int), .d (.int seed), x4, x5, .d (.int left)]) (hz : zs.length ≤ L) (h0 : 0 ≤ seed) (h1 : seed < 2147483647) :
    Run m__law_pool_8 e fun fl e' => fl = .nx ∧ PSt sc (L + 60) e' := by
  subst he
  unfold m__law_pool_8
  simp only [↓u_lift, ↓u_callF, ↓u_callM, ↓u_eC, ↓u_eBin, ↓u_eUn, ↓u_aNil, ↓u_aCons, ↓u_peeks0, ↓u_peeks1, ↓u_freezes0, ↓u_freezes1, ↓u_eTup, ↓u_eLst, ↓u_eCall, ↓u_eFn, ↓u_cV, ↓u_cAnd, ↓u_cOr, ↓u_cNot, ↓u_cYes, ↓u_eIf, ↓u_eAnd, ↓u_eOr, ↓u_sSet, ↓u_sSeq, ↓u_sNx, ↓u_sIf, ↓u_sExpr, ↓u_sRet, ↓u_iSeq, ↓u_iRng, ↓u_iZips, ↓u_sFor, ↓u_eLc, ↓u_eMut, ↓u_eExt, ↓u_eFnM, ↓u_sSets, ↓u_stores0, ↓u_stores1, ↓u_sAsg, ↓u_bSub, ↓run_peek, ↓run_freeze, ↓run_var, ↓run_store, ↓run_bName, ↓run_isOwn, ↓run_extM, ↓run_bnd, ↓run_ret, ↓reduceIte, asRet, asRetM, List.map_cons, List.map_nil, List.replicate, List.cons_append, List.nil_append, List.append_nil, List.getElem?_cons_zero, List.getElem?_cons_succ, List.set_cons_zero, List.set_cons_succ, addF, subF, isi_int, isi_bool, isi_tuple, isi_str, isi_list, lenF, ltF, leF, gtF, geF, cmpF, negF, absF, intF, tupF, lstF, notF, seqOf, List.length_cons, List.length_nil, Nat.zero_add, Nat.reduceAdd, Bool.not_true, Bool.not_false, Bool.false_eq_true, Option.map_some, wipeE, rng1]
  rw [show (if -(2 ^ 62) ≤ (60 : Int) ∧ (60 : Int) < 2 ^ 62 then some ((List.range (60 : Int).toNat).map fun (i : Nat) => PyData.int (0 + i)) else none) = some ((List.range 60).map fun (i : Nat) => PyData.int (0 + i)) from rfl]
  simp only []
  refine run_for _ (fun i e => ∃ (zs : List Int) (left : Int) (x5 : Md), e = [.d sc, .d (.int 300), .own (zs.map PyData.int), .d (.int seed), x4, x5, .d (.int left)] ∧ zs.length ≤ L + i) ⟨zs, left, x5, rfl, by omega⟩ ?_ ?_
  · rintro i x e hx ⟨zs, left, x5, rfl, hz⟩
    have hi : i < 60 := by have := (List.getElem?_eq_some_iff.mp hx).1; simpa using this
    unfold m__law_pool_7
    simp only [↓u_lift, ↓u_callF, ↓u_callM, ↓u_eC, ↓u_eBin, ↓u_eUn, ↓u_aNil, ↓u_aCons, ↓u_peeks0, ↓u_peeks1, ↓u_freezes0, ↓u_freezes1, ↓u_eTup, ↓u_eLst, ↓u_eCall, ↓u_eFn, ↓u_cV, ↓u_cAnd, ↓u_cOr, ↓u_cNot, ↓u_cYes, ↓u_eIf, ↓u_eAnd, ↓u_eOr, ↓u_sSet, ↓u_sSeq, ↓u_sNx, ↓u_sIf, ↓u_sExpr, ↓u_sRet, ↓u_iSeq, ↓u_iRng, ↓u_iZips, ↓u_sFor, ↓u_eLc, ↓u_eMut, ↓u_eExt, ↓u_eFnM, ↓u_sSets, ↓u_stores0, ↓u_stores1, ↓u_sAsg, ↓u_bSub, ↓run_peek, ↓run_freeze, ↓run_var, ↓run_store, ↓run_bName, ↓run_isOwn, ↓run_extM, ↓run_bnd, ↓run_ret, ↓reduceIte, asRet, asRetM, List.map_cons, List.map_nil, List.replicate, List.cons_append, List.nil_append, List.append_nil, List.getElem?_cons_zero, List.getElem?_cons_succ, List.set_cons_zero, List.set_cons_succ, addF, subF, isi_int, isi_bool, isi_tuple, isi_str, isi_list, lenF, ltF, leF, gtF, geF, cmpF, negF, absF, intF, tupF, lstF, notF, seqOf, List.length_cons, List.length_nil, Nat.zero_add, Nat.reduceAdd, Bool.not_true, Bool.not_false, Bool.false_eq_true, Option.map_some, wipeE]
    cases hd : decide (0 < left) with
    | false => exact ⟨zs, left, _, rfl, by omega⟩
    | true =>
      unfold m__law_pool_5 m__law_pool_6
      have hz2 : zs.length < 100000 := by omega
      have ea := app_ok zs (left.fmod 1000) hz2
      have em : modF (.int left) (.int 1000) = some (.d (.int (left.fmod 1000))) := rfl
      have ef : fdivF (.int left) (.int 1000) = some (.d (.int (left.fdiv 1000))) := rfl
      simp only [↓u_lift, ↓u_callF, ↓u_callM, ↓u_eC, ↓u_eBin, ↓u_eUn, ↓u_aNil, ↓u_aCons, ↓u_peeks0, ↓u_peeks1, ↓u_freezes0, ↓u_freezes1, ↓u_eTup, ↓u_eLst, ↓u_eCall, ↓u_eFn, ↓u_cV, ↓u_cAnd, ↓u_cOr, ↓u_cNot, ↓u_cYes, ↓u_eIf, ↓u_eAnd, ↓u_eOr, ↓u_sSet, ↓u_sSeq, ↓u_sNx, ↓u_sIf, ↓u_sExpr, ↓u_sRet, ↓u_iSeq, ↓u_iRng, ↓u_iZips, ↓u_sFor, ↓u_eLc, ↓u_eMut, ↓u_eExt, ↓u_eFnM, ↓u_sSets, ↓u_stores0, ↓u_stores1, ↓u_sAsg, ↓u_bSub, ↓run_peek, ↓run_freeze, ↓run_var, ↓run_store, ↓run_bName, ↓run_isOwn, ↓run_extM, ↓run_bnd, ↓run_ret, ↓reduceIte, asRet, asRetM, List.map_cons, List.map_nil, List.replicate, List.cons_append, List.nil_append, List.append_nil, List.getElem?_cons_zero, List.getElem?_cons_succ, List.set_cons_zero, List.set_cons_succ, addF, subF, isi_int, isi_bool, isi_tuple, isi_str, isi_list, lenF, ltF, leF, gtF, geF, cmpF, negF, absF, intF, tupF, lstF, notF, seqOf, List.length_cons, List.length_nil, Nat.zero_add, Nat.reduceAdd, Bool.not_true, Bool.not_false, Bool.false_eq_true, Option.map_some, wipeE, em, ef, ea]
      exact ⟨_, _, _, rfl, by simp; omega⟩
  · rintro e ⟨zs, left, x5, rfl, hz⟩
    have : ((List.range 60).map fun (i : Nat) => PyData.int (0 + i)).length = 60 := by simp
    rw [this] at hz
    exact ⟨rfl, zs, seed, _, _, _, rfl, hz, h0, h1⟩
end L2.K72

namespace L2.K72
open PySem PySem.Spec PyProof.Rows L2.DL
theorem mod_ok (a b : Int) (hb : b ≠ 0) : modF (.int a) (.int b) = some (.d (.int (a.fmod b))) := by
  show (if decide (b ≠ 0) = true then some (Vl.d (.int (a.fmod b))) else none) = _
  rw [if_pos (by simpa using hb)]
theorem pool_turn {sc : PyData} {L : Nat} (hL : L < 50000) {e : En} (h : PSt sc L e) (c : Int) :
    Run (sSeq m__law_pool_3 (sSeq m__law_pool_4 m__law_pool_9)) (e.set 4 (.d (.int c))) fun fl e' => fl = .nx ∧ PSt sc (L + 60) e' := by
  obtain ⟨zs, seed, x4, x5, x6, rfl, hz, h0, h1⟩ := h
  unfold m__law_pool_3 m__law_pool_4 m__law_pool_9
  have e1 := mod_ok (if c < 0 then -c else c) 2147483629 (by decide)
  have e2 : mulF (.int seed) (.int 48271) = some (.d (.int (seed * 48271))) := by
    show (if (smallI seed || smallI 48271) = true then some (Vl.d (.int (seed * 48271))) else none) = _
    rw [if_pos (by rw [small_seed h0 (by omega)]; rfl)]
  have e3 : mulF (.int 7) (.int ((zs.map PyData.int).length : Nat)) = some (.d (.int (7 * ((zs.map PyData.int).length : Nat)))) := rfl
  have e4 := mod_ok (seed * 48271 + (if c < 0 then -c else c).fmod 2147483629 + 7 * ((zs.map PyData.int).length : Nat) + (if decide (c < 0) = true then 1 else 0)) 2147483647 (by decide)
  have e5 : powF (.int 10) (.int 18) = some (.d (.int 1000000000000000000)) := rfl
  simp only [↓u_lift, ↓u_callF, ↓u_callM, ↓u_eC, ↓u_eBin, ↓u_eUn, ↓u_aNil, ↓u_aCons, ↓u_peeks0, ↓u_peeks1, ↓u_freezes0, ↓u_freezes1, ↓u_eTup, ↓u_eLst, ↓u_eCall, ↓u_eFn, ↓u_cV, ↓u_cAnd, ↓u_cOr, ↓u_cNot, ↓u_cYes, ↓u_eIf, ↓u_eAnd, ↓u_eOr, ↓u_sSet, ↓u_sSeq, ↓u_sNx, ↓u_sIf, ↓u_sExpr, ↓u_sRet, ↓u_iSeq, ↓u_iRng, ↓u_iZips, ↓u_sFor, ↓u_eLc, ↓u_eMut, ↓u_eExt, ↓u_eFnM, ↓u_sSets, ↓u_stores0, ↓u_stores1, ↓u_sAsg, ↓u_bSub, ↓run_peek, ↓run_freeze, ↓run_var, ↓run_store, ↓run_bName, ↓run_isOwn, ↓run_extM, ↓run_bnd, ↓run_ret, ↓reduceIte, asRet, asRetM, List.map_cons, List.map_nil, List.replicate, List.cons_append, List.nil_append, List.append_nil, List.getElem?_cons_zero, List.getElem?_cons_succ, List.set_cons_zero, List.set_cons_succ, addF, subF, isi_int, isi_bool, isi_tuple, isi_str, isi_list, lenF, ltF, leF, gtF, geF, cmpF, negF, absF, intF, tupF, lstF, notF, seqOf, List.length_cons, List.length_nil, Nat.zero_add, Nat.reduceAdd, Bool.not_true, Bool.not_false, Bool.false_eq_true, Option.map_some, wipeE, e1, e2, e3, e4, e5]
  have s0 := Int.fmod_nonneg_of_pos (seed * 48271 + (if c < 0 then -c else c).fmod 2147483629 + 7 * ((zs.map PyData.int).length : Nat) + (if decide (c < 0) = true then 1 else 0)) (by decide : (0 : Int) < 2147483647)
  have s1 := Int.fmod_lt_of_pos (seed * 48271 + (if c < 0 then -c else c).fmod 2147483629 + 7 * ((zs.map PyData.int).length : Nat) + (if decide (c < 0) = true then 1 else 0)) (by decide : (0 : Int) < 2147483647)
  generalize (if c < 0 then -c else c) = ab at s0 s1 ⊢
  by_cases hd : decide (1000000000000000000 ≤ ab) = true
  · rw [if_pos hd]
    exact (pool_inner hL zs _ _ _ _ rfl hz s0 s1).imp fun fl e' q => q
  · rw [if_neg hd]
    exact ⟨trivial, zs, _, _, _, _, rfl, by omega, s0, s1⟩
end L2.K72

namespace L2.K72
open PySem PySem.Spec PyProof.Rows L2.DL
theorem cut_63 (ns : List Int) (h : ns.length ≤ 63) : slF (.list (ns.map PyData.int)) none (some 63) = some (.fr (ns.map PyData.int)) := by
  show some (Vl.fr (cutG (ns.map PyData.int) none (some ((63 : Nat) : Int)))) = _
  rw [cut_to, List.take_of_length_le (by simpa using h)]
theorem pool_loop1 (ns : List Int) (hn : ns.length ≤ 63) (seed : Int) (h0 : 0 ≤ seed) (h1 : seed < 2147483647) :
    Run m__law_pool_10 [.d (.list (ns.map PyData.int)), .d (.int 300), .own [], .d (.int seed), .un, .un, .un] fun fl e' => fl = .nx ∧ PSt (.list (ns.map PyData.int)) 3780 e' := by
  unfold m__law_pool_10
  have es := cut_63 ns hn
  simp only [↓u_lift, ↓u_callF, ↓u_callM, ↓u_eC, ↓u_eBin, ↓u_eUn, ↓u_aNil, ↓u_aCons, ↓u_peeks0, ↓u_peeks1, ↓u_freezes0, ↓u_freezes1, ↓u_eTup, ↓u_eLst, ↓u_eCall, ↓u_eFn, ↓u_cV, ↓u_cAnd, ↓u_cOr, ↓u_cNot, ↓u_cYes, ↓u_eIf, ↓u_eAnd, ↓u_eOr, ↓u_sSet, ↓u_sSeq, ↓u_sNx, ↓u_sIf, ↓u_sExpr, ↓u_sRet, ↓u_iSeq, ↓u_iRng, ↓u_iZips, ↓u_sFor, ↓u_eLc, ↓u_eMut, ↓u_eExt, ↓u_eFnM, ↓u_sSets, ↓u_stores0, ↓u_stores1, ↓u_sAsg, ↓u_bSub, ↓run_peek, ↓run_freeze, ↓run_var, ↓run_store, ↓run_bName, ↓run_isOwn, ↓run_extM, ↓run_bnd, ↓run_ret, ↓reduceIte, asRet, asRetM, List.map_cons, List.map_nil, List.replicate, List.cons_append, List.nil_append, List.append_nil, List.getElem?_cons_zero, List.getElem?_cons_succ, List.set_cons_zero, List.set_cons_succ, addF, subF, isi_int, isi_bool, isi_tuple, isi_str, isi_list, lenF, ltF, leF, gtF, geF, cmpF, negF, absF, intF, tupF, lstF, notF, seqOf, List.length_cons, List.length_nil, Nat.zero_add, Nat.reduceAdd, Bool.not_true, Bool.not_false, Bool.false_eq_true, Option.map_some, wipeE, eSl, partN, partS, asInt, es]
  refine run_for _ (fun i e => PSt (.list (ns.map PyData.int)) (60 * i) e) ⟨[], seed, _, _, _, rfl, by simp, h0, h1⟩ ?_ ?_
  · intro i x e hx h
    obtain ⟨c, _, rfl⟩ := List.mem_map.mp (List.mem_of_getElem? hx)
    have hi : i < 63 := by
      have := (List.getElem?_eq_some_iff.mp hx).1
      simp at this
      omega
    simp only [↓run_bName]
    refine (pool_turn (L := 60 * i) (by omega) h c).imp fun fl e' ⟨hf, q⟩ => ?_
    subst hf
    obtain ⟨zs, sd, a, b, d, e1, e2, e3, e4⟩ := q
    exact ⟨zs, sd, a, b, d, e1, by omega, e3, e4⟩
  · intro e h
    obtain ⟨zs, sd, a, b, d, e1, e2, e3, e4⟩ := h
    simp at e2
    exact ⟨rfl, zs, sd, a, b, d, e1, by omega, e3, e4⟩
end L2.K72

namespace L2.K72
open PySem PySem.Spec PyProof.Rows L2.DL
theorem mul_small {a b : Int} (h : smallI a = true) : mulF (.int a) (.int b) = some (.d (.int (a * b))) := by
  show (if (smallI a || smallI b) = true then some (Vl.d (.int (a * b))) else none) = _
  rw [if_pos (by rw [h]; rfl)]
theorem pool_loop2 {sc : PyData} {e : En} (h : PSt sc 3780 e) : Run m__law_pool_13 e fun fl e' => fl = .nx ∧ PSt sc 4080 e' := by
  obtain ⟨zs, seed, x4, x5, x6, rfl, hz, h0, h1⟩ := h
  unfold m__law_pool_13
  have er : rng1 [.int 300] = some ((List.range 300).map fun (i : Nat) => PyData.int (0 + i)) := rfl
  simp only [↓u_lift, ↓u_callF, ↓u_callM, ↓u_eC, ↓u_eBin, ↓u_eUn, ↓u_aNil, ↓u_aCons, ↓u_peeks0, ↓u_peeks1, ↓u_freezes0, ↓u_freezes1, ↓u_eTup, ↓u_eLst, ↓u_eCall, ↓u_eFn, ↓u_cV, ↓u_cAnd, ↓u_cOr, ↓u_cNot, ↓u_cYes, ↓u_eIf, ↓u_eAnd, ↓u_eOr, ↓u_sSet, ↓u_sSeq, ↓u_sNx, ↓u_sIf, ↓u_sExpr, ↓u_sRet, ↓u_iSeq, ↓u_iRng, ↓u_iZips, ↓u_sFor, ↓u_eLc, ↓u_eMut, ↓u_eExt, ↓u_eFnM, ↓u_sSets, ↓u_stores0, ↓u_stores1, ↓u_sAsg, ↓u_bSub, ↓run_peek, ↓run_freeze, ↓run_var, ↓run_store, ↓run_bName, ↓run_isOwn, ↓run_extM, ↓run_bnd, ↓run_ret, ↓reduceIte, asRet, asRetM, List.map_cons, List.map_nil, List.replicate, List.cons_append, List.nil_append, List.append_nil, List.getElem?_cons_zero, List.getElem?_cons_succ, List.set_cons_zero, List.set_cons_succ, addF, subF, isi_int, isi_bool, isi_tuple, isi_str, isi_list, lenF, ltF, leF, gtF, geF, cmpF, negF, absF, intF, tupF, lstF, notF, seqOf, List.length_cons, List.length_nil, Nat.zero_add, Nat.reduceAdd, Bool.not_true, Bool.not_false, Bool.false_eq_true, Option.map_some, wipeE, er]
  refine run_for _ (fun i e => ∃ (zs : List Int) (seed : Int) (x5 : Md), e = [.d sc, .d (.int 300), .own (zs.map PyData.int), .d (.int seed), x4, x5, x6] ∧ zs.length ≤ 3780 + i ∧ 0 ≤ seed ∧ seed < 2147483647) ⟨zs, seed, _, rfl, by omega, h0, h1⟩ ?_ ?_
  · rintro i x e hx ⟨zs, seed, x5, rfl, hz, h0, h1⟩
    have hi : i < 300 := by have := (List.getElem?_eq_some_iff.mp hx).1; simpa using this
    have ex : x = .int (0 + (i : Int)) := by
      rw [List.getElem?_map, List.getElem?_range hi] at hx
      exact (Option.some.inj hx).symm
    subst ex
    unfold m__law_pool_11 m__law_pool_12
    have e2 : mulF (.int seed) (.int 69621) = some (.d (.int (seed * 69621))) := mul_small (small_seed h0 (by omega))
    have e4 := mod_ok (seed * 69621 + 12347 + (0 + (i : Int))) 2147483647 (by decide)
    have s0 := Int.fmod_nonneg_of_pos (seed * 69621 + 12347 + (0 + (i : Int))) (by decide : (0 : Int) < 2147483647)
    have s1 := Int.fmod_lt_of_pos (seed * 69621 + 12347 + (0 + (i : Int))) (by decide : (0 : Int) < 2147483647)
    generalize hs : (seed * 69621 + 12347 + (0 + (i : Int))).fmod 2147483647 = sd at e4 s0 s1
    have e5 : mulF (.int 2) (.int (0 + (i : Int))) = some (.d (.int (2 * (0 + (i : Int))))) := mul_small rfl
    have e6 : mulF (.int sd) (.int (sd + 2 * (0 + (i : Int)) + 1)) = some (.d (.int (sd * (sd + 2 * (0 + (i : Int)) + 1)))) := mul_small (small_seed s0 (by omega))
    have e7 := mod_ok (sd * (sd + 2 * (0 + (i : Int)) + 1)) 2147483629 (by decide)
    have e8 : ∀ a : Int, fdivF (.int a) (.int 1009) = some (.d (.int (a.fdiv 1009))) := fun a => rfl
    have e9 : ∀ a : Int, modF (.int a) (.int 1000) = some (.d (.int (a.fmod 1000))) := fun a => rfl
    have ea : ∀ z : Int, appendF (zs.map PyData.int) [.int z] = some (.none, (zs ++ [z]).map PyData.int) := fun z => app_ok zs z (by omega)
    simp only [↓u_lift, ↓u_callF, ↓u_callM, ↓u_eC, ↓u_eBin, ↓u_eUn, ↓u_aNil, ↓u_aCons, ↓u_peeks0, ↓u_peeks1, ↓u_freezes0, ↓u_freezes1, ↓u_eTup, ↓u_eLst, ↓u_eCall, ↓u_eFn, ↓u_cV, ↓u_cAnd, ↓u_cOr, ↓u_cNot, ↓u_cYes, ↓u_eIf, ↓u_eAnd, ↓u_eOr, ↓u_sSet, ↓u_sSeq, ↓u_sNx, ↓u_sIf, ↓u_sExpr, ↓u_sRet, ↓u_iSeq, ↓u_iRng, ↓u_iZips, ↓u_sFor, ↓u_eLc, ↓u_eMut, ↓u_eExt, ↓u_eFnM, ↓u_sSets, ↓u_stores0, ↓u_stores1, ↓u_sAsg, ↓u_bSub, ↓run_peek, ↓run_freeze, ↓run_var, ↓run_store, ↓run_bName, ↓run_isOwn, ↓run_extM, ↓run_bnd, ↓run_ret, ↓reduceIte, asRet, asRetM, List.map_cons, List.map_nil, List.replicate, List.cons_append, List.nil_append, List.append_nil, List.getElem?_cons_zero, List.getElem?_cons_succ, List.set_cons_zero, List.set_cons_succ, addF, subF, isi_int, isi_bool, isi_tuple, isi_str, isi_list, lenF, ltF, leF, gtF, geF, cmpF, negF, absF, intF, tupF, lstF, notF, seqOf, List.length_cons, List.length_nil, Nat.zero_add, Nat.reduceAdd, Bool.not_true, Bool.not_false, Bool.false_eq_true, Option.map_some, wipeE, e2, e4, e5, e6, e7, e8, e9, ea]
    exact ⟨_, _, _, rfl, by simp; omega, s0, s1⟩
  · rintro e ⟨zs, seed, x5, rfl, hz, h0, h1⟩
    have : ((List.range 300).map fun (i : Nat) => PyData.int (0 + i)).length = 300 := by simp
    rw [this] at hz
    exact ⟨rfl, zs, seed, _, _, _, rfl, by omega, h0, h1⟩
theorem v_pool (ns : List Int) (hn : ns.length ≤ 63) : ∃ xs, Pl xs ∧ F__law_pool [.list (ns.map PyData.int), .int 300] = some (.ret (.fr xs)) := by
  have h : Run m__law_pool [.d (.list (ns.map PyData.int)), .d (.int 300), .un, .un, .un, .un, .un] fun fl e' => ∃ xs, Pl xs ∧ fl = .rt (.fr xs) := by
    unfold m__law_pool m__law_pool_1 m__law_pool_2
    simp only [↓u_lift, ↓u_callF, ↓u_callM, ↓u_eC, ↓u_eBin, ↓u_eUn, ↓u_aNil, ↓u_aCons, ↓u_peeks0, ↓u_peeks1, ↓u_freezes0, ↓u_freezes1, ↓u_eTup, ↓u_eLst, ↓u_eCall, ↓u_eFn, ↓u_cV, ↓u_cAnd, ↓u_cOr, ↓u_cNot, ↓u_cYes, ↓u_eIf, ↓u_eAnd, ↓u_eOr, ↓u_sSet, ↓u_sSeq, ↓u_sNx, ↓u_sIf, ↓u_sExpr, ↓u_sRet, ↓u_iSeq, ↓u_iRng, ↓u_iZips, ↓u_sFor, ↓u_eLc, ↓u_eMut, ↓u_eExt, ↓u_eFnM, ↓u_sSets, ↓u_stores0, ↓u_stores1, ↓u_sAsg, ↓u_bSub, ↓run_peek, ↓run_freeze, ↓run_var, ↓run_store, ↓run_bName, ↓run_isOwn, ↓run_extM, ↓run_bnd, ↓run_ret, ↓reduceIte, asRet, asRetM, List.map_cons, List.map_nil, List.replicate, List.cons_append, List.nil_append, List.append_nil, List.getElem?_cons_zero, List.getElem?_cons_succ, List.set_cons_zero, List.set_cons_succ, addF, subF, isi_int, isi_bool, isi_tuple, isi_str, isi_list, lenF, ltF, leF, gtF, geF, cmpF, negF, absF, intF, tupF, lstF, notF, seqOf, List.length_cons, List.length_nil, Nat.zero_add, Nat.reduceAdd, Bool.not_true, Bool.not_false, Bool.false_eq_true, Option.map_some, wipeE, Nat.zero_le]
    refine (pool_loop1 ns hn 22664 (by decide) (by decide)).imp fun fl e1 ⟨hf, h1⟩ => ?_
    subst hf
    simp only [↓u_sSeq]
    refine (pool_loop2 h1).imp fun fl e2 ⟨hf, h2⟩ => ?_
    subst hf
    obtain ⟨zs, sd, a, b, d, rfl, e2, _, _⟩ := h2
    unfold m__law_pool_14
    simp only [↓u_lift, ↓u_callF, ↓u_callM, ↓u_eC, ↓u_eBin, ↓u_eUn, ↓u_aNil, ↓u_aCons, ↓u_peeks0, ↓u_peeks1, ↓u_freezes0, ↓u_freezes1, ↓u_eTup, ↓u_eLst, ↓u_eCall, ↓u_eFn, ↓u_cV, ↓u_cAnd, ↓u_cOr, ↓u_cNot, ↓u_cYes, ↓u_eIf, ↓u_eAnd, ↓u_eOr, ↓u_sSet, ↓u_sSeq, ↓u_sNx, ↓u_sIf, ↓u_sExpr, ↓u_sRet, ↓u_iSeq, ↓u_iRng, ↓u_iZips, ↓u_sFor, ↓u_eLc, ↓u_eMut, ↓u_eExt, ↓u_eFnM, ↓u_sSets, ↓u_stores0, ↓u_stores1, ↓u_sAsg, ↓u_bSub, ↓run_peek, ↓run_freeze, ↓run_var, ↓run_store, ↓run_bName, ↓run_isOwn, ↓run_extM, ↓run_bnd, ↓run_ret, ↓reduceIte, asRet, asRetM, List.map_cons, List.map_nil, List.replicate, List.cons_append, List.nil_append, List.append_nil, List.getElem?_cons_zero, List.getElem?_cons_succ, List.set_cons_zero, List.set_cons_succ, addF, subF, isi_int, isi_bool, isi_tuple, isi_str, isi_list, lenF, ltF, leF, gtF, geF, cmpF, negF, absF, intF, tupF, lstF, notF, seqOf, List.length_cons, List.length_nil, Nat.zero_add, Nat.reduceAdd, Bool.not_true, Bool.not_false, Bool.false_eq_true, Option.map_some, wipeE, revA]
    exact ⟨_, ⟨⟨zs.reverse, by simp [List.map_reverse], by simp; omega⟩⟩, rfl⟩
  obtain ⟨fl, e', h1, xs, hx, rfl⟩ := h
  refine ⟨xs, hx, ?_⟩
  show runP 5 m__law_pool _ = _
  unfold runP
  show asRet (m__law_pool [.d (.list (ns.map PyData.int)), .d (.int 300), .un, .un, .un, .un, .un]) = _
  rw [h1]
  rfl
end L2.K72

namespace L2.K72
open PySem PySem.Spec PyProof.Rows L2.DL
theorem rng_nat (n : Nat) (h : n < 1000000) : rng1 [.int (n : Int)] = some ((List.range n).map fun (i : Nat) => PyData.int (i : Int)) := by
  unfold rng1
  dsimp only
  rw [if_pos (by omega), Int.toNat_natCast]
  simp only [Int.zero_add]
def okZ (w : Nat) (ss : List Int) : Prop := ss.length = w ∧ ∀ z ∈ ss, -9 ≤ z ∧ z ≤ 9
def okI (ss : List Int) : Prop := ∀ z ∈ ss, -9 ≤ z ∧ z ≤ 9
theorem okI_nil : okI [] := fun z h => nomatch h
theorem okI_app {ss : List Int} {z : Int} (h : okI ss) (hz : -9 ≤ z ∧ z ≤ 9) : okI (ss ++ [z]) := fun a ha => by
  rcases List.mem_append.mp ha with ha | ha
  · exact h a ha
  · rw [List.mem_singleton.mp ha]; exact hz
def okR (w : Nat) (rs : List (List Int)) : Prop := ∀ r ∈ rs, okZ w r
theorem okR_nil {w : Nat} : okR w [] := fun r h => nomatch h
def TSt (m w k i : Nat) (e : En) : Prop := ∃ (ys : List PyData) (rs : List (List Int)) (x6 x7 x8 x9 : Md), Pl ys ∧ rs.length = i ∧ okR w rs ∧ e = [.own ys, .d (.int 4), .d (.int (m : Int)), .d (.int (w : Int)), .d (.int (k : Int)), .own (rs.map rowD), x6, x7, x8, x9, .un]
def RSt (m w k : Nat) (rs : List (List Int)) (e : En) : Prop := ∃ (ys : List PyData) (ss : List Int) (x6 x8 x9 : Md), Pl ys ∧ okZ w ss ∧ e = [.own ys, .d (.int 4), .d (.int (m : Int)), .d (.int (w : Int)), .d (.int (k : Int)), .own (rs.map rowD), x6, .own (ss.map PyData.int), x8, x9, .un]
theorem table_1 {xs : List PyData} (h : Pl xs) : Run m__law_table_1 [.own xs, .d (.int 4), .un, .un, .un, .un, .un, .un, .un, .un, .un] fun fl e' => fl = .nx ∧ ∃ (ys : List PyData) (m w k : Nat), Pl ys ∧ 1 ≤ m ∧ m ≤ 4 ∧ 1 ≤ w ∧ w ≤ 4 ∧ k < 4 ∧ e' = [.own ys, .d (.int 4), .d (.int (m : Int)), .d (.int (w : Int)), .d (.int (k : Int)), .un, .un, .un, .un, .un, .un] := by
  obtain ⟨r1, h1, y1, p1, e1⟩ := v_take h 4 (by decide)
  obtain ⟨r2, h2, y2, p2, e2⟩ := v_take p1 4 (by decide)
  obtain ⟨r3, h3, y3, p3, e3⟩ := v_take p2 4 (by decide)
  have q1 : F__law_take xs [.int 4] = some (.int (r1 : Int), y1) := e1
  have q2 : F__law_take y1 [.int 4] = some (.int (r2 : Int), y2) := e2
  have q3 : F__law_take y2 [.int 4] = some (.int (r3 : Int), y3) := e3
  unfold m__law_table_1
  simp only [↓u_lift, ↓u_callF, ↓u_callM, ↓u_eC, ↓u_eBin, ↓u_eUn, ↓u_aNil, ↓u_aCons, ↓u_peeks0, ↓u_peeks1, ↓u_freezes0, ↓u_freezes1, ↓u_eTup, ↓u_eLst, ↓u_eCall, ↓u_eFn, ↓u_cV, ↓u_cAnd, ↓u_cOr, ↓u_cNot, ↓u_cYes, ↓u_eIf, ↓u_eAnd, ↓u_eOr, ↓u_sSet, ↓u_sSeq, ↓u_sNx, ↓u_sIf, ↓u_sExpr, ↓u_sRet, ↓u_iSeq, ↓u_iRng, ↓u_iZips, ↓u_sFor, ↓u_eLc, ↓u_eMut, ↓u_eExt, ↓u_eFnM, ↓u_sSets, ↓u_stores0, ↓u_stores1, ↓u_sAsg, ↓u_bSub, ↓run_peek, ↓run_freeze, ↓run_var, ↓run_store, ↓run_bName, ↓run_isOwn, ↓run_extM, ↓run_bnd, ↓run_ret, ↓reduceIte, asRet, asRetM, List.map_cons, List.map_nil, List.replicate, List.cons_append, List.nil_append, List.append_nil, List.getElem?_cons_zero, List.getElem?_cons_succ, List.set_cons_zero, List.set_cons_succ, addF, subF, isi_int, isi_bool, isi_tuple, isi_str, isi_list, lenF, ltF, leF, gtF, geF, cmpF, negF, absF, intF, tupF, lstF, notF, seqOf, List.length_cons, List.length_nil, Nat.zero_add, Nat.reduceAdd, Bool.not_true, Bool.not_false, Bool.false_eq_true, Option.map_some, wipeE, q1, q2, q3, clash]
  exact ⟨trivial, y3, 1 + r1, 1 + r2, r3, p3, by omega, by omega, by omega, by omega, h3, by simp⟩
theorem pick7 (r : Nat) (h : r < 7) : ∃ z : Int, -9 ≤ z ∧ z ≤ 9 ∧ ixF (.list [.int 0, .int 0, .int 1, .int 1, .int (-1), .int 0, .int 1]) (.int (r : Int)) = some (.d (.int z)) := by
  have : r = 0 ∨ r = 1 ∨ r = 2 ∨ r = 3 ∨ r = 4 ∨ r = 5 ∨ r = 6 := by omega
  rcases this with rfl | rfl | rfl | rfl | rfl | rfl | rfl <;> exact ⟨_, by decide, by decide, rfl⟩
theorem table_4 {ys : List PyData} (h : Pl ys) (m w k : Nat) (hw : w ≤ 4) (rs : List (List Int)) (x6 x7 x8 x9 : Md) : Run m__law_table_4 [.own ys, .d (.int 4), .d (.int (m : Int)), .d (.int (w : Int)), .d (.int (k : Int)), .own (rs.map rowD), x6, x7, x8, x9, .un] fun fl e' => fl = .nx ∧ RSt m w k rs e' := by
  unfold m__law_table_4 m__law_table_3
  have er := rng_nat w (by omega)
  simp only [↓u_liftE er, ↓u_lift, ↓u_callF, ↓u_callM, ↓u_eC, ↓u_eBin, ↓u_eUn, ↓u_aNil, ↓u_aCons, ↓u_peeks0, ↓u_peeks1, ↓u_freezes0, ↓u_freezes1, ↓u_eTup, ↓u_eLst, ↓u_eCall, ↓u_eFn, ↓u_cV, ↓u_cAnd, ↓u_cOr, ↓u_cNot, ↓u_cYes, ↓u_eIf, ↓u_eAnd, ↓u_eOr, ↓u_sSet, ↓u_sSeq, ↓u_sNx, ↓u_sIf, ↓u_sExpr, ↓u_sRet, ↓u_iSeq, ↓u_iRng, ↓u_iZips, ↓u_sFor, ↓u_eLc, ↓u_eMut, ↓u_eExt, ↓u_eFnM, ↓u_sSets, ↓u_stores0, ↓u_stores1, ↓u_sAsg, ↓u_bSub, ↓run_peek, ↓run_freeze, ↓run_var, ↓run_store, ↓run_bName, ↓run_isOwn, ↓run_extM, ↓run_bnd, ↓run_ret, ↓reduceIte, asRet, asRetM, List.map_cons, List.map_nil, List.replicate, List.cons_append, List.nil_append, List.append_nil, List.getElem?_cons_zero, List.getElem?_cons_succ, List.set_cons_zero, List.set_cons_succ, addF, subF, isi_int, isi_bool, isi_tuple, isi_str, isi_list, lenF, ltF, leF, gtF, geF, cmpF, negF, absF, intF, tupF, lstF, notF, seqOf, List.length_cons, List.length_nil, Nat.zero_add, Nat.reduceAdd, Bool.not_true, Bool.not_false, Bool.false_eq_true, Option.map_some, wipeE, List.length_map, List.length_range]
  rw [if_pos (by omega)]
  refine run_lcM _ (fun i acc e => ∃ (ys : List PyData) (ss : List Int), Pl ys ∧ acc = ss.map PyData.int ∧ ss.length = i ∧ okI ss ∧ e = [.own ys, .d (.int 4), .d (.int (m : Int)), .d (.int (w : Int)), .d (.int (k : Int)), .own (rs.map rowD), x6, x7, x8, x9, .un]) ⟨ys, [], h, rfl, rfl, okI_nil, rfl⟩ ?_ ?_
  · rintro i x acc e hx ⟨ys, ss, p, rfl, hl, hb, rfl⟩
    obtain ⟨r, hr, y2, p2, e2⟩ := v_take p 7 (by decide)
    have q : F__law_take ys [.int 7] = some (.int (r : Int), y2) := e2
    obtain ⟨z, z1, z2, ez⟩ := pick7 r hr
    have ez' : ixF (.list [.int 0, .int 0, .int 1, .int 1, .int (-1), .int 0, .int 1]) (.int (r : Int)) = some (.d (.int z)) := ez
    simp only [↓u_lift, ↓u_callF, ↓u_callM, ↓u_eC, ↓u_eBin, ↓u_eUn, ↓u_aNil, ↓u_aCons, ↓u_peeks0, ↓u_peeks1, ↓u_freezes0, ↓u_freezes1, ↓u_eTup, ↓u_eLst, ↓u_eCall, ↓u_eFn, ↓u_cV, ↓u_cAnd, ↓u_cOr, ↓u_cNot, ↓u_cYes, ↓u_eIf, ↓u_eAnd, ↓u_eOr, ↓u_sSet, ↓u_sSeq, ↓u_sNx, ↓u_sIf, ↓u_sExpr, ↓u_sRet, ↓u_iSeq, ↓u_iRng, ↓u_iZips, ↓u_sFor, ↓u_eLc, ↓u_eMut, ↓u_eExt, ↓u_eFnM, ↓u_sSets, ↓u_stores0, ↓u_stores1, ↓u_sAsg, ↓u_bSub, ↓run_peek, ↓run_freeze, ↓run_var, ↓run_store, ↓run_bName, ↓run_isOwn, ↓run_extM, ↓run_bnd, ↓run_ret, ↓reduceIte, asRet, asRetM, List.map_cons, List.map_nil, List.replicate, List.cons_append, List.nil_append, List.append_nil, List.getElem?_cons_zero, List.getElem?_cons_succ, List.set_cons_zero, List.set_cons_succ, addF, subF, isi_int, isi_bool, isi_tuple, isi_str, isi_list, lenF, ltF, leF, gtF, geF, cmpF, negF, absF, intF, tupF, lstF, notF, seqOf, List.length_cons, List.length_nil, Nat.zero_add, Nat.reduceAdd, Bool.not_true, Bool.not_false, Bool.false_eq_true, Option.map_some, wipeE, q, ez', Nat.reduceLeDiff]
    exact ⟨y2, ss ++ [z], p2, by simp, by simp [hl], okI_app hb ⟨z1, z2⟩, rfl⟩
  · rintro acc e ⟨ys, ss, p, rfl, hl, hb, rfl⟩
    simp only [↓u_lift, ↓u_callF, ↓u_callM, ↓u_eC, ↓u_eBin, ↓u_eUn, ↓u_aNil, ↓u_aCons, ↓u_peeks0, ↓u_peeks1, ↓u_freezes0, ↓u_freezes1, ↓u_eTup, ↓u_eLst, ↓u_eCall, ↓u_eFn, ↓u_cV, ↓u_cAnd, ↓u_cOr, ↓u_cNot, ↓u_cYes, ↓u_eIf, ↓u_eAnd, ↓u_eOr, ↓u_sSet, ↓u_sSeq, ↓u_sNx, ↓u_sIf, ↓u_sExpr, ↓u_sRet, ↓u_iSeq, ↓u_iRng, ↓u_iZips, ↓u_sFor, ↓u_eLc, ↓u_eMut, ↓u_eExt, ↓u_eFnM, ↓u_sSets, ↓u_stores0, ↓u_stores1, ↓u_sAsg, ↓u_bSub, ↓run_peek, ↓run_freeze, ↓run_var, ↓run_store, ↓run_bName, ↓run_isOwn, ↓run_extM, ↓run_bnd, ↓run_ret, ↓reduceIte, asRet, asRetM, List.map_cons, List.map_nil, List.replicate, List.cons_append, List.nil_append, List.append_nil, List.getElem?_cons_zero, List.getElem?_cons_succ, List.set_cons_zero, List.set_cons_succ, addF, subF, isi_int, isi_bool, isi_tuple, isi_str, isi_list, lenF, ltF, leF, gtF, geF, cmpF, negF, absF, intF, tupF, lstF, notF, seqOf, List.length_cons, List.length_nil, Nat.zero_add, Nat.reduceAdd, Bool.not_true, Bool.not_false, Bool.false_eq_true, Option.map_some, wipeE]
    exact ⟨trivial, ys, ss, _, _, _, p, ⟨by simpa using hl, hb⟩, rfl⟩
theorem table_8 {e : En} {m w k : Nat} (hw : w ≤ 4) (hw1 : 1 ≤ w) {rs : List (List Int)} (h : RSt m w k rs e) : Run m__law_table_8 e fun fl e' => fl = .nx ∧ RSt m w k rs e' := by
  obtain ⟨ys, ss, x6, x8, x9, p, hz, rfl⟩ := h
  unfold m__law_table_8
  simp only [↓u_lift, ↓u_callF, ↓u_callM, ↓u_eC, ↓u_eBin, ↓u_eUn, ↓u_aNil, ↓u_aCons, ↓u_peeks0, ↓u_peeks1, ↓u_freezes0, ↓u_freezes1, ↓u_eTup, ↓u_eLst, ↓u_eCall, ↓u_eFn, ↓u_cV, ↓u_cAnd, ↓u_cOr, ↓u_cNot, ↓u_cYes, ↓u_eIf, ↓u_eAnd, ↓u_eOr, ↓u_sSet, ↓u_sSeq, ↓u_sNx, ↓u_sIf, ↓u_sExpr, ↓u_sRet, ↓u_iSeq, ↓u_iRng, ↓u_iZips, ↓u_sFor, ↓u_eLc, ↓u_eMut, ↓u_eExt, ↓u_eFnM, ↓u_sSets, ↓u_stores0, ↓u_stores1, ↓u_sAsg, ↓u_bSub, ↓run_peek, ↓run_freeze, ↓run_var, ↓run_store, ↓run_bName, ↓run_isOwn, ↓run_extM, ↓run_bnd, ↓run_ret, ↓reduceIte, asRet, asRetM, List.map_cons, List.map_nil, List.replicate, List.cons_append, List.nil_append, List.append_nil, List.getElem?_cons_zero, List.getElem?_cons_succ, List.set_cons_zero, List.set_cons_succ, addF, subF, isi_int, isi_bool, isi_tuple, isi_str, isi_list, lenF, ltF, leF, gtF, geF, cmpF, negF, absF, intF, tupF, lstF, notF, seqOf, List.length_cons, List.length_nil, Nat.zero_add, Nat.reduceAdd, Bool.not_true, Bool.not_false, Bool.false_eq_true, Option.map_some, wipeE, eqF, shaped_int, eqv_int, Bool.and_self]
  cases hk : ((k : Int) == 0) with
  | false => exact ⟨trivial, ys, ss, _, _, _, p, hz, rfl⟩
  | true =>
    obtain ⟨r1, h1, y1, p1, q1⟩ := v_take p w hw1
    obtain ⟨r2, h2, y2, p2, q2⟩ := v_take p1 w hw1
    unfold m__law_table_5
    simp only [↓u_lift, ↓u_callF, ↓u_callM, ↓u_eC, ↓u_eBin, ↓u_eUn, ↓u_aNil, ↓u_aCons, ↓u_peeks0, ↓u_peeks1, ↓u_freezes0, ↓u_freezes1, ↓u_eTup, ↓u_eLst, ↓u_eCall, ↓u_eFn, ↓u_cV, ↓u_cAnd, ↓u_cOr, ↓u_cNot, ↓u_cYes, ↓u_eIf, ↓u_eAnd, ↓u_eOr, ↓u_sSet, ↓u_sSeq, ↓u_sNx, ↓u_sIf, ↓u_sExpr, ↓u_sRet, ↓u_iSeq, ↓u_iRng, ↓u_iZips, ↓u_sFor, ↓u_eLc, ↓u_eMut, ↓u_eExt, ↓u_eFnM, ↓u_sSets, ↓u_stores0, ↓u_stores1, ↓u_sAsg, ↓u_bSub, ↓run_peek, ↓run_freeze, ↓run_var, ↓run_store, ↓run_bName, ↓run_isOwn, ↓run_extM, ↓run_bnd, ↓run_ret, ↓reduceIte, asRet, asRetM, List.map_cons, List.map_nil, List.replicate, List.cons_append, List.nil_append, List.append_nil, List.getElem?_cons_zero, List.getElem?_cons_succ, List.set_cons_zero, List.set_cons_succ, addF, subF, isi_int, isi_bool, isi_tuple, isi_str, isi_list, lenF, ltF, leF, gtF, geF, cmpF, negF, absF, intF, tupF, lstF, notF, seqOf, List.length_cons, List.length_nil, Nat.zero_add, Nat.reduceAdd, Bool.not_true, Bool.not_false, Bool.false_eq_true, Option.map_some, wipeE, q1, q2, clash]
    unfold m__law_table_7 m__law_table_6 eChain
    have er := rng_nat w (by omega)
    simp only [↓u_liftE er, ↓u_lift, ↓u_callF, ↓u_callM, ↓u_eC, ↓u_eBin, ↓u_eUn, ↓u_aNil, ↓u_aCons, ↓u_peeks0, ↓u_peeks1, ↓u_freezes0, ↓u_freezes1, ↓u_eTup, ↓u_eLst, ↓u_eCall, ↓u_eFn, ↓u_cV, ↓u_cAnd, ↓u_cOr, ↓u_cNot, ↓u_cYes, ↓u_eIf, ↓u_eAnd, ↓u_eOr, ↓u_sSet, ↓u_sSeq, ↓u_sNx, ↓u_sIf, ↓u_sExpr, ↓u_sRet, ↓u_iSeq, ↓u_iRng, ↓u_iZips, ↓u_sFor, ↓u_eLc, ↓u_eMut, ↓u_eExt, ↓u_eFnM, ↓u_sSets, ↓u_stores0, ↓u_stores1, ↓u_sAsg, ↓u_bSub, ↓run_peek, ↓run_freeze, ↓run_var, ↓run_store, ↓run_bName, ↓run_isOwn, ↓run_extM, ↓run_bnd, ↓run_ret, ↓reduceIte, asRet, asRetM, List.map_cons, List.map_nil, List.replicate, List.cons_append, List.nil_append, List.append_nil, List.getElem?_cons_zero, List.getElem?_cons_succ, List.set_cons_zero, List.set_cons_succ, addF, subF, isi_int, isi_bool, isi_tuple, isi_str, isi_list, lenF, ltF, leF, gtF, geF, cmpF, negF, absF, intF, tupF, lstF, notF, seqOf, List.length_cons, List.length_nil, Nat.zero_add, Nat.reduceAdd, Bool.not_true, Bool.not_false, Bool.false_eq_true, Option.map_some, wipeE, List.length_map, List.length_range]
    rw [if_pos (by omega)]
    refine run_lcM _ (fun i acc e => ∃ (ss : List Int), acc = ss.map PyData.int ∧ ss.length = i ∧ okI ss ∧ e = [.own y2, .d (.int 4), .d (.int (m : Int)), .d (.int (w : Int)), .d (.int (k : Int)), .own (rs.map rowD), x6, _, .d (.int (r1 : Int)), .d (.int (r2 : Int)), .un]) ⟨[], rfl, rfl, okI_nil, rfl⟩ ?_ ?_
    · rintro i x acc e hx ⟨ss, rfl, hl, hb, rfl⟩
      have hi : i < w := by have := (List.getElem?_eq_some_iff.mp hx).1; simpa using this
      have ex : x = .int (i : Int) := by
        rw [List.getElem?_map, List.getElem?_range hi] at hx
        exact (Option.some.inj hx).symm
      subst ex
      simp only [↓u_lift, ↓u_callF, ↓u_callM, ↓u_eC, ↓u_eBin, ↓u_eUn, ↓u_aNil, ↓u_aCons, ↓u_peeks0, ↓u_peeks1, ↓u_freezes0, ↓u_freezes1, ↓u_eTup, ↓u_eLst, ↓u_eCall, ↓u_eFn, ↓u_cV, ↓u_cAnd, ↓u_cOr, ↓u_cNot, ↓u_cYes, ↓u_eIf, ↓u_eAnd, ↓u_eOr, ↓u_sSet, ↓u_sSeq, ↓u_sNx, ↓u_sIf, ↓u_sExpr, ↓u_sRet, ↓u_iSeq, ↓u_iRng, ↓u_iZips, ↓u_sFor, ↓u_eLc, ↓u_eMut, ↓u_eExt, ↓u_eFnM, ↓u_sSets, ↓u_stores0, ↓u_stores1, ↓u_sAsg, ↓u_bSub, ↓run_peek, ↓run_freeze, ↓run_var, ↓run_store, ↓run_bName, ↓run_isOwn, ↓run_extM, ↓run_bnd, ↓run_ret, ↓reduceIte, asRet, asRetM, List.map_cons, List.map_nil, List.replicate, List.cons_append, List.nil_append, List.append_nil, List.getElem?_cons_zero, List.getElem?_cons_succ, List.set_cons_zero, List.set_cons_succ, addF, subF, isi_int, isi_bool, isi_tuple, isi_str, isi_list, lenF, ltF, leF, gtF, geF, cmpF, negF, absF, intF, tupF, lstF, notF, seqOf, List.length_cons, List.length_nil, Nat.zero_add, Nat.reduceAdd, Bool.not_true, Bool.not_false, Bool.false_eq_true, Option.map_some, wipeE, asBool, Option.bind_some]
      by_cases hd : decide ((r1 : Int) ≤ (i : Int)) = true
      · simp only [↓u_lift, ↓u_callF, ↓u_callM, ↓u_eC, ↓u_eBin, ↓u_eUn, ↓u_aNil, ↓u_aCons, ↓u_peeks0, ↓u_peeks1, ↓u_freezes0, ↓u_freezes1, ↓u_eTup, ↓u_eLst, ↓u_eCall, ↓u_eFn, ↓u_cV, ↓u_cAnd, ↓u_cOr, ↓u_cNot, ↓u_cYes, ↓u_eIf, ↓u_eAnd, ↓u_eOr, ↓u_sSet, ↓u_sSeq, ↓u_sNx, ↓u_sIf, ↓u_sExpr, ↓u_sRet, ↓u_iSeq, ↓u_iRng, ↓u_iZips, ↓u_sFor, ↓u_eLc, ↓u_eMut, ↓u_eExt, ↓u_eFnM, ↓u_sSets, ↓u_stores0, ↓u_stores1, ↓u_sAsg, ↓u_bSub, ↓run_peek, ↓run_freeze, ↓run_var, ↓run_store, ↓run_bName, ↓run_isOwn, ↓run_extM, ↓run_bnd, ↓run_ret, ↓reduceIte, asRet, asRetM, List.map_cons, List.map_nil, List.replicate, List.cons_append, List.nil_append, List.append_nil, List.getElem?_cons_zero, List.getElem?_cons_succ, List.set_cons_zero, List.set_cons_succ, addF, subF, isi_int, isi_bool, isi_tuple, isi_str, isi_list, lenF, ltF, leF, gtF, geF, cmpF, negF, absF, intF, tupF, lstF, notF, seqOf, List.length_cons, List.length_nil, Nat.zero_add, Nat.reduceAdd, Bool.not_true, Bool.not_false, Bool.false_eq_true, Option.map_some, wipeE, hd]
        exact ⟨ss ++ [if decide ((i : Int) ≤ (r2 : Int)) = true then 1 else 0], by simp, by simp [hl], okI_app hb (by split <;> omega), trivial⟩
      · simp only [↓u_lift, ↓u_callF, ↓u_callM, ↓u_eC, ↓u_eBin, ↓u_eUn, ↓u_aNil, ↓u_aCons, ↓u_peeks0, ↓u_peeks1, ↓u_freezes0, ↓u_freezes1, ↓u_eTup, ↓u_eLst, ↓u_eCall, ↓u_eFn, ↓u_cV, ↓u_cAnd, ↓u_cOr, ↓u_cNot, ↓u_cYes, ↓u_eIf, ↓u_eAnd, ↓u_eOr, ↓u_sSet, ↓u_sSeq, ↓u_sNx, ↓u_sIf, ↓u_sExpr, ↓u_sRet, ↓u_iSeq, ↓u_iRng, ↓u_iZips, ↓u_sFor, ↓u_eLc, ↓u_eMut, ↓u_eExt, ↓u_eFnM, ↓u_sSets, ↓u_stores0, ↓u_stores1, ↓u_sAsg, ↓u_bSub, ↓run_peek, ↓run_freeze, ↓run_var, ↓run_store, ↓run_bName, ↓run_isOwn, ↓run_extM, ↓run_bnd, ↓run_ret, ↓reduceIte, asRet, asRetM, List.map_cons, List.map_nil, List.replicate, List.cons_append, List.nil_append, List.append_nil, List.getElem?_cons_zero, List.getElem?_cons_succ, List.set_cons_zero, List.set_cons_succ, addF, subF, isi_int, isi_bool, isi_tuple, isi_str, isi_list, lenF, ltF, leF, gtF, geF, cmpF, negF, absF, intF, tupF, lstF, notF, seqOf, List.length_cons, List.length_nil, Nat.zero_add, Nat.reduceAdd, Bool.not_true, Bool.not_false, Bool.false_eq_true, Option.map_some, wipeE, hd]
        exact ⟨ss ++ [0], by simp, by simp [hl], okI_app hb (by omega), trivial⟩
    · rintro acc e ⟨ss, rfl, hl, hb, rfl⟩
      simp only [↓u_lift, ↓u_callF, ↓u_callM, ↓u_eC, ↓u_eBin, ↓u_eUn, ↓u_aNil, ↓u_aCons, ↓u_peeks0, ↓u_peeks1, ↓u_freezes0, ↓u_freezes1, ↓u_eTup, ↓u_eLst, ↓u_eCall, ↓u_eFn, ↓u_cV, ↓u_cAnd, ↓u_cOr, ↓u_cNot, ↓u_cYes, ↓u_eIf, ↓u_eAnd, ↓u_eOr, ↓u_sSet, ↓u_sSeq, ↓u_sNx, ↓u_sIf, ↓u_sExpr, ↓u_sRet, ↓u_iSeq, ↓u_iRng, ↓u_iZips, ↓u_sFor, ↓u_eLc, ↓u_eMut, ↓u_eExt, ↓u_eFnM, ↓u_sSets, ↓u_stores0, ↓u_stores1, ↓u_sAsg, ↓u_bSub, ↓run_peek, ↓run_freeze, ↓run_var, ↓run_store, ↓run_bName, ↓run_isOwn, ↓run_extM, ↓run_bnd, ↓run_ret, ↓reduceIte, asRet, asRetM, List.map_cons, List.map_nil, List.replicate, List.cons_append, List.nil_append, List.append_nil, List.getElem?_cons_zero, List.getElem?_cons_succ, List.set_cons_zero, List.set_cons_succ, addF, subF, isi_int, isi_bool, isi_tuple, isi_str, isi_list, lenF, ltF, leF, gtF, geF, cmpF, negF, absF, intF, tupF, lstF, notF, seqOf, List.length_cons, List.length_nil, Nat.zero_add, Nat.reduceAdd, Bool.not_true, Bool.not_false, Bool.false_eq_true, Option.map_some, wipeE]
      exact ⟨trivial, y2, ss, _, _, _, p2, ⟨by simpa using hl, hb⟩, rfl⟩
theorem okZ_set {w : Nat} {ss : List Int} (h : okZ w ss) (j : Nat) (z : Int) (hz : -9 ≤ z ∧ z ≤ 9) : okZ w (ss.set j z) := by
  refine ⟨by rw [List.length_set]; exact h.1, fun a ha => ?_⟩
  rcases List.mem_or_eq_of_mem_set ha with ha | rfl
  · exact h.2 a ha
  · exact hz
theorem set_int (ss : List Int) (j : Nat) (z : Int) (h : j < ss.length) : setF (ss.map PyData.int) [.int (j : Int), .int z] = some (.none, (ss.set j z).map PyData.int) := by
  unfold setF
  have : ixN (ss.map PyData.int).length (j : Int) = some j := by
    unfold ixN
    rw [List.length_map, if_pos (by omega), if_pos (by omega), Int.toNat_natCast]
  simp only [this, List.map_set]
theorem table_10 {e : En} {m w k : Nat} (hw : w ≤ 4) (hw1 : 1 ≤ w) {rs : List (List Int)} (h : RSt m w k rs e) : Run m__law_table_10 e fun fl e' => fl = .nx ∧ RSt m w k rs e' := by
  obtain ⟨ys, ss, x6, x8, x9, p, hz, rfl⟩ := h
  unfold m__law_table_10
  simp only [↓u_lift, ↓u_callF, ↓u_callM, ↓u_eC, ↓u_eBin, ↓u_eUn, ↓u_aNil, ↓u_aCons, ↓u_peeks0, ↓u_peeks1, ↓u_freezes0, ↓u_freezes1, ↓u_eTup, ↓u_eLst, ↓u_eCall, ↓u_eFn, ↓u_cV, ↓u_cAnd, ↓u_cOr, ↓u_cNot, ↓u_cYes, ↓u_eIf, ↓u_eAnd, ↓u_eOr, ↓u_sSet, ↓u_sSeq, ↓u_sNx, ↓u_sIf, ↓u_sExpr, ↓u_sRet, ↓u_iSeq, ↓u_iRng, ↓u_iZips, ↓u_sFor, ↓u_eLc, ↓u_eMut, ↓u_eExt, ↓u_eFnM, ↓u_sSets, ↓u_stores0, ↓u_stores1, ↓u_sAsg, ↓u_bSub, ↓run_peek, ↓run_freeze, ↓run_var, ↓run_store, ↓run_bName, ↓run_isOwn, ↓run_extM, ↓run_bnd, ↓run_ret, ↓reduceIte, asRet, asRetM, List.map_cons, List.map_nil, List.replicate, List.cons_append, List.nil_append, List.append_nil, List.getElem?_cons_zero, List.getElem?_cons_succ, List.set_cons_zero, List.set_cons_succ, addF, subF, isi_int, isi_bool, isi_tuple, isi_str, isi_list, lenF, ltF, leF, gtF, geF, cmpF, negF, absF, intF, tupF, lstF, notF, seqOf, List.length_cons, List.length_nil, Nat.zero_add, Nat.reduceAdd, Bool.not_true, Bool.not_false, Bool.false_eq_true, Option.map_some, wipeE, eqF, shaped_int, eqv_int, Bool.and_self]
  cases hk : ((k : Int) == 1) with
  | false => exact ⟨trivial, ys, ss, _, _, _, p, hz, rfl⟩
  | true =>
    obtain ⟨r1, h1, y1, p1, e1⟩ := v_take p 3 (by decide)
    have q1 : F__law_take ys [.int 3] = some (.int (r1 : Int), y1) := e1
    simp only [↓u_lift, ↓u_callF, ↓u_callM, ↓u_eC, ↓u_eBin, ↓u_eUn, ↓u_aNil, ↓u_aCons, ↓u_peeks0, ↓u_peeks1, ↓u_freezes0, ↓u_freezes1, ↓u_eTup, ↓u_eLst, ↓u_eCall, ↓u_eFn, ↓u_cV, ↓u_cAnd, ↓u_cOr, ↓u_cNot, ↓u_cYes, ↓u_eIf, ↓u_eAnd, ↓u_eOr, ↓u_sSet, ↓u_sSeq, ↓u_sNx, ↓u_sIf, ↓u_sExpr, ↓u_sRet, ↓u_iSeq, ↓u_iRng, ↓u_iZips, ↓u_sFor, ↓u_eLc, ↓u_eMut, ↓u_eExt, ↓u_eFnM, ↓u_sSets, ↓u_stores0, ↓u_stores1, ↓u_sAsg, ↓u_bSub, ↓run_peek, ↓run_freeze, ↓run_var, ↓run_store, ↓run_bName, ↓run_isOwn, ↓run_extM, ↓run_bnd, ↓run_ret, ↓reduceIte, asRet, asRetM, List.map_cons, List.map_nil, List.replicate, List.cons_append, List.nil_append, List.append_nil, List.getElem?_cons_zero, List.getElem?_cons_succ, List.set_cons_zero, List.set_cons_succ, addF, subF, isi_int, isi_bool, isi_tuple, isi_str, isi_list, lenF, ltF, leF, gtF, geF, cmpF, negF, absF, intF, tupF, lstF, notF, seqOf, List.length_cons, List.length_nil, Nat.zero_add, Nat.reduceAdd, Bool.not_true, Bool.not_false, Bool.false_eq_true, Option.map_some, wipeE, q1, eqF, shaped_int, eqv_int, Bool.and_self]
    cases hk1 : ((r1 : Int) == 0) with
    | false => exact ⟨trivial, y1, ss, _, _, _, p1, hz, rfl⟩
    | true =>
      obtain ⟨r2, h2, y2, p2, e2⟩ := v_take p1 19 (by decide)
      have q2 : F__law_take y1 [.int 19] = some (.int (r2 : Int), y2) := e2
      obtain ⟨r3, h3, y3, p3, q3⟩ := v_take p2 w hw1
      have es := set_int ss r3 ((r2 : Int) - 9) (by rw [hz.1]; exact h3)
      unfold m__law_table_9
      simp only [↓u_lift, ↓u_callF, ↓u_callM, ↓u_eC, ↓u_eBin, ↓u_eUn, ↓u_aNil, ↓u_aCons, ↓u_peeks0, ↓u_peeks1, ↓u_freezes0, ↓u_freezes1, ↓u_eTup, ↓u_eLst, ↓u_eCall, ↓u_eFn, ↓u_cV, ↓u_cAnd, ↓u_cOr, ↓u_cNot, ↓u_cYes, ↓u_eIf, ↓u_eAnd, ↓u_eOr, ↓u_sSet, ↓u_sSeq, ↓u_sNx, ↓u_sIf, ↓u_sExpr, ↓u_sRet, ↓u_iSeq, ↓u_iRng, ↓u_iZips, ↓u_sFor, ↓u_eLc, ↓u_eMut, ↓u_eExt, ↓u_eFnM, ↓u_sSets, ↓u_stores0, ↓u_stores1, ↓u_sAsg, ↓u_bSub, ↓run_peek, ↓run_freeze, ↓run_var, ↓run_store, ↓run_bName, ↓run_isOwn, ↓run_extM, ↓run_bnd, ↓run_ret, ↓reduceIte, asRet, asRetM, List.map_cons, List.map_nil, List.replicate, List.cons_append, List.nil_append, List.append_nil, List.getElem?_cons_zero, List.getElem?_cons_succ, List.set_cons_zero, List.set_cons_succ, addF, subF, isi_int, isi_bool, isi_tuple, isi_str, isi_list, lenF, ltF, leF, gtF, geF, cmpF, negF, absF, intF, tupF, lstF, notF, seqOf, List.length_cons, List.length_nil, Nat.zero_add, Nat.reduceAdd, Bool.not_true, Bool.not_false, Bool.false_eq_true, Option.map_some, wipeE, q2, q3, es]
      exact ⟨trivial, y3, ss.set r3 ((r2 : Int) - 9), _, _, _, p3, okZ_set hz _ _ (by omega), rfl⟩
theorem table_11 {e : En} {m w k : Nat} {rs : List (List Int)} (hr : okR w rs) (hl : rs.length < 100) (h : RSt m w k rs e) : Run m__law_table_11 e fun fl e' => fl = .nx ∧ TSt m w k (rs.length + 1) e' := by
  obtain ⟨ys, ss, x6, x8, x9, p, hz, rfl⟩ := h
  unfold m__law_table_11
  have ea : appendF (rs.map rowD) [.tuple (ss.map PyData.int)] = some (.none, (rs ++ [ss]).map rowD) := by
    unfold appendF
    simp only [List.length_map]
    rw [if_pos (by omega)]
    simp [rowD]
  have et : tupF [.list (ss.map PyData.int)] = some (.d (.tuple (ss.map PyData.int))) := rfl
  simp only [↓u_lift, ↓u_callF, ↓u_callM, ↓u_eC, ↓u_eBin, ↓u_eUn, ↓u_aNil, ↓u_aCons, ↓u_peeks0, ↓u_peeks1, ↓u_freezes0, ↓u_freezes1, ↓u_eTup, ↓u_eLst, ↓u_eCall, ↓u_eFn, ↓u_cV, ↓u_cAnd, ↓u_cOr, ↓u_cNot, ↓u_cYes, ↓u_eIf, ↓u_eAnd, ↓u_eOr, ↓u_sSet, ↓u_sSeq, ↓u_sNx, ↓u_sIf, ↓u_sExpr, ↓u_sRet, ↓u_iSeq, ↓u_iRng, ↓u_iZips, ↓u_sFor, ↓u_eLc, ↓u_eMut, ↓u_eExt, ↓u_eFnM, ↓u_sSets, ↓u_stores0, ↓u_stores1, ↓u_sAsg, ↓u_bSub, ↓run_peek, ↓run_freeze, ↓run_var, ↓run_store, ↓run_bName, ↓run_isOwn, ↓run_extM, ↓run_bnd, ↓run_ret, ↓reduceIte, asRet, asRetM, List.map_cons, List.map_nil, List.replicate, List.cons_append, List.nil_append, List.append_nil, List.getElem?_cons_zero, List.getElem?_cons_succ, List.set_cons_zero, List.set_cons_succ, addF, subF, isi_int, isi_bool, isi_tuple, isi_str, isi_list, lenF, ltF, leF, gtF, geF, cmpF, negF, absF, intF, tupF, lstF, notF, seqOf, List.length_cons, List.length_nil, Nat.zero_add, Nat.reduceAdd, Bool.not_true, Bool.not_false, Bool.false_eq_true, Option.map_some, wipeE, et, ea]
  exact ⟨trivial, ys, rs ++ [ss], _, _, _, _, p, by simp, fun r hr' => by rcases List.mem_append.mp hr' with h | h; (· exact hr r h); simp at h; subst h; exact hz, rfl⟩
theorem v_table {xs : List PyData} (h : Pl xs) : ∃ (ys : List PyData) (rs : List (List Int)) (m w : Nat), Pl ys ∧ Tb rs m w ∧ F__law_table xs [.int 4] = some (tabD rs, ys) := by
  have hr : Run m__law_table [.own xs, .d (.int 4), .un, .un, .un, .un, .un, .un, .un, .un, .un] fun fl e' => ∃ (ys : List PyData) (rs : List (List Int)) (m w : Nat), Pl ys ∧ Tb rs m w ∧ asRetM (some (.ok fl e')) = some (tabD rs, ys) := by
    unfold m__law_table
    simp only [↓u_sSeq]
    refine (table_1 h).imp fun fl e1 ⟨hf, ys, m, w, k, p, m1, m4, w1, w4, k4, he⟩ => ?_
    subst hf he
    unfold m__law_table_2 m__law_table_12
    have er := rng_nat m (by omega)
    simp only [↓u_liftE er, ↓u_lift, ↓u_callF, ↓u_callM, ↓u_eC, ↓u_eBin, ↓u_eUn, ↓u_aNil, ↓u_aCons, ↓u_peeks0, ↓u_peeks1, ↓u_freezes0, ↓u_freezes1, ↓u_eTup, ↓u_eLst, ↓u_eCall, ↓u_eFn, ↓u_cV, ↓u_cAnd, ↓u_cOr, ↓u_cNot, ↓u_cYes, ↓u_eIf, ↓u_eAnd, ↓u_eOr, ↓u_sSet, ↓u_sSeq, ↓u_sNx, ↓u_sIf, ↓u_sExpr, ↓u_sRet, ↓u_iSeq, ↓u_iRng, ↓u_iZips, ↓u_sFor, ↓u_eLc, ↓u_eMut, ↓u_eExt, ↓u_eFnM, ↓u_sSets, ↓u_stores0, ↓u_stores1, ↓u_sAsg, ↓u_bSub, ↓run_peek, ↓run_freeze, ↓run_var, ↓run_store, ↓run_bName, ↓run_isOwn, ↓run_extM, ↓run_bnd, ↓run_ret, ↓reduceIte, asRet, asRetM, List.map_cons, List.map_nil, List.replicate, List.cons_append, List.nil_append, List.append_nil, List.getElem?_cons_zero, List.getElem?_cons_succ, List.set_cons_zero, List.set_cons_succ, addF, subF, isi_int, isi_bool, isi_tuple, isi_str, isi_list, lenF, ltF, leF, gtF, geF, cmpF, negF, absF, intF, tupF, lstF, notF, seqOf, List.length_cons, List.length_nil, Nat.zero_add, Nat.reduceAdd, Bool.not_true, Bool.not_false, Bool.false_eq_true, Option.map_some, wipeE]
    refine run_for _ (fun i e => TSt m w k i e) ⟨ys, [], _, _, _, _, p, rfl, okR_nil, rfl⟩ ?_ ?_
    · rintro i x e hx ⟨ys, rs, x6, x7, x8, x9, p, hl, hr, rfl⟩
      have hi : i < m := by have := (List.getElem?_eq_some_iff.mp hx).1; simpa using this
      simp only [↓u_sSeq, ↓run_bName, List.set_cons_zero, List.set_cons_succ]
      refine (table_4 p m w k w4 rs _ x7 x8 x9).imp fun fl e1 ⟨hf, h1⟩ => ?_
      subst hf
      refine (table_8 w4 w1 h1).imp fun fl e2 ⟨hf, h2⟩ => ?_
      subst hf
      refine (table_10 w4 w1 h2).imp fun fl e3 ⟨hf, h3⟩ => ?_
      subst hf
      refine (table_11 hr (by omega) h3).imp fun fl e4 ⟨hf, h4⟩ => ?_
      subst hf
      rw [hl] at h4
      exact h4
    · rintro e ⟨ys, rs, x6, x7, x8, x9, p, hl, hr, rfl⟩
      rw [List.length_map, List.length_range] at hl
      unfold m__law_table_13
      have et : tupF [.list (rs.map rowD)] = some (.d (.tuple (rs.map rowD))) := rfl
      simp only [↓u_lift, ↓u_callF, ↓u_callM, ↓u_eC, ↓u_eBin, ↓u_eUn, ↓u_aNil, ↓u_aCons, ↓u_peeks0, ↓u_peeks1, ↓u_freezes0, ↓u_freezes1, ↓u_eTup, ↓u_eLst, ↓u_eCall, ↓u_eFn, ↓u_cV, ↓u_cAnd, ↓u_cOr, ↓u_cNot, ↓u_cYes, ↓u_eIf, ↓u_eAnd, ↓u_eOr, ↓u_sSet, ↓u_sSeq, ↓u_sNx, ↓u_sIf, ↓u_sExpr, ↓u_sRet, ↓u_iSeq, ↓u_iRng, ↓u_iZips, ↓u_sFor, ↓u_eLc, ↓u_eMut, ↓u_eExt, ↓u_eFnM, ↓u_sSets, ↓u_stores0, ↓u_stores1, ↓u_sAsg, ↓u_bSub, ↓run_peek, ↓run_freeze, ↓run_var, ↓run_store, ↓run_bName, ↓run_isOwn, ↓run_extM, ↓run_bnd, ↓run_ret, ↓reduceIte, asRet, asRetM, List.map_cons, List.map_nil, List.replicate, List.cons_append, List.nil_append, List.append_nil, List.getElem?_cons_zero, List.getElem?_cons_succ, List.set_cons_zero, List.set_cons_succ, addF, subF, isi_int, isi_bool, isi_tuple, isi_str, isi_list, lenF, ltF, leF, gtF, geF, cmpF, negF, absF, intF, tupF, lstF, notF, seqOf, List.length_cons, List.length_nil, Nat.zero_add, Nat.reduceAdd, Bool.not_true, Bool.not_false, Bool.false_eq_true, Option.map_some, wipeE, et]
      exact ⟨ys, rs, m, w, p, ⟨hl, m1, m4, w1, w4, fun r h => hr r h⟩, rfl⟩
  obtain ⟨fl, e', h1, ys, rs, m, w, p, T, h2⟩ := hr
  refine ⟨ys, rs, m, w, p, T, ?_⟩
  show runM 9 m__law_table xs [.int 4] = _
  unfold runM
  show asRetM (m__law_table [.own xs, .d (.int 4), .un, .un, .un, .un, .un, .un, .un, .un, .un]) = _
  rw [h1]
  exact h2
end L2.K72

namespace L2.K72
open PySem PySem.Spec PyProof.Rows L2.DL
/-! ### the class of what is handed in -/
def okS (s : Str) : Bool := s == "all" || s == "none" || s == "All"
def okA : PyData → Bool
  | .none => true
  | .bool _ => true
  | .int i => small i
  | .str s => okS s
  | _ => false
def okW : Nat → PyData → Bool
  | 0, d => okA d
  | n + 1, d => match d with
    | .list xs => decide (xs.length ≤ 20) && xs.all (okW n)
    | .tuple xs => decide (xs.length ≤ 20) && xs.all (okW n)
    | d => okA d
theorem okS_cases {s : Str} (h : okS s = true) : s = "all" ∨ s = "none" ∨ s = "All" := by
  unfold okS at h
  simp only [Bool.or_eq_true, beq_iff_eq] at h
  rcases h with (h | h) | h
  · exact .inl h
  · exact .inr (.inl h)
  · exact .inr (.inr h)
theorem okA_lay {d : PyData} (h : okA d = true) : lay 0 d = true := by
  cases d with
  | str s =>
    rcases okS_cases h with rfl | rfl | rfl <;> decide +kernel
  | none => rfl
  | bool b => rfl
  | int i => rfl
  | _ => cases h
theorem okW_lay : ∀ {n : Nat} {d : PyData}, okW n d = true → lay n d = true
  | 0, _, h => okA_lay h
  | n + 1, d, h => by
    cases d with
    | list xs =>
      unfold okW at h
      rw [Bool.and_eq_true, List.all_eq_true] at h
      exact lay_list fun x hx => okW_lay (h.2 x hx)
    | tuple xs =>
      unfold okW at h
      rw [Bool.and_eq_true, List.all_eq_true] at h
      exact lay_tuple fun x hx => okW_lay (h.2 x hx)
    | str s => exact lay_mono (okA_lay (d := .str s) h) (Nat.zero_le _)
    | none => rfl
    | bool b => rfl
    | int i => rfl
    | dict kvs => cases h
theorem okW_succ : ∀ {n : Nat} {d : PyData}, okW n d = true → okW (n + 1) d = true
  | 0, d, h => by cases d <;> first | exact h | cases h
  | n + 1, d, h => by
    cases d with
    | list xs =>
      unfold okW at h ⊢
      rw [Bool.and_eq_true, List.all_eq_true] at h ⊢
      exact ⟨h.1, fun x hx => okW_succ (h.2 x hx)⟩
    | tuple xs =>
      unfold okW at h ⊢
      rw [Bool.and_eq_true, List.all_eq_true] at h ⊢
      exact ⟨h.1, fun x hx => okW_succ (h.2 x hx)⟩
    | _ => exact h
theorem okW_tup {n : Nat} {xs : List PyData} (h : okW (n + 1) (.tuple xs) = true) : xs.length ≤ 20 ∧ ∀ x ∈ xs, okW n x = true := by
  unfold okW at h
  rw [Bool.and_eq_true, List.all_eq_true] at h
  exact ⟨of_decide_eq_true h.1, h.2⟩
theorem tup_okW {n : Nat} {xs : List PyData} (h : xs.length ≤ 20) (h2 : ∀ x ∈ xs, okW n x = true) : okW (n + 1) (.tuple xs) = true := by
  unfold okW
  rw [Bool.and_eq_true, List.all_eq_true]
  exact ⟨decide_eq_true h, h2⟩
theorem list_okW {n : Nat} {xs : List PyData} (h : xs.length ≤ 20) (h2 : ∀ x ∈ xs, okW n x = true) : okW (n + 1) (.list xs) = true := by
  unfold okW
  rw [Bool.and_eq_true, List.all_eq_true]
  exact ⟨decide_eq_true h, h2⟩
theorem okW_shaped {n : Nat} {d : PyData} (h : okW n d = true) (hn : n ≤ 64) : SeqAt.shaped d = true := lay_shaped (okW_lay h) hn
theorem showAll_of : ∀ {xs : List PyData}, (∀ x ∈ xs, PyData.showable x = true) → PyData.showableAll xs = true
  | [], _ => rfl
  | x :: xs, h => by
    unfold PyData.showableAll
    rw [h x (by simp), showAll_of fun y hy => h y (List.mem_cons_of_mem _ hy)]
    rfl
theorem okA_show {d : PyData} (h : okA d = true) : d.showable = true := by
  cases d with
  | int i => rcases small_cases h with rfl | rfl | rfl | rfl | rfl | rfl | rfl | rfl | rfl | rfl | rfl | rfl | rfl | rfl | rfl | rfl | rfl | rfl | rfl | rfl | rfl <;> decide +kernel
  | none => rfl
  | bool b => rfl
  | str s => rfl
  | _ => cases h
theorem okW_show : ∀ {n : Nat} {d : PyData}, okW n d = true → d.showable = true
  | 0, _, h => okA_show h
  | n + 1, d, h => by
    cases d with
    | list xs =>
      unfold okW at h
      rw [Bool.and_eq_true, List.all_eq_true] at h
      exact showAll_of fun x hx => okW_show (h.2 x hx)
    | tuple xs =>
      unfold okW at h
      rw [Bool.and_eq_true, List.all_eq_true] at h
      exact showAll_of fun x hx => okW_show (h.2 x hx)
    | str s => exact okA_show (d := .str s) h
    | none => rfl
    | bool b => rfl
    | int i => exact okA_show (d := .int i) h
    | dict kvs => cases h
def bnd : Nat → Nat
  | 0 => 6
  | n + 1 => 3 + 20 * (bnd n + 2)
theorem len_cs (s : Str) : s.length = (cs s).length := rfl
theorem joinC_len {b : Nat} : ∀ {ts : List (List Nat)}, (∀ t ∈ ts, t.length ≤ b) → (joinC ts).length ≤ ts.length * (b + 2)
  | [], _ => Nat.zero_le _
  | [x], h => by have := h x (by simp); simp [joinC]; omega
  | x :: y :: r, h => by
    have h1 := h x (by simp)
    have h2 := joinC_len fun t ht => h t (List.mem_cons_of_mem x ht)
    unfold joinC
    rw [List.length_append, List.length_cons, List.length_cons]
    rw [List.length_cons (a := x), Nat.succ_mul]
    omega
theorem textFrom_le {b : Nat} : ∀ (ts : List Str) (k : Nat) (acc : Str), (∀ t ∈ ts, t.length ≤ b) → (textFrom k acc ts).length ≤ acc.length + ts.length * (b + 2)
  | [], _, _, _ => by unfold textFrom; omega
  | t :: r, k, acc, h => by
    unfold textFrom
    have h1 := h t (by simp)
    have h2 := textFrom_le r (k + 1) (acc ++ (if k > 0 then ", " else "" : String) ++ t) fun x hx => h x (List.mem_cons_of_mem _ hx)
    have e : (acc ++ (if k > 0 then ", " else "" : String) ++ t).length = acc.length + (if k > 0 then 2 else 0) + t.length := by
      rw [strLen_append, strLen_append]
      congr 2
      split <;> rfl
    rw [e] at h2
    have h3 : (if k > 0 then 2 else 0) ≤ 2 := by split <;> omega
    rw [List.length_cons, Nat.succ_mul]
    omega
theorem okA_len {d : PyData} (h : okA d = true) : d.shown.length ≤ 6 := by
  cases d with
  | int i =>
    rcases small_cases h with rfl | rfl | rfl | rfl | rfl | rfl | rfl | rfl | rfl | rfl | rfl | rfl | rfl | rfl | rfl | rfl | rfl | rfl | rfl | rfl | rfl <;> decide +kernel
  | none => decide +kernel
  | bool b => cases b <;> decide +kernel
  | str s => rcases okS_cases h with rfl | rfl | rfl <;> decide +kernel
  | _ => cases h
theorem bnd6 : ∀ n, 6 ≤ bnd n
  | 0 => Nat.le_refl _
  | n + 1 => by unfold bnd; have := bnd6 n; omega
theorem okW_len : ∀ {n : Nat} {d : PyData}, okW n d = true → d.shown.length ≤ bnd n
  | 0, _, h => okA_len h
  | n + 1, d, h => by
    cases d with
    | list xs =>
      unfold okW at h
      rw [Bool.and_eq_true, List.all_eq_true] at h
      have hl := of_decide_eq_true h.1
      show (textFrom 0 "[" (PyData.shownAll xs) ++ "]").length ≤ _
      rw [strLen_append, shownAll_map]
      have := textFrom_le (b := bnd n) (xs.map PyData.shown) 0 "[" fun t ht => by
        obtain ⟨x, hx, rfl⟩ := List.mem_map.mp ht
        exact okW_len (h.2 x hx)
      rw [List.length_map] at this
      have e1 : (("[" : String) : Str).length = 1 := by decide +kernel
      have e2 : (("]" : String) : Str).length = 1 := by decide +kernel
      have e3 : xs.length * (bnd n + 2) ≤ 20 * (bnd n + 2) := Nat.mul_le_mul_right _ hl
      rw [e1] at this
      rw [e2]
      unfold bnd
      omega
    | tuple xs =>
      unfold okW at h
      rw [Bool.and_eq_true, List.all_eq_true] at h
      have hl := of_decide_eq_true h.1
      rw [len_cs, cs_tuple]
      have := joinC_len (b := bnd n) (ts := xs.map fun x => cs x.shown) fun t ht => by
        obtain ⟨x, hx, rfl⟩ := List.mem_map.mp ht
        exact okW_len (h.2 x hx)
      rw [List.length_map] at this
      have e2 : (tailC xs.length).length ≤ 2 := by unfold tailC; split <;> decide
      have e3 : xs.length * (bnd n + 2) ≤ 20 * (bnd n + 2) := Nat.mul_le_mul_right _ hl
      rw [List.length_cons, List.length_append]
      unfold bnd
      omega
    | str s => exact Nat.le_trans (okA_len (d := .str s) h) (bnd6 _)
    | none => exact Nat.le_trans (okA_len (d := .none) rfl) (bnd6 _)
    | bool b => exact Nat.le_trans (okA_len (d := .bool b) rfl) (bnd6 _)
    | int i => exact Nat.le_trans (okA_len (d := .int i) h) (bnd6 _)
    | dict kvs => cases h
theorem okW_repr {n : Nat} {d : PyData} (h : okW n d = true) (hn : n ≤ 4) : okRepr d = true := by
  have h1 := okW_lay h
  unfold lay at h1
  rw [Bool.and_eq_true] at h1
  unfold okRepr
  rw [Bool.and_eq_true, Bool.and_eq_true, Bool.and_eq_true]
  refine ⟨⟨⟨okW_show h, ?_⟩, ?_⟩, ?_⟩
  · unfold noDictB
    rw [PyData.hasDict_of_canLay d h1.1]
    rfl
  · have := of_decide_eq_true h1.2
    exact decide_eq_true (by omega)
  · have h2 := okW_len h
    have h3 : bnd n ≤ bnd 4 := by
      have : n = 0 ∨ n = 1 ∨ n = 2 ∨ n = 3 ∨ n = 4 := by omega
      rcases this with rfl | rfl | rfl | rfl | rfl <;> decide
    have h4 : bnd 4 = 1322103 := by decide
    exact decide_eq_true (by omega)
theorem v_repr {n : Nat} {d : PyData} (h : okW n d = true) (hn : n ≤ 4) : reprF [d] = some (.d (.str d.shown)) := by
  show (if okRepr d then some (Vl.d (.str d.shown)) else none) = _
  rw [okW_repr h hn]
  rfl
theorem okW_natT {l : List Nat} (h4 : l.length ≤ 4) (h : ∀ i ∈ l, i < 4) : okW 1 (natT l) = true := tup_okW (by simp; omega) fun x hx => by
  obtain ⟨i, hi, rfl⟩ := List.mem_map.mp hx
  have := h i hi
  show small (i : Int) = true
  unfold small
  simp
  omega
theorem okW_row {r : List Int} (h4 : r.length ≤ 20) (h : ∀ i ∈ r, -10 ≤ i ∧ i ≤ 10) : okW 1 (rowD r) = true := tup_okW (by simpa using h4) fun x hx => by
  obtain ⟨i, hi, rfl⟩ := List.mem_map.mp hx
  have := h i hi
  show small i = true
  unfold small
  simpa using this
/-- shown alike is alike -/
theorem okW_shown {n : Nat} {d : PyData} (h : okW n d = true) {l : List Nat} (hl : ∀ i ∈ l, i < 10) (hn : l ≠ []) (ht : isT d = true) (e : d.shown = (natT l).shown) : d = natT l := by
  cases d with
  | tuple xs =>
    cases n with
    | zero => cases h
    | succ n =>
      refine shown_natT hl hn (fun x hx => ?_) e
      have hw := (okW_tup h).2 x hx
      have hlay := okW_lay hw
      refine ⟨fun i hi => ?_, fun kvs hk => ?_⟩
      · subst hi
        cases n <;> exact hw
      · subst hk
        cases n <;> cases hw
  | _ => cases ht
end L2.K72

namespace L2.K72
open PySem PySem.Spec PyProof.Rows L2.DL
theorem runP_ex {k : Nat} {f : Mo Fl} {ds : List PyData} {P : PyData → Prop} (h : Run f (ds.map .d ++ List.replicate k .un) fun fl e' => ∃ d, P d ∧ fl = .rt (.d d)) : ∃ d, P d ∧ runP k f ds = some (.ret (.d d)) := by
  obtain ⟨fl, e', h1, d, hd, rfl⟩ := h
  refine ⟨d, hd, ?_⟩
  unfold runP
  rw [h1]
  rfl
theorem chL_ok (m : Nat) (h1 : 1 ≤ m) (h4 : m ≤ 4) : ∀ l ∈ chL m, Ch l m := by
  have key : ∀ l ∈ chL m, 1 ≤ l.length ∧ l.length ≤ 4 ∧ ∀ i ∈ l, i < m := by
    have : m = 1 ∨ m = 2 ∨ m = 3 ∨ m = 4 := by omega
    rcases this with rfl | rfl | rfl | rfl <;> decide
  exact fun l h => ⟨(key l h).1, (key l h).2.1, (key l h).2.2⟩
def prD (p : List Nat × List Int) : PyData := .tuple [natT p.1, rowD p.2]
structure PrOk (m : Nat) (p : List Nat × List Int) : Prop where
  ch : Ch p.1 m
  sg : p.2 ∈ signsL p.1.length
inductive Val (m : Nat) : PyData → Prop where
  | no (l : List Nat) : Ch l m → Val m (.tuple [.str "none", natT l])
  | al (ps : List (List Nat × List Int)) : (∀ p ∈ ps, PrOk m p) → ps.length ≤ 15 → Val m (.tuple [.str "all", .tuple (ps.map prD)])
theorem alikeAll_ints : ∀ (a b : List Int), PySem.W.alikeAll (a.map PyData.int) (b.map PyData.int) = true
  | [], _ => by unfold PySem.W.alikeAll; cases (List.map PyData.int ‹_›) <;> rfl
  | _ :: _, [] => rfl
  | x :: a, y :: b => by
    show (PySem.W.alike (.int x) (.int y) && PySem.W.alikeAll (a.map PyData.int) (b.map PyData.int)) = true
    rw [alikeAll_ints a b]
    rfl
theorem nat_ints (l : List Nat) : (l.map fun (i : Nat) => PyData.int (i : Int)) = (l.map fun (i : Nat) => (i : Int)).map PyData.int := by
  rw [List.map_map]
  rfl
theorem alike_pr (p q : List Nat × List Int) : PySem.W.alike (prD p) (prD q) = true := by
  show (PySem.W.alikeAll (p.1.map fun (i : Nat) => PyData.int (i : Int)) (q.1.map fun (i : Nat) => PyData.int (i : Int)) && (PySem.W.alikeAll (p.2.map PyData.int) (q.2.map PyData.int) && PySem.W.alikeAll [] [])) = true
  rw [nat_ints, nat_ints, alikeAll_ints, alikeAll_ints]
  rfl
theorem lay_pr (p : List Nat × List Int) : lay 2 (prD p) = true := lay_tuple fun x hx => by
  rcases List.mem_cons.mp hx with rfl | hx
  · exact lay_natT p.1
  · rcases List.mem_cons.mp hx with rfl | hx
    · exact lay_row p.2
    · cases hx
theorem ok_sort_pr (ps : List (List Nat × List Int)) (h : ps.length ≤ 1000) : okSort (ps.map prD) = true := by
  unfold okSort
  rw [Bool.and_eq_true, Bool.and_eq_true, Bool.and_eq_true, Bool.or_eq_true]
  refine ⟨⟨⟨?_, .inl ?_⟩, ?_⟩, ?_⟩
  · unfold alikeB
    rw [List.all_eq_true]
    intro d hd
    rw [List.all_eq_true]
    intro e he
    obtain ⟨p, _, rfl⟩ := List.mem_map.mp hd
    obtain ⟨q, _, rfl⟩ := List.mem_map.mp he
    exact alike_pr p q
  · rw [List.all_eq_true]
    intro d hd
    obtain ⟨p, _, rfl⟩ := List.mem_map.mp hd
    rfl
  · rw [List.all_eq_true]
    intro d hd
    obtain ⟨p, _, rfl⟩ := List.mem_map.mp hd
    have h1 := lay_pr p
    unfold lay at h1
    rw [Bool.and_eq_true] at h1
    have := of_decide_eq_true h1.2
    exact decide_eq_true (by omega)
  · unfold big
    rw [List.length_map]
    exact decide_eq_true (by omega)
theorem prs_of {m : Nat} : ∀ {zs : List PyData}, (∀ z ∈ zs, ∃ p, PrOk m p ∧ z = prD p) → ∃ ps : List (List Nat × List Int), (∀ p ∈ ps, PrOk m p) ∧ zs = ps.map prD
  | [], _ => ⟨[], (fun _ h => nomatch h), rfl⟩
  | z :: zs, h => by
    obtain ⟨ps, h1, rfl⟩ := prs_of (m := m) fun y hy => h y (List.mem_cons_of_mem _ hy)
    obtain ⟨p, hp, rfl⟩ := h z (List.mem_cons_self ..)
    exact ⟨p :: ps, fun q hq => by rcases List.mem_cons.mp hq with rfl | hq; (· exact hp); exact h1 q hq, rfl⟩
theorem v_sort_pr {m : Nat} {ps : List (List Nat × List Int)} (h : ∀ p ∈ ps, PrOk m p) (hl : ps.length ≤ 1000) : ∃ qs : List (List Nat × List Int), (∀ q ∈ qs, PrOk m q) ∧ qs.length = ps.length ∧ sortF [.list (ps.map prD)] = some (.fr (qs.map prD)) := by
  have e : isort dLe (ps.map prD) = (ps.map prD).mergeSort dLe := isort_eq dLe_total _
  obtain ⟨qs, h1, h2⟩ := prs_of (m := m) (zs := isort dLe (ps.map prD)) fun z hz => by
    rw [e, List.mem_mergeSort] at hz
    obtain ⟨p, hp, rfl⟩ := List.mem_map.mp hz
    exact ⟨p, h p hp, rfl⟩
  refine ⟨qs, h1, ?_, ?_⟩
  · have := congrArg List.length h2
    rw [e, List.length_mergeSort, List.length_map, List.length_map] at this
    exact this.symm
  · show (if okSort (ps.map prD) then some (Vl.fr (isort dLe (ps.map prD))) else none) = _
    rw [ok_sort_pr ps hl, h2]
    rfl
theorem prs_nil {m : Nat} : ∀ p ∈ ([] : List (List Nat × List Int)), PrOk m p := fun p h => nomatch h
theorem app_pr (ps : List (List Nat × List Int)) (p : List Nat × List Int) (h : ps.length < 1000) : appendF (ps.map prD) [.tuple [natT p.1, rowD p.2]] = some (.none, (ps ++ [p]).map prD) := by
  unfold appendF
  simp only [List.length_map]
  rw [if_pos (by omega)]
  simp [prD]
theorem v_halvings {rs : List (List Int)} {m w : Nat} (T : Tb rs m w) : ∃ d, Val m d ∧ F_halvings [tabD rs] = some (.ret (.d d)) := by
  refine runP_ex ?_
  unfold m_halvings m_halvings_1 m_halvings_2 m_halvings_7
  have e1 := v_need_table T
  have e2 : F_choices [tabD rs] = some (.ret (.fr ((chL m).map natT))) := by
    have := v_choices (rs.map rowD) (by rw [List.length_map, T.len]; exact T.m1) (by rw [List.length_map, T.len]; exact T.m4)
    rw [List.length_map, T.len] at this
    exact this
  have hlen : (chL m).length ≤ 15 := by
    have := T.m1; have := T.m4
    have : m = 1 ∨ m = 2 ∨ m = 3 ∨ m = 4 := by omega
    rcases this with rfl | rfl | rfl | rfl <;> decide
  simp only [↓u_callFE e1, ↓u_callFE e2, ↓u_lift, ↓u_callF, ↓u_callM, ↓u_eC, ↓u_eBin, ↓u_eUn, ↓u_aNil, ↓u_aCons, ↓u_peeks0, ↓u_peeks1, ↓u_freezes0, ↓u_freezes1, ↓u_eTup, ↓u_eLst, ↓u_eCall, ↓u_eFn, ↓u_cV, ↓u_cAnd, ↓u_cOr, ↓u_cNot, ↓u_cYes, ↓u_eIf, ↓u_eAnd, ↓u_eOr, ↓u_sSet, ↓u_sSeq, ↓u_sNx, ↓u_sIf, ↓u_sExpr, ↓u_sRet, ↓u_iSeq, ↓u_iRng, ↓u_iZips, ↓u_sFor, ↓u_eLc, ↓u_eMut, ↓u_eExt, ↓u_eFnM, ↓u_sSets, ↓u_stores0, ↓u_stores1, ↓u_sAsg, ↓u_bSub, ↓run_peek, ↓run_freeze, ↓run_var, ↓run_store, ↓run_bName, ↓run_isOwn, ↓run_extM, ↓run_bnd, ↓run_ret, ↓reduceIte, asRet, asRetM, List.map_cons, List.map_nil, List.replicate, List.cons_append, List.nil_append, List.append_nil, List.getElem?_cons_zero, List.getElem?_cons_succ, List.set_cons_zero, List.set_cons_succ, addF, subF, isi_int, isi_bool, isi_tuple, isi_str, isi_list, lenF, ltF, leF, gtF, geF, cmpF, negF, absF, intF, tupF, lstF, notF, seqOf, List.length_cons, List.length_nil, Nat.zero_add, Nat.reduceAdd, Bool.not_true, Bool.not_false, Bool.false_eq_true, Option.map_some, wipeE, Nat.zero_le]
  refine run_for _ (fun i e => ∃ (ps : List (List Nat × List Int)) (x2 x3 : Md), (∀ p ∈ ps, PrOk m p) ∧ ps.length = i ∧ e = [.d (tabD rs), .own (ps.map prD), x2, x3]) ⟨[], _, _, prs_nil, rfl, rfl⟩ ?_ ?_
  · rintro i x e hx ⟨ps, x2, x3, hp, hl, rfl⟩
    have hi : i < 15 := by have := (List.getElem?_eq_some_iff.mp hx).1; rw [List.length_map] at this; omega
    obtain ⟨l, hm, rfl⟩ := List.mem_map.mp (List.mem_of_getElem? hx)
    have C := chL_ok m T.m1 T.m4 l hm
    have e3 := v_first_halving T C
    unfold m_halvings_3 m_halvings_5
    simp only [↓u_callFE e3, ↓u_lift, ↓u_callF, ↓u_callM, ↓u_eC, ↓u_eBin, ↓u_eUn, ↓u_aNil, ↓u_aCons, ↓u_peeks0, ↓u_peeks1, ↓u_freezes0, ↓u_freezes1, ↓u_eTup, ↓u_eLst, ↓u_eCall, ↓u_eFn, ↓u_cV, ↓u_cAnd, ↓u_cOr, ↓u_cNot, ↓u_cYes, ↓u_eIf, ↓u_eAnd, ↓u_eOr, ↓u_sSet, ↓u_sSeq, ↓u_sNx, ↓u_sIf, ↓u_sExpr, ↓u_sRet, ↓u_iSeq, ↓u_iRng, ↓u_iZips, ↓u_sFor, ↓u_eLc, ↓u_eMut, ↓u_eExt, ↓u_eFnM, ↓u_sSets, ↓u_stores0, ↓u_stores1, ↓u_sAsg, ↓u_bSub, ↓run_peek, ↓run_freeze, ↓run_var, ↓run_store, ↓run_bName, ↓run_isOwn, ↓run_extM, ↓run_bnd, ↓run_ret, ↓reduceIte, asRet, asRetM, List.map_cons, List.map_nil, List.replicate, List.cons_append, List.nil_append, List.append_nil, List.getElem?_cons_zero, List.getElem?_cons_succ, List.set_cons_zero, List.set_cons_succ, addF, subF, isi_int, isi_bool, isi_tuple, isi_str, isi_list, lenF, ltF, leF, gtF, geF, cmpF, negF, absF, intF, tupF, lstF, notF, seqOf, List.length_cons, List.length_nil, Nat.zero_add, Nat.reduceAdd, Bool.not_true, Bool.not_false, Bool.false_eq_true, Option.map_some, wipeE]
    cases hf : fh rs w l with
    | none =>
      unfold m_halvings_4
      simp only [optD, isF, isNonD, ↓u_lift, ↓u_callF, ↓u_callM, ↓u_eC, ↓u_eBin, ↓u_eUn, ↓u_aNil, ↓u_aCons, ↓u_peeks0, ↓u_peeks1, ↓u_freezes0, ↓u_freezes1, ↓u_eTup, ↓u_eLst, ↓u_eCall, ↓u_eFn, ↓u_cV, ↓u_cAnd, ↓u_cOr, ↓u_cNot, ↓u_cYes, ↓u_eIf, ↓u_eAnd, ↓u_eOr, ↓u_sSet, ↓u_sSeq, ↓u_sNx, ↓u_sIf, ↓u_sExpr, ↓u_sRet, ↓u_iSeq, ↓u_iRng, ↓u_iZips, ↓u_sFor, ↓u_eLc, ↓u_eMut, ↓u_eExt, ↓u_eFnM, ↓u_sSets, ↓u_stores0, ↓u_stores1, ↓u_sAsg, ↓u_bSub, ↓run_peek, ↓run_freeze, ↓run_var, ↓run_store, ↓run_bName, ↓run_isOwn, ↓run_extM, ↓run_bnd, ↓run_ret, ↓reduceIte, asRet, asRetM, List.map_cons, List.map_nil, List.replicate, List.cons_append, List.nil_append, List.append_nil, List.getElem?_cons_zero, List.getElem?_cons_succ, List.set_cons_zero, List.set_cons_succ, addF, subF, isi_int, isi_bool, isi_tuple, isi_str, isi_list, lenF, ltF, leF, gtF, geF, cmpF, negF, absF, intF, tupF, lstF, notF, seqOf, List.length_cons, List.length_nil, Nat.zero_add, Nat.reduceAdd, Bool.not_true, Bool.not_false, Bool.false_eq_true, Option.map_some, wipeE, Nat.reduceLeDiff, decide_true, if_true]
      exact ⟨_, .no l C, rfl⟩
    | some ss =>
      have hs : ss ∈ signsL l.length := List.mem_of_find?_eq_some hf
      have ea := app_pr ps (l, ss) (by omega)
      unfold m_halvings_6
      have ei : isF (rowD ss) .none = some (.d (.bool false)) := rfl
      simp only [optD, ei, ↓u_lift, ↓u_callF, ↓u_callM, ↓u_eC, ↓u_eBin, ↓u_eUn, ↓u_aNil, ↓u_aCons, ↓u_peeks0, ↓u_peeks1, ↓u_freezes0, ↓u_freezes1, ↓u_eTup, ↓u_eLst, ↓u_eCall, ↓u_eFn, ↓u_cV, ↓u_cAnd, ↓u_cOr, ↓u_cNot, ↓u_cYes, ↓u_eIf, ↓u_eAnd, ↓u_eOr, ↓u_sSet, ↓u_sSeq, ↓u_sNx, ↓u_sIf, ↓u_sExpr, ↓u_sRet, ↓u_iSeq, ↓u_iRng, ↓u_iZips, ↓u_sFor, ↓u_eLc, ↓u_eMut, ↓u_eExt, ↓u_eFnM, ↓u_sSets, ↓u_stores0, ↓u_stores1, ↓u_sAsg, ↓u_bSub, ↓run_peek, ↓run_freeze, ↓run_var, ↓run_store, ↓run_bName, ↓run_isOwn, ↓run_extM, ↓run_bnd, ↓run_ret, ↓reduceIte, asRet, asRetM, List.map_cons, List.map_nil, List.replicate, List.cons_append, List.nil_append, List.append_nil, List.getElem?_cons_zero, List.getElem?_cons_succ, List.set_cons_zero, List.set_cons_succ, addF, subF, isi_int, isi_bool, isi_tuple, isi_str, isi_list, lenF, ltF, leF, gtF, geF, cmpF, negF, absF, intF, tupF, lstF, notF, seqOf, List.length_cons, List.length_nil, Nat.zero_add, Nat.reduceAdd, Bool.not_true, Bool.not_false, Bool.false_eq_true, Option.map_some, wipeE, ea, Nat.reduceLeDiff]
      exact ⟨ps ++ [(l, ss)], _, _, fun p h => by rcases List.mem_append.mp h with h | h; (· exact hp p h); simp at h; subst h; exact ⟨C, hs⟩, by simp [hl], rfl⟩
  · rintro e ⟨ps, x2, x3, hp, hl, rfl⟩
    rw [List.length_map] at hl
    obtain ⟨qs, h1, h2, e4⟩ := v_sort_pr hp (by omega)
    unfold m_halvings_8
    have et : tupF [.list (qs.map prD)] = some (.d (.tuple (qs.map prD))) := rfl
    simp only [↓u_lift, ↓u_callF, ↓u_callM, ↓u_eC, ↓u_eBin, ↓u_eUn, ↓u_aNil, ↓u_aCons, ↓u_peeks0, ↓u_peeks1, ↓u_freezes0, ↓u_freezes1, ↓u_eTup, ↓u_eLst, ↓u_eCall, ↓u_eFn, ↓u_cV, ↓u_cAnd, ↓u_cOr, ↓u_cNot, ↓u_cYes, ↓u_eIf, ↓u_eAnd, ↓u_eOr, ↓u_sSet, ↓u_sSeq, ↓u_sNx, ↓u_sIf, ↓u_sExpr, ↓u_sRet, ↓u_iSeq, ↓u_iRng, ↓u_iZips, ↓u_sFor, ↓u_eLc, ↓u_eMut, ↓u_eExt, ↓u_eFnM, ↓u_sSets, ↓u_stores0, ↓u_stores1, ↓u_sAsg, ↓u_bSub, ↓run_peek, ↓run_freeze, ↓run_var, ↓run_store, ↓run_bName, ↓run_isOwn, ↓run_extM, ↓run_bnd, ↓run_ret, ↓reduceIte, asRet, asRetM, List.map_cons, List.map_nil, List.replicate, List.cons_append, List.nil_append, List.append_nil, List.getElem?_cons_zero, List.getElem?_cons_succ, List.set_cons_zero, List.set_cons_succ, addF, subF, isi_int, isi_bool, isi_tuple, isi_str, isi_list, lenF, ltF, leF, gtF, geF, cmpF, negF, absF, intF, tupF, lstF, notF, seqOf, List.length_cons, List.length_nil, Nat.zero_add, Nat.reduceAdd, Bool.not_true, Bool.not_false, Bool.false_eq_true, Option.map_some, wipeE, e4, et, Nat.reduceLeDiff]
    exact ⟨_, .al qs h1 (by omega), rfl⟩
end L2.K72

namespace L2.K72
open PySem PySem.Spec PyProof.Rows L2.DL
def natsOf : PyData → Option (List Nat)
  | .tuple xs => (intsOf xs).map fun zs => zs.map Int.toNat
  | _ => none
theorem natsOf_nat (l : List Nat) : natsOf (natT l) = some l := by
  unfold natsOf natT
  dsimp only
  rw [nat_ints, intsOf_map]
  show some ((l.map fun (i : Nat) => (i : Int)).map Int.toNat) = _
  rw [List.map_map]
  congr 1
  exact (List.map_congr_left fun i _ => Int.toNat_natCast i).trans (List.map_id l)
theorem natT_inj {l l' : List Nat} (h : natT l = natT l') : l = l' := by
  have := congrArg natsOf h
  rw [natsOf_nat, natsOf_nat] at this
  exact Option.some.inj this
def natB (l : List Nat) (d : PyData) : Bool := match d with
  | .tuple xs => (match intsOf xs with
    | some zs => zs == l.map fun (i : Nat) => (i : Int)
    | none => false)
  | _ => false
theorem natB_eq {l : List Nat} {d : PyData} (h : natB l d = true) : d = natT l := by
  cases d with
  | tuple xs =>
    unfold natB at h
    dsimp only at h
    cases hi : intsOf xs with
    | none => rw [hi] at h; cases h
    | some zs =>
      rw [hi] at h
      dsimp only at h
      rw [beq_iff_eq] at h
      rw [intsOf_some hi, h]
      unfold natT
      rw [nat_ints]
  | _ => cases h
theorem natB_self (l : List Nat) : natB l (natT l) = true := by
  unfold natB natT
  dsimp only
  rw [nat_ints, intsOf_map]
  simp
theorem natB_nat (l l' : List Nat) : natB l (natT l') = (l' == l) := by
  cases h : natB l (natT l') with
  | true =>
    have := natT_inj (natB_eq h)
    rw [this]
    simp
  | false =>
    symm
    rw [beq_eq_false_iff_ne]
    rintro rfl
    rw [natB_self] at h
    cases h
def vB (rs : List (List Int)) (w : Nat) (l : List Nat) (o : PyData) : Bool := match o with
  | .tuple [a, v] => natB l a && ihB rs w l v
  | _ => false
def allB (rs : List (List Int)) (w : Nat) : List (List Nat) → List PyData → Bool
  | [], [] => true
  | l :: ls, x :: xs => vB rs w l x && allB rs w ls xs
  | [], _ :: _ => false
  | _ :: _, [] => false
section
variable {rs : List (List Int)} {w : Nat}
theorem allB_len : ∀ {so : List (List Nat)} {xs : List PyData}, xs.length ≠ so.length → allB rs w so xs = false
  | [], [], h => absurd rfl h
  | [], _ :: _, _ => rfl
  | _ :: _, [], _ => rfl
  | l :: ls, x :: xs, h => by
    unfold allB
    rw [allB_len (so := ls) (xs := xs) (by simpa using h), Bool.and_false]
theorem allB_mem {o : PyData} : ∀ {so : List (List Nat)} {xs : List PyData}, o ∈ xs → (∀ l ∈ so, vB rs w l o = false) → allB rs w so xs = false
  | _, [], h, _ => by cases h
  | [], _ :: _, _, _ => rfl
  | l :: ls, x :: xs, h, hv => by
    unfold allB
    rcases List.mem_cons.mp h with rfl | h
    · rw [hv l (by simp), Bool.false_and]
    · rw [allB_mem h fun l hl => hv l (List.mem_cons_of_mem _ hl), Bool.and_false]
theorem allB_at {l : List Nat} {o : PyData} : ∀ {so : List (List Nat)} {xs : List PyData} (j : Nat), so[j]? = some l → xs[j]? = some o → vB rs w l o = false → allB rs w so xs = false
  | [], _, _, h, _, _ => by simp at h
  | _ :: _, [], _, _, h, _ => by simp at h
  | l' :: ls, x :: xs, 0, h, h', hv => by
    simp at h h'
    subst h h'
    unfold allB
    rw [hv, Bool.false_and]
  | l' :: ls, x :: xs, j + 1, h, h', hv => by
    unfold allB
    rw [allB_at (so := ls) (xs := xs) j (by simpa using h) (by simpa using h') hv, Bool.and_false]
theorem allB_true : ∀ {so : List (List Nat)} {xs : List PyData}, xs.length = so.length → (∀ (j : Nat) l o, so[j]? = some l → xs[j]? = some o → vB rs w l o = true) → allB rs w so xs = true
  | [], [], _, _ => rfl
  | [], _ :: _, h, _ => by simp at h
  | _ :: _, [], h, _ => by simp at h
  | l :: ls, x :: xs, h, hv => by
    unfold allB
    rw [hv 0 l x rfl rfl, allB_true (so := ls) (xs := xs) (by simpa using h) fun j l o h1 h2 => hv (j + 1) l o (by simpa using h1) (by simpa using h2)]
    rfl
def mkP (p : List Nat × PyData) : PyData := .tuple [natT p.1, p.2]
theorem allB_ps : ∀ (so : List (List Nat)) (ps : List (List Nat × PyData)), allB rs w so (ps.map mkP) = ((ps.map Prod.fst == so) && ps.all fun p => ihB rs w p.1 p.2)
  | [], [] => rfl
  | [], _ :: _ => rfl
  | _ :: _, [] => rfl
  | l :: ls, p :: ps => by
    show (vB rs w l (mkP p) && allB rs w ls (ps.map mkP)) = _
    rw [allB_ps ls ps]
    unfold vB mkP
    dsimp only
    rw [natB_nat]
    simp only [List.map_cons, List.all_cons, List.cons_beq_cons]
    cases hb : (p.1 == l) with
    | false => simp
    | true =>
      have := eq_of_beq hb
      subst this
      simp only [Bool.true_and]
      cases ihB rs w p.1 p.2 <;> simp
end
/-! ### choices -/
theorem idx_nat (m : Nat) (h1 : 1 ≤ m) (h4 : m ≤ 4) : ∀ l ∈ chL m, idxB (natT l) m = true := by
  have : m = 1 ∨ m = 2 ∨ m = 3 ∨ m = 4 := by omega
  rcases this with rfl | rfl | rfl | rfl <;> decide
theorem so_ch (m : Nat) (h1 : 1 ≤ m) (h4 : m ≤ 4) : ∀ l ∈ soL m, l ∈ chL m := by
  have : m = 1 ∨ m = 2 ∨ m = 3 ∨ m = 4 := by omega
  rcases this with rfl | rfl | rfl | rfl <;> decide
theorem so_len (m : Nat) (h1 : 1 ≤ m) (h4 : m ≤ 4) : (soL m).length = (chL m).length ∧ (chL m).length ≤ 15 := by
  have : m = 1 ∨ m = 2 ∨ m = 3 ∨ m = 4 := by omega
  rcases this with rfl | rfl | rfl | rfl <;> decide
theorem ch1 : ∀ m : Fin 5, ∀ a : Fin 4, a.val < m.val → [a.val] ∈ chL m.val := by decide
theorem ch2 : ∀ m : Fin 5, ∀ a b : Fin 4, a.val < b.val → b.val < m.val → [a.val, b.val] ∈ chL m.val := by decide
theorem ch3 : ∀ m : Fin 5, ∀ a b c : Fin 4, a.val < b.val → b.val < c.val → c.val < m.val → [a.val, b.val, c.val] ∈ chL m.val := by decide
theorem ch4 : ∀ m : Fin 5, ∀ a b c d : Fin 4, a.val < b.val → b.val < c.val → c.val < d.val → d.val < m.val → [a.val, b.val, c.val, d.val] ∈ chL m.val := by decide
theorem idx_ch {m : Nat} (h1 : 1 ≤ m) (h4 : m ≤ 4) {x : PyData} (h : idxB x m = true) : ∃ l ∈ chL m, x = natT l := by
  cases x with
  | tuple xs =>
    unfold idxB at h
    dsimp only at h
    rw [Bool.and_eq_true, Bool.and_eq_true, List.all_eq_true] at h
    obtain ⟨⟨ht, hb⟩, hu⟩ := h
    have hk : ∃ l : List Nat, xs = (l.map fun (i : Nat) => PyData.int (i : Int)) ∧ ∀ i ∈ l, i < m := by
      clear ht hu
      induction xs with
      | nil => exact ⟨[], rfl, fun i h => nomatch h⟩
      | cons x xs ih =>
        obtain ⟨l, rfl, hl⟩ := ih fun y hy => hb y (List.mem_cons_of_mem _ hy)
        have := hb x (List.mem_cons_self ..)
        cases x with
        | int i =>
          simp [btw] at this
          refine ⟨i.toNat :: l, ?_, fun j hj => ?_⟩
          · rw [List.map_cons, Int.toNat_of_nonneg this.1]
          · rcases List.mem_cons.mp hj with rfl | hj
            · omega
            · exact hl j hj
        | _ => cases this
    obtain ⟨l, rfl, hl⟩ := hk
    refine ⟨l, ?_, rfl⟩
    have hn : 1 ≤ l.length ∧ l.length ≤ m := by
      simp [tupw] at ht
      omega
    match l, hl, hn, hu with
    | [], _, hn, _ => simp at hn
    | [a], hl, _, _ =>
      have := hl a (by simp)
      exact ch1 ⟨m, by omega⟩ ⟨a, by omega⟩ this
    | [a, b], hl, _, hu =>
      have ha := hl a (by simp)
      have hb := hl b (by simp)
      simp [upsD, ltD] at hu
      exact ch2 ⟨m, by omega⟩ ⟨a, by omega⟩ ⟨b, by omega⟩ hu hb
    | [a, b, c], hl, _, hu =>
      have ha := hl a (by simp)
      have hb := hl b (by simp)
      have hc := hl c (by simp)
      simp [upsD, ltD] at hu
      exact ch3 ⟨m, by omega⟩ ⟨a, by omega⟩ ⟨b, by omega⟩ ⟨c, by omega⟩ hu.1 hu.2 hc
    | [a, b, c, d], hl, _, hu =>
      have ha := hl a (by simp)
      have hb := hl b (by simp)
      have hc := hl c (by simp)
      have hd := hl d (by simp)
      simp [upsD, ltD] at hu
      exact ch4 ⟨m, by omega⟩ ⟨a, by omega⟩ ⟨b, by omega⟩ ⟨c, by omega⟩ ⟨d, by omega⟩ hu.1 hu.2.1 hu.2.2 hd
    | a :: b :: c :: d :: e :: r, _, hn, _ => simp at hn; omega
  | _ => cases h
theorem ch_ne {m : Nat} (h1 : 1 ≤ m) (h4 : m ≤ 4) {l : List Nat} (h : l ∈ chL m) : l ≠ [] ∧ ∀ i ∈ l, i < 10 := by
  have C := chL_ok m h1 h4 l h
  refine ⟨fun e => ?_, fun i hi => by have := C.lt i hi; omega⟩
  subst e
  have := C.n1
  simp at this
def allT (rs : List (List Int)) (w m : Nat) : PyData → Bool
  | .tuple xs => allB rs w (soL m) xs
  | _ => false
/-- what both sides say -/
def judgeB (rs : List (List Int)) (w m : Nat) (d : PyData) : Bool := match d with
  | .tuple [.str s, x] => if s == "none" then idxB x m && (fh rs w ((natsOf x).getD [])).isNone else s == "all" && allT rs w m x
  | _ => false
end L2.K72

namespace L2.K72
open PySem PySem.Spec PyProof.Rows L2.DL
def wdB : PyData → Bool
  | .str s => s == "all" || s == "none"
  | _ => false
theorem v_is_word {n : Nat} {a : PyData} (h : okW n a = true) : F_is_word [a, .list [.str "all", .str "none"]] = some (.ret (.d (.bool (wdB a)))) := by
  cases a with
  | str s =>
    have hs : okS s = true := by cases n <;> exact h
    rcases okS_cases hs with rfl | rfl | rfl <;> kernel_rfl
  | _ =>
    refine runP_ok ?_
    unfold m_is_word m_is_word_1
    simp only [↓l_addI, ↓l_subI, ↓l_ltI, ↓l_leI, ↓l_gtI, ↓l_geI, ↓l_eqI, ↓l_neI, ↓l_negI, ↓l_notB, ↓l_lenT, ↓l_lenL, ↓l_tupL, ↓l_tupT, ↓l_lstL, ↓l_lstT, ↓l_at20, ↓l_at21, ↓l_seqL, ↓l_seqT, ↓l_isN, ↓u_bTup, ↓u_bAll0, ↓u_bAll1, ↓u_eSl, ↓u_partN, ↓u_partS, ↓u_eC, ↓u_eBin, ↓u_eUn, ↓u_aNil, ↓u_aCons, ↓u_peeks0, ↓u_peeks1, ↓u_freezes0, ↓u_freezes1, ↓u_eTup, ↓u_eLst, ↓u_eCall, ↓u_eFn, ↓u_cV, ↓u_cAnd, ↓u_cOr, ↓u_cNot, ↓u_cYes, ↓u_eIf, ↓u_eAnd, ↓u_eOr, ↓u_sSet, ↓u_sSeq, ↓u_sNx, ↓u_sIf, ↓u_sExpr, ↓u_sRet, ↓u_iSeq, ↓u_iRng, ↓u_iZips, ↓u_sFor, ↓u_eLc, ↓u_eMut, ↓u_eExt, ↓u_eFnM, ↓u_sSets, ↓u_stores0, ↓u_stores1, ↓u_sAsg, ↓u_bSub, ↓run_peek, ↓run_freeze, ↓run_var, ↓run_store, ↓run_bName, ↓run_isOwn, ↓run_extM, ↓run_bnd, ↓run_ret, ↓reduceIte, List.map_cons, List.map_nil, List.replicate, List.cons_append, List.nil_append, List.append_nil, List.getElem?_cons_zero, List.getElem?_cons_succ, List.set_cons_zero, List.set_cons_succ, List.length_cons, List.length_nil, Nat.zero_add, Nat.reduceAdd, Bool.not_true, Bool.not_false, Bool.false_eq_true, Option.map_some, wipeE, ↓u_callM2, asRet_d, asRet_fr, asRet_nx, asRetM_d, asRetM_nx, ↓u_liftE (isi_int _), ↓u_liftE (isi_bool _), ↓u_liftE (isi_tuple _), ↓u_liftE (isi_str _), ↓u_liftE (isi_list _), isS, wdB]
theorem at_0 (a x : PyData) : ixF (.tuple [a, x]) (.int 0) = some (.d a) := rfl
theorem at_1 (a x : PyData) : ixF (.tuple [a, x]) (.int 1) = some (.d x) := rfl
theorem wd_eqv {n : Nat} {a : PyData} (h : okW n a = true) (hw : wdB a = false) : PyData.eqv a (.str "none") = false ∧ PyData.eqv a (.str "all") = false := by
  cases a with
  | str s =>
    have hs : okS s = true := by cases n <;> exact h
    rcases okS_cases hs with rfl | rfl | rfl
    · exact absurd hw (by decide +kernel)
    · exact absurd hw (by decide +kernel)
    · decide +kernel
  | _ => exact ⟨rfl, rfl⟩
theorem judge_no {rs : List (List Int)} {w m : Nat} {a x : PyData} (hw : wdB a = false) : judgeB rs w m (.tuple [a, x]) = false := by
  cases a with
  | str s =>
    unfold judgeB
    dsimp only
    unfold wdB at hw
    rw [Bool.or_eq_false_iff] at hw
    rw [hw.1, hw.2]
    rfl
  | _ => rfl
theorem pair_or (d : PyData) : (∃ a x, d = .tuple [a, x]) ∨ (tupw d 2 2 = false ∧ ∀ rs w m, judgeB rs w m d = false) := by
  cases d with
  | tuple xs =>
    match xs with
    | [a, x] => exact .inl ⟨a, x, rfl⟩
    | [] => exact .inr ⟨rfl, fun _ _ _ => rfl⟩
    | [a] => exact .inr ⟨rfl, fun _ _ _ => by cases a <;> rfl⟩
    | a :: b :: c :: r => exact .inr ⟨by simp [tupw]; omega, fun _ _ _ => by cases a <;> rfl⟩
  | _ => exact .inr ⟨rfl, fun _ _ _ => rfl⟩
theorem n_none : (("none" : String) : Str) == ("none" : String) := by decide +kernel
theorem n_all : ((("all" : String) : Str) == (("none" : String) : Str)) = false := by decide +kernel
theorem a_all : ((("all" : String) : Str) == (("all" : String) : Str)) = true := by decide +kernel
theorem sh_str : SeqAt.shaped (.str "none") = true ∧ SeqAt.shaped (.str "all") = true := by decide +kernel
theorem eq_nn : eqF (.str "none") (.str "none") = some (.d (.bool true)) := by kernel_rfl
theorem eq_an : eqF (.str "all") (.str "none") = some (.d (.bool false)) := by kernel_rfl
theorem all_map (xs : List PyData) (p : PyData → Bool) : allF [.list (xs.map fun x => .bool (p x))] = some (.d (.bool (xs.all p))) := by
  show (boolsOf (xs.map fun x => .bool (p x))).map (fun bs => Vl.d (.bool (bs.all id))) = _
  rw [bools_map]
  simp only [Option.map_some, List.all_map]
  rfl
theorem eqv_nn : PyData.eqv (.str "none") (.str "none") = true ∧ PyData.eqv (.str "all") (.str "none") = false ∧ PyData.eqv (.str "all") (.str "all") = true := by decide +kernel
/-- pairs of a choice and something -/
theorem pairs_of {m : Nat} (h1 : 1 ≤ m) (h4 : m ≤ 4) : ∀ {xs : List PyData}, (∀ o ∈ xs, ∃ a v, o = .tuple [a, v] ∧ idxB a m = true) → ∃ ps : List (List Nat × PyData), xs = ps.map mkP ∧ ∀ p ∈ ps, p.1 ∈ chL m
  | [], _ => ⟨[], rfl, fun _ h => nomatch h⟩
  | x :: xs, h => by
    obtain ⟨ps, rfl, h2⟩ := pairs_of h1 h4 fun o ho => h o (List.mem_cons_of_mem _ ho)
    obtain ⟨a, v, rfl, hi⟩ := h x (List.mem_cons_self ..)
    obtain ⟨l, hl, rfl⟩ := idx_ch h1 h4 hi
    exact ⟨(l, v) :: ps, rfl, fun p hp => by rcases List.mem_cons.mp hp with rfl | hp; (· exact hl); exact h2 p hp⟩
theorem eqvAll_nats : ∀ (a b : List (List Nat)), PyData.eqvAll (a.map natT) (b.map natT) = (a == b)
  | [], [] => rfl
  | [], _ :: _ => rfl
  | _ :: _, [] => rfl
  | x :: a, y :: b => by
    show (PyData.eqvAll (x.map fun (i : Nat) => PyData.int (i : Int)) (y.map fun (i : Nat) => PyData.int (i : Int)) && PyData.eqvAll (a.map natT) (b.map natT)) = _
    rw [eqvAll_nats a b, nat_ints, nat_ints, eqvAll_ints]
    rw [List.cons_beq_cons]
    congr 1
    have inj : ∀ x y : List Nat, (x.map fun (i : Nat) => (i : Int)) = (y.map fun (i : Nat) => (i : Int)) → x = y := by
      intro x y h
      have := congrArg (List.map Int.toNat) h
      rw [List.map_map, List.map_map] at this
      have id1 : ∀ l : List Nat, l.map (Int.toNat ∘ fun (i : Nat) => (i : Int)) = l := fun l => (List.map_congr_left fun i _ => Int.toNat_natCast i).trans (List.map_id l)
      rw [id1, id1] at this
      exact this
    exact Bool.eq_iff_iff.mpr ⟨fun h => by rw [beq_iff_eq] at h ⊢; exact inj _ _ h, fun h => by rw [beq_iff_eq] at h ⊢; rw [h]⟩
theorem eqv_nats (a b : List (List Nat)) : PyData.eqv (.list (a.map natT)) (.list (b.map natT)) = (a == b) := eqvAll_nats a b
def pr1 : PyData → PyData
  | .tuple [a, _] => a
  | d => d
def pr2 : PyData → PyData
  | .tuple [_, b] => b
  | d => d
def ihD (rs : List (List Int)) (w : Nat) (a v : PyData) : Bool := match natsOf a with
  | some l => ihB rs w l v
  | none => false
theorem judge_all (rs : List (List Int)) (w m : Nat) (x : PyData) : judgeB rs w m (.tuple [.str "all", x]) = allT rs w m x := by
  unfold judgeB
  dsimp only
  rw [n_all, a_all]
  rfl
theorem judge_none (rs : List (List Int)) (w m : Nat) (x : PyData) : judgeB rs w m (.tuple [.str "none", x]) = (idxB x m && (fh rs w ((natsOf x).getD [])).isNone) := by
  unfold judgeB
  dsimp only
  rw [n_none]
  rfl
theorem wd_cases {a : PyData} (h : wdB a = true) : a = .str "all" ∨ a = .str "none" := by
  cases a with
  | str s =>
    unfold wdB at h
    rw [Bool.or_eq_true, beq_iff_eq, beq_iff_eq] at h
    rcases h with rfl | rfl
    · exact .inl rfl
    · exact .inr rfl
  | _ => cases h
theorem vB_pair {rs : List (List Int)} {w : Nat} {l : List Nat} {o : PyData} (h : vB rs w l o = true) : ∃ v, o = .tuple [natT l, v] := by
  cases o with
  | tuple xs =>
    match xs, h with
    | [a, v], h =>
      unfold vB at h
      dsimp only at h
      rw [Bool.and_eq_true] at h
      rw [natB_eq h.1]
      exact ⟨v, rfl⟩
    | [], h => cases h
    | [_], h => cases h
    | _ :: _ :: _ :: _, h => cases h
  | _ => cases h
theorem tupw2 {o : PyData} (h : tupw o 2 2 = true) : ∃ a v, o = .tuple [a, v] := by
  rcases pair_or o with h' | ⟨h', _⟩
  · exact h'
  · rw [h'] at h; cases h
theorem lay_nats (L : List (List Nat)) : SeqAt.shaped (.list (L.map natT)) = true := lay_shaped (lay_list fun x hx => by obtain ⟨r, _, rfl⟩ := List.mem_map.mp hx; exact lay_natT r) (by omega)
theorem hold_all {rs : List (List Int)} {m w : Nat} (T : Tb rs m w) {xs : List PyData} (hX : okW 3 (.tuple xs) = true) (e : En) (he : e = [.d (tabD rs), .d (.tuple [.str "all", .tuple xs]), .un, .un, .un]) :
    Run (sSeq m_halvings_hold_8 (sSeq m_halvings_hold_11 (sSeq m_halvings_hold_14 m_halvings_hold_16))) e fun fl e' => asRet (some (.ok fl e')) = some (.ret (.d (.bool (allB rs w (soL m) xs)))) := by
  subst he
  have m1 := T.m1
  have m4 := T.m4
  have hl := okW_tup hX
  have el20 : xs.length < 16777216 := by omega
  have el : lenF [tabD rs] = some (.d (.int (m : Int))) := by
    show some (Vl.d (.int (((rs.map rowD).length : Nat) : Int))) = _
    rw [List.length_map, T.len]
  unfold m_halvings_hold_8 m_halvings_hold_6
  simp only [↓u_liftE (at_1 _ _), ↓l_addI, ↓l_subI, ↓l_ltI, ↓l_leI, ↓l_gtI, ↓l_geI, ↓l_eqI, ↓l_neI, ↓l_negI, ↓l_notB, ↓l_lenT, ↓l_lenL, ↓l_tupL, ↓l_tupT, ↓l_lstL, ↓l_lstT, ↓l_at20, ↓l_at21, ↓l_seqL, ↓l_seqT, ↓l_isN, ↓u_bTup, ↓u_bAll0, ↓u_bAll1, ↓u_eSl, ↓u_partN, ↓u_partS, ↓u_eC, ↓u_eBin, ↓u_eUn, ↓u_aNil, ↓u_aCons, ↓u_peeks0, ↓u_peeks1, ↓u_freezes0, ↓u_freezes1, ↓u_eTup, ↓u_eLst, ↓u_eCall, ↓u_eFn, ↓u_cV, ↓u_cAnd, ↓u_cOr, ↓u_cNot, ↓u_cYes, ↓u_eIf, ↓u_eAnd, ↓u_eOr, ↓u_sSet, ↓u_sSeq, ↓u_sNx, ↓u_sIf, ↓u_sExpr, ↓u_sRet, ↓u_iSeq, ↓u_iRng, ↓u_iZips, ↓u_sFor, ↓u_eLc, ↓u_eMut, ↓u_eExt, ↓u_eFnM, ↓u_sSets, ↓u_stores0, ↓u_stores1, ↓u_sAsg, ↓u_bSub, ↓run_peek, ↓run_freeze, ↓run_var, ↓run_store, ↓run_bName, ↓run_isOwn, ↓run_extM, ↓run_bnd, ↓run_ret, ↓reduceIte, List.map_cons, List.map_nil, List.replicate, List.cons_append, List.nil_append, List.append_nil, List.getElem?_cons_zero, List.getElem?_cons_succ, List.set_cons_zero, List.set_cons_succ, List.length_cons, List.length_nil, Nat.zero_add, Nat.reduceAdd, Bool.not_true, Bool.not_false, Bool.false_eq_true, Option.map_some, wipeE, ↓u_callM2, asRet_d, asRet_fr, asRet_nx, asRetM_d, asRetM_nx, ↓u_liftE (isi_int _), ↓u_liftE (isi_bool _), ↓u_liftE (isi_tuple _), ↓u_liftE (isi_str _), ↓u_liftE (isi_list _), isT]
  rw [if_pos el20]
  refine run_map _ (fun o => .bool (tupw o 2 2)) rfl (fun o ho => ?_) ?_
  · simp only [↓l_addI, ↓l_subI, ↓l_ltI, ↓l_leI, ↓l_gtI, ↓l_geI, ↓l_eqI, ↓l_neI, ↓l_negI, ↓l_notB, ↓l_lenT, ↓l_lenL, ↓l_tupL, ↓l_tupT, ↓l_lstL, ↓l_lstT, ↓l_at20, ↓l_at21, ↓l_seqL, ↓l_seqT, ↓l_isN, ↓u_bTup, ↓u_bAll0, ↓u_bAll1, ↓u_eSl, ↓u_partN, ↓u_partS, ↓u_eC, ↓u_eBin, ↓u_eUn, ↓u_aNil, ↓u_aCons, ↓u_peeks0, ↓u_peeks1, ↓u_freezes0, ↓u_freezes1, ↓u_eTup, ↓u_eLst, ↓u_eCall, ↓u_eFn, ↓u_cV, ↓u_cAnd, ↓u_cOr, ↓u_cNot, ↓u_cYes, ↓u_eIf, ↓u_eAnd, ↓u_eOr, ↓u_sSet, ↓u_sSeq, ↓u_sNx, ↓u_sIf, ↓u_sExpr, ↓u_sRet, ↓u_iSeq, ↓u_iRng, ↓u_iZips, ↓u_sFor, ↓u_eLc, ↓u_eMut, ↓u_eExt, ↓u_eFnM, ↓u_sSets, ↓u_stores0, ↓u_stores1, ↓u_sAsg, ↓u_bSub, ↓run_peek, ↓run_freeze, ↓run_var, ↓run_store, ↓run_bName, ↓run_isOwn, ↓run_extM, ↓run_bnd, ↓run_ret, ↓reduceIte, List.map_cons, List.map_nil, List.replicate, List.cons_append, List.nil_append, List.append_nil, List.getElem?_cons_zero, List.getElem?_cons_succ, List.set_cons_zero, List.set_cons_succ, List.length_cons, List.length_nil, Nat.zero_add, Nat.reduceAdd, Bool.not_true, Bool.not_false, Bool.false_eq_true, Option.map_some, wipeE, ↓u_callM2, asRet_d, asRet_fr, asRet_nx, asRetM_d, asRetM_nx, ↓u_liftE (isi_int _), ↓u_liftE (isi_bool _), ↓u_liftE (isi_tuple _), ↓u_liftE (isi_str _), ↓u_liftE (isi_list _), ↓u_callFE (v_is_tuple _ _ _), and_self]
  · simp only [↓l_addI, ↓l_subI, ↓l_ltI, ↓l_leI, ↓l_gtI, ↓l_geI, ↓l_eqI, ↓l_neI, ↓l_negI, ↓l_notB, ↓l_lenT, ↓l_lenL, ↓l_tupL, ↓l_tupT, ↓l_lstL, ↓l_lstT, ↓l_at20, ↓l_at21, ↓l_seqL, ↓l_seqT, ↓l_isN, ↓u_bTup, ↓u_bAll0, ↓u_bAll1, ↓u_eSl, ↓u_partN, ↓u_partS, ↓u_eC, ↓u_eBin, ↓u_eUn, ↓u_aNil, ↓u_aCons, ↓u_peeks0, ↓u_peeks1, ↓u_freezes0, ↓u_freezes1, ↓u_eTup, ↓u_eLst, ↓u_eCall, ↓u_eFn, ↓u_cV, ↓u_cAnd, ↓u_cOr, ↓u_cNot, ↓u_cYes, ↓u_eIf, ↓u_eAnd, ↓u_eOr, ↓u_sSet, ↓u_sSeq, ↓u_sNx, ↓u_sIf, ↓u_sExpr, ↓u_sRet, ↓u_iSeq, ↓u_iRng, ↓u_iZips, ↓u_sFor, ↓u_eLc, ↓u_eMut, ↓u_eExt, ↓u_eFnM, ↓u_sSets, ↓u_stores0, ↓u_stores1, ↓u_sAsg, ↓u_bSub, ↓run_peek, ↓run_freeze, ↓run_var, ↓run_store, ↓run_bName, ↓run_isOwn, ↓run_extM, ↓run_bnd, ↓run_ret, ↓reduceIte, List.map_cons, List.map_nil, List.replicate, List.cons_append, List.nil_append, List.append_nil, List.getElem?_cons_zero, List.getElem?_cons_succ, List.set_cons_zero, List.set_cons_succ, List.length_cons, List.length_nil, Nat.zero_add, Nat.reduceAdd, Bool.not_true, Bool.not_false, Bool.false_eq_true, Option.map_some, wipeE, ↓u_callM2, asRet_d, asRet_fr, asRet_nx, asRetM_d, asRetM_nx, ↓u_liftE (isi_int _), ↓u_liftE (isi_bool _), ↓u_liftE (isi_tuple _), ↓u_liftE (isi_str _), ↓u_liftE (isi_list _), ↓u_liftE (all_map _ _)]
    cases hA : xs.all (fun o => tupw o 2 2) with
    | false =>
      have : allB rs w (soL m) xs = false := by
        rw [List.all_eq_false] at hA
        obtain ⟨o, ho, hb⟩ := hA
        refine allB_mem ho fun l _ => ?_
        cases hv : vB rs w l o with
        | false => rfl
        | true =>
          obtain ⟨v, rfl⟩ := vB_pair hv
          exact absurd rfl hb
      rw [this]
      unfold m_halvings_hold_7
      simp only [↓l_addI, ↓l_subI, ↓l_ltI, ↓l_leI, ↓l_gtI, ↓l_geI, ↓l_eqI, ↓l_neI, ↓l_negI, ↓l_notB, ↓l_lenT, ↓l_lenL, ↓l_tupL, ↓l_tupT, ↓l_lstL, ↓l_lstT, ↓l_at20, ↓l_at21, ↓l_seqL, ↓l_seqT, ↓l_isN, ↓u_bTup, ↓u_bAll0, ↓u_bAll1, ↓u_eSl, ↓u_partN, ↓u_partS, ↓u_eC, ↓u_eBin, ↓u_eUn, ↓u_aNil, ↓u_aCons, ↓u_peeks0, ↓u_peeks1, ↓u_freezes0, ↓u_freezes1, ↓u_eTup, ↓u_eLst, ↓u_eCall, ↓u_eFn, ↓u_cV, ↓u_cAnd, ↓u_cOr, ↓u_cNot, ↓u_cYes, ↓u_eIf, ↓u_eAnd, ↓u_eOr, ↓u_sSet, ↓u_sSeq, ↓u_sNx, ↓u_sIf, ↓u_sExpr, ↓u_sRet, ↓u_iSeq, ↓u_iRng, ↓u_iZips, ↓u_sFor, ↓u_eLc, ↓u_eMut, ↓u_eExt, ↓u_eFnM, ↓u_sSets, ↓u_stores0, ↓u_stores1, ↓u_sAsg, ↓u_bSub, ↓run_peek, ↓run_freeze, ↓run_var, ↓run_store, ↓run_bName, ↓run_isOwn, ↓run_extM, ↓run_bnd, ↓run_ret, ↓reduceIte, List.map_cons, List.map_nil, List.replicate, List.cons_append, List.nil_append, List.append_nil, List.getElem?_cons_zero, List.getElem?_cons_succ, List.set_cons_zero, List.set_cons_succ, List.length_cons, List.length_nil, Nat.zero_add, Nat.reduceAdd, Bool.not_true, Bool.not_false, Bool.false_eq_true, Option.map_some, wipeE, ↓u_callM2, asRet_d, asRet_fr, asRet_nx, asRetM_d, asRetM_nx, ↓u_liftE (isi_int _), ↓u_liftE (isi_bool _), ↓u_liftE (isi_tuple _), ↓u_liftE (isi_str _), ↓u_liftE (isi_list _)]
    | true =>
      have hA' : ∀ o ∈ xs, ∃ a v, o = .tuple [a, v] := fun o ho => tupw2 (List.all_eq_true.mp hA o ho)
      unfold m_halvings_hold_11 m_halvings_hold_9
      simp only [↓u_liftE (at_1 _ _), ↓l_addI, ↓l_subI, ↓l_ltI, ↓l_leI, ↓l_gtI, ↓l_geI, ↓l_eqI, ↓l_neI, ↓l_negI, ↓l_notB, ↓l_lenT, ↓l_lenL, ↓l_tupL, ↓l_tupT, ↓l_lstL, ↓l_lstT, ↓l_at20, ↓l_at21, ↓l_seqL, ↓l_seqT, ↓l_isN, ↓u_bTup, ↓u_bAll0, ↓u_bAll1, ↓u_eSl, ↓u_partN, ↓u_partS, ↓u_eC, ↓u_eBin, ↓u_eUn, ↓u_aNil, ↓u_aCons, ↓u_peeks0, ↓u_peeks1, ↓u_freezes0, ↓u_freezes1, ↓u_eTup, ↓u_eLst, ↓u_eCall, ↓u_eFn, ↓u_cV, ↓u_cAnd, ↓u_cOr, ↓u_cNot, ↓u_cYes, ↓u_eIf, ↓u_eAnd, ↓u_eOr, ↓u_sSet, ↓u_sSeq, ↓u_sNx, ↓u_sIf, ↓u_sExpr, ↓u_sRet, ↓u_iSeq, ↓u_iRng, ↓u_iZips, ↓u_sFor, ↓u_eLc, ↓u_eMut, ↓u_eExt, ↓u_eFnM, ↓u_sSets, ↓u_stores0, ↓u_stores1, ↓u_sAsg, ↓u_bSub, ↓run_peek, ↓run_freeze, ↓run_var, ↓run_store, ↓run_bName, ↓run_isOwn, ↓run_extM, ↓run_bnd, ↓run_ret, ↓reduceIte, List.map_cons, List.map_nil, List.replicate, List.cons_append, List.nil_append, List.append_nil, List.getElem?_cons_zero, List.getElem?_cons_succ, List.set_cons_zero, List.set_cons_succ, List.length_cons, List.length_nil, Nat.zero_add, Nat.reduceAdd, Bool.not_true, Bool.not_false, Bool.false_eq_true, Option.map_some, wipeE, ↓u_callM2, asRet_d, asRet_fr, asRet_nx, asRetM_d, asRetM_nx, ↓u_liftE (isi_int _), ↓u_liftE (isi_bool _), ↓u_liftE (isi_tuple _), ↓u_liftE (isi_str _), ↓u_liftE (isi_list _), isT]
      rw [if_pos el20]
      refine run_map _ (fun o => .bool (idxB (pr1 o) m)) rfl (fun o ho => ?_) ?_
      · obtain ⟨a, v, rfl⟩ := hA' o ho
        have ei := v_are_indexes a m (by omega)
        simp only [↓u_callFE ei, ↓u_liftE el, ↓l_addI, ↓l_subI, ↓l_ltI, ↓l_leI, ↓l_gtI, ↓l_geI, ↓l_eqI, ↓l_neI, ↓l_negI, ↓l_notB, ↓l_lenT, ↓l_lenL, ↓l_tupL, ↓l_tupT, ↓l_lstL, ↓l_lstT, ↓l_at20, ↓l_at21, ↓l_seqL, ↓l_seqT, ↓l_isN, ↓u_bTup, ↓u_bAll0, ↓u_bAll1, ↓u_eSl, ↓u_partN, ↓u_partS, ↓u_eC, ↓u_eBin, ↓u_eUn, ↓u_aNil, ↓u_aCons, ↓u_peeks0, ↓u_peeks1, ↓u_freezes0, ↓u_freezes1, ↓u_eTup, ↓u_eLst, ↓u_eCall, ↓u_eFn, ↓u_cV, ↓u_cAnd, ↓u_cOr, ↓u_cNot, ↓u_cYes, ↓u_eIf, ↓u_eAnd, ↓u_eOr, ↓u_sSet, ↓u_sSeq, ↓u_sNx, ↓u_sIf, ↓u_sExpr, ↓u_sRet, ↓u_iSeq, ↓u_iRng, ↓u_iZips, ↓u_sFor, ↓u_eLc, ↓u_eMut, ↓u_eExt, ↓u_eFnM, ↓u_sSets, ↓u_stores0, ↓u_stores1, ↓u_sAsg, ↓u_bSub, ↓run_peek, ↓run_freeze, ↓run_var, ↓run_store, ↓run_bName, ↓run_isOwn, ↓run_extM, ↓run_bnd, ↓run_ret, ↓reduceIte, List.map_cons, List.map_nil, List.replicate, List.cons_append, List.nil_append, List.append_nil, List.getElem?_cons_zero, List.getElem?_cons_succ, List.set_cons_zero, List.set_cons_succ, List.length_cons, List.length_nil, Nat.zero_add, Nat.reduceAdd, Bool.not_true, Bool.not_false, Bool.false_eq_true, Option.map_some, wipeE, ↓u_callM2, asRet_d, asRet_fr, asRet_nx, asRetM_d, asRetM_nx, ↓u_liftE (isi_int _), ↓u_liftE (isi_bool _), ↓u_liftE (isi_tuple _), ↓u_liftE (isi_str _), ↓u_liftE (isi_list _), and_self, pr1]
      · simp only [↓l_addI, ↓l_subI, ↓l_ltI, ↓l_leI, ↓l_gtI, ↓l_geI, ↓l_eqI, ↓l_neI, ↓l_negI, ↓l_notB, ↓l_lenT, ↓l_lenL, ↓l_tupL, ↓l_tupT, ↓l_lstL, ↓l_lstT, ↓l_at20, ↓l_at21, ↓l_seqL, ↓l_seqT, ↓l_isN, ↓u_bTup, ↓u_bAll0, ↓u_bAll1, ↓u_eSl, ↓u_partN, ↓u_partS, ↓u_eC, ↓u_eBin, ↓u_eUn, ↓u_aNil, ↓u_aCons, ↓u_peeks0, ↓u_peeks1, ↓u_freezes0, ↓u_freezes1, ↓u_eTup, ↓u_eLst, ↓u_eCall, ↓u_eFn, ↓u_cV, ↓u_cAnd, ↓u_cOr, ↓u_cNot, ↓u_cYes, ↓u_eIf, ↓u_eAnd, ↓u_eOr, ↓u_sSet, ↓u_sSeq, ↓u_sNx, ↓u_sIf, ↓u_sExpr, ↓u_sRet, ↓u_iSeq, ↓u_iRng, ↓u_iZips, ↓u_sFor, ↓u_eLc, ↓u_eMut, ↓u_eExt, ↓u_eFnM, ↓u_sSets, ↓u_stores0, ↓u_stores1, ↓u_sAsg, ↓u_bSub, ↓run_peek, ↓run_freeze, ↓run_var, ↓run_store, ↓run_bName, ↓run_isOwn, ↓run_extM, ↓run_bnd, ↓run_ret, ↓reduceIte, List.map_cons, List.map_nil, List.replicate, List.cons_append, List.nil_append, List.append_nil, List.getElem?_cons_zero, List.getElem?_cons_succ, List.set_cons_zero, List.set_cons_succ, List.length_cons, List.length_nil, Nat.zero_add, Nat.reduceAdd, Bool.not_true, Bool.not_false, Bool.false_eq_true, Option.map_some, wipeE, ↓u_callM2, asRet_d, asRet_fr, asRet_nx, asRetM_d, asRetM_nx, ↓u_liftE (isi_int _), ↓u_liftE (isi_bool _), ↓u_liftE (isi_tuple _), ↓u_liftE (isi_str _), ↓u_liftE (isi_list _), ↓u_liftE (all_map _ _)]
        cases hB : xs.all (fun o => idxB (pr1 o) m) with
        | false =>
          have : allB rs w (soL m) xs = false := by
            rw [List.all_eq_false] at hB
            obtain ⟨o, ho, hb⟩ := hB
            refine allB_mem ho fun l hl => ?_
            cases hv : vB rs w l o with
            | false => rfl
            | true =>
              obtain ⟨v, rfl⟩ := vB_pair hv
              exact absurd (idx_nat m m1 m4 l (so_ch m m1 m4 l hl)) hb
          rw [this]
          unfold m_halvings_hold_10
          simp only [↓l_addI, ↓l_subI, ↓l_ltI, ↓l_leI, ↓l_gtI, ↓l_geI, ↓l_eqI, ↓l_neI, ↓l_negI, ↓l_notB, ↓l_lenT, ↓l_lenL, ↓l_tupL, ↓l_tupT, ↓l_lstL, ↓l_lstT, ↓l_at20, ↓l_at21, ↓l_seqL, ↓l_seqT, ↓l_isN, ↓u_bTup, ↓u_bAll0, ↓u_bAll1, ↓u_eSl, ↓u_partN, ↓u_partS, ↓u_eC, ↓u_eBin, ↓u_eUn, ↓u_aNil, ↓u_aCons, ↓u_peeks0, ↓u_peeks1, ↓u_freezes0, ↓u_freezes1, ↓u_eTup, ↓u_eLst, ↓u_eCall, ↓u_eFn, ↓u_cV, ↓u_cAnd, ↓u_cOr, ↓u_cNot, ↓u_cYes, ↓u_eIf, ↓u_eAnd, ↓u_eOr, ↓u_sSet, ↓u_sSeq, ↓u_sNx, ↓u_sIf, ↓u_sExpr, ↓u_sRet, ↓u_iSeq, ↓u_iRng, ↓u_iZips, ↓u_sFor, ↓u_eLc, ↓u_eMut, ↓u_eExt, ↓u_eFnM, ↓u_sSets, ↓u_stores0, ↓u_stores1, ↓u_sAsg, ↓u_bSub, ↓run_peek, ↓run_freeze, ↓run_var, ↓run_store, ↓run_bName, ↓run_isOwn, ↓run_extM, ↓run_bnd, ↓run_ret, ↓reduceIte, List.map_cons, List.map_nil, List.replicate, List.cons_append, List.nil_append, List.append_nil, List.getElem?_cons_zero, List.getElem?_cons_succ, List.set_cons_zero, List.set_cons_succ, List.length_cons, List.length_nil, Nat.zero_add, Nat.reduceAdd, Bool.not_true, Bool.not_false, Bool.false_eq_true, Option.map_some, wipeE, ↓u_callM2, asRet_d, asRet_fr, asRet_nx, asRetM_d, asRetM_nx, ↓u_liftE (isi_int _), ↓u_liftE (isi_bool _), ↓u_liftE (isi_tuple _), ↓u_liftE (isi_str _), ↓u_liftE (isi_list _)]
        | true =>
          obtain ⟨ps, rfl, hp⟩ := pairs_of m1 m4 fun o ho => by
            obtain ⟨a, v, rfl⟩ := hA' o ho
            exact ⟨a, v, rfl, List.all_eq_true.mp hB _ ho⟩
          have ec : F_choices [tabD rs] = some (.ret (.fr ((chL m).map natT))) := by
            have := v_choices (rs.map rowD) (by rw [List.length_map, T.len]; exact T.m1) (by rw [List.length_map, T.len]; exact T.m4)
            rw [List.length_map, T.len] at this
            exact this
          have es := v_sort_ch m m1 m4
          unfold m_halvings_hold_14 m_halvings_hold_12
          simp only [↓u_liftE (at_1 _ _), ↓l_addI, ↓l_subI, ↓l_ltI, ↓l_leI, ↓l_gtI, ↓l_geI, ↓l_eqI, ↓l_neI, ↓l_negI, ↓l_notB, ↓l_lenT, ↓l_lenL, ↓l_tupL, ↓l_tupT, ↓l_lstL, ↓l_lstT, ↓l_at20, ↓l_at21, ↓l_seqL, ↓l_seqT, ↓l_isN, ↓u_bTup, ↓u_bAll0, ↓u_bAll1, ↓u_eSl, ↓u_partN, ↓u_partS, ↓u_eC, ↓u_eBin, ↓u_eUn, ↓u_aNil, ↓u_aCons, ↓u_peeks0, ↓u_peeks1, ↓u_freezes0, ↓u_freezes1, ↓u_eTup, ↓u_eLst, ↓u_eCall, ↓u_eFn, ↓u_cV, ↓u_cAnd, ↓u_cOr, ↓u_cNot, ↓u_cYes, ↓u_eIf, ↓u_eAnd, ↓u_eOr, ↓u_sSet, ↓u_sSeq, ↓u_sNx, ↓u_sIf, ↓u_sExpr, ↓u_sRet, ↓u_iSeq, ↓u_iRng, ↓u_iZips, ↓u_sFor, ↓u_eLc, ↓u_eMut, ↓u_eExt, ↓u_eFnM, ↓u_sSets, ↓u_stores0, ↓u_stores1, ↓u_sAsg, ↓u_bSub, ↓run_peek, ↓run_freeze, ↓run_var, ↓run_store, ↓run_bName, ↓run_isOwn, ↓run_extM, ↓run_bnd, ↓run_ret, ↓reduceIte, List.map_cons, List.map_nil, List.replicate, List.cons_append, List.nil_append, List.append_nil, List.getElem?_cons_zero, List.getElem?_cons_succ, List.set_cons_zero, List.set_cons_succ, List.length_cons, List.length_nil, Nat.zero_add, Nat.reduceAdd, Bool.not_true, Bool.not_false, Bool.false_eq_true, Option.map_some, wipeE, ↓u_callM2, asRet_d, asRet_fr, asRet_nx, asRetM_d, asRetM_nx, ↓u_liftE (isi_int _), ↓u_liftE (isi_bool _), ↓u_liftE (isi_tuple _), ↓u_liftE (isi_str _), ↓u_liftE (isi_list _), isT]
          rw [if_pos el20]
          refine run_map _ pr1 rfl (fun o ho => ?_) ?_
          · obtain ⟨p, _, rfl⟩ := List.mem_map.mp ho
            unfold mkP
            simp only [↓l_addI, ↓l_subI, ↓l_ltI, ↓l_leI, ↓l_gtI, ↓l_geI, ↓l_eqI, ↓l_neI, ↓l_negI, ↓l_notB, ↓l_lenT, ↓l_lenL, ↓l_tupL, ↓l_tupT, ↓l_lstL, ↓l_lstT, ↓l_at20, ↓l_at21, ↓l_seqL, ↓l_seqT, ↓l_isN, ↓u_bTup, ↓u_bAll0, ↓u_bAll1, ↓u_eSl, ↓u_partN, ↓u_partS, ↓u_eC, ↓u_eBin, ↓u_eUn, ↓u_aNil, ↓u_aCons, ↓u_peeks0, ↓u_peeks1, ↓u_freezes0, ↓u_freezes1, ↓u_eTup, ↓u_eLst, ↓u_eCall, ↓u_eFn, ↓u_cV, ↓u_cAnd, ↓u_cOr, ↓u_cNot, ↓u_cYes, ↓u_eIf, ↓u_eAnd, ↓u_eOr, ↓u_sSet, ↓u_sSeq, ↓u_sNx, ↓u_sIf, ↓u_sExpr, ↓u_sRet, ↓u_iSeq, ↓u_iRng, ↓u_iZips, ↓u_sFor, ↓u_eLc, ↓u_eMut, ↓u_eExt, ↓u_eFnM, ↓u_sSets, ↓u_stores0, ↓u_stores1, ↓u_sAsg, ↓u_bSub, ↓run_peek, ↓run_freeze, ↓run_var, ↓run_store, ↓run_bName, ↓run_isOwn, ↓run_extM, ↓run_bnd, ↓run_ret, ↓reduceIte, List.map_cons, List.map_nil, List.replicate, List.cons_append, List.nil_append, List.append_nil, List.getElem?_cons_zero, List.getElem?_cons_succ, List.set_cons_zero, List.set_cons_succ, List.length_cons, List.length_nil, Nat.zero_add, Nat.reduceAdd, Bool.not_true, Bool.not_false, Bool.false_eq_true, Option.map_some, wipeE, ↓u_callM2, asRet_d, asRet_fr, asRet_nx, asRetM_d, asRetM_nx, ↓u_liftE (isi_int _), ↓u_liftE (isi_bool _), ↓u_liftE (isi_tuple _), ↓u_liftE (isi_str _), ↓u_liftE (isi_list _), and_self, pr1]
          · have e1 : (ps.map mkP).map pr1 = (ps.map Prod.fst).map natT := by
              rw [List.map_map, List.map_map]
              rfl
            have en : neF (.list ((ps.map Prod.fst).map natT)) (.list ((soL m).map natT)) = some (.d (.bool (!(ps.map Prod.fst == soL m)))) := by
              rw [neF, lay_nats, lay_nats, eqv_nats]
              rfl
            rw [e1]
            simp only [↓u_callFE ec, ↓u_liftE es, ↓u_liftE en, ↓l_addI, ↓l_subI, ↓l_ltI, ↓l_leI, ↓l_gtI, ↓l_geI, ↓l_eqI, ↓l_neI, ↓l_negI, ↓l_notB, ↓l_lenT, ↓l_lenL, ↓l_tupL, ↓l_tupT, ↓l_lstL, ↓l_lstT, ↓l_at20, ↓l_at21, ↓l_seqL, ↓l_seqT, ↓l_isN, ↓u_bTup, ↓u_bAll0, ↓u_bAll1, ↓u_eSl, ↓u_partN, ↓u_partS, ↓u_eC, ↓u_eBin, ↓u_eUn, ↓u_aNil, ↓u_aCons, ↓u_peeks0, ↓u_peeks1, ↓u_freezes0, ↓u_freezes1, ↓u_eTup, ↓u_eLst, ↓u_eCall, ↓u_eFn, ↓u_cV, ↓u_cAnd, ↓u_cOr, ↓u_cNot, ↓u_cYes, ↓u_eIf, ↓u_eAnd, ↓u_eOr, ↓u_sSet, ↓u_sSeq, ↓u_sNx, ↓u_sIf, ↓u_sExpr, ↓u_sRet, ↓u_iSeq, ↓u_iRng, ↓u_iZips, ↓u_sFor, ↓u_eLc, ↓u_eMut, ↓u_eExt, ↓u_eFnM, ↓u_sSets, ↓u_stores0, ↓u_stores1, ↓u_sAsg, ↓u_bSub, ↓run_peek, ↓run_freeze, ↓run_var, ↓run_store, ↓run_bName, ↓run_isOwn, ↓run_extM, ↓run_bnd, ↓run_ret, ↓reduceIte, List.map_cons, List.map_nil, List.replicate, List.cons_append, List.nil_append, List.append_nil, List.getElem?_cons_zero, List.getElem?_cons_succ, List.set_cons_zero, List.set_cons_succ, List.length_cons, List.length_nil, Nat.zero_add, Nat.reduceAdd, Bool.not_true, Bool.not_false, Bool.false_eq_true, Option.map_some, wipeE, ↓u_callM2, asRet_d, asRet_fr, asRet_nx, asRetM_d, asRetM_nx, ↓u_liftE (isi_int _), ↓u_liftE (isi_bool _), ↓u_liftE (isi_tuple _), ↓u_liftE (isi_str _), ↓u_liftE (isi_list _)]
            rw [allB_ps]
            cases hC : (ps.map Prod.fst == soL m) with
            | false =>
              unfold m_halvings_hold_13
              simp only [↓l_addI, ↓l_subI, ↓l_ltI, ↓l_leI, ↓l_gtI, ↓l_geI, ↓l_eqI, ↓l_neI, ↓l_negI, ↓l_notB, ↓l_lenT, ↓l_lenL, ↓l_tupL, ↓l_tupT, ↓l_lstL, ↓l_lstT, ↓l_at20, ↓l_at21, ↓l_seqL, ↓l_seqT, ↓l_isN, ↓u_bTup, ↓u_bAll0, ↓u_bAll1, ↓u_eSl, ↓u_partN, ↓u_partS, ↓u_eC, ↓u_eBin, ↓u_eUn, ↓u_aNil, ↓u_aCons, ↓u_peeks0, ↓u_peeks1, ↓u_freezes0, ↓u_freezes1, ↓u_eTup, ↓u_eLst, ↓u_eCall, ↓u_eFn, ↓u_cV, ↓u_cAnd, ↓u_cOr, ↓u_cNot, ↓u_cYes, ↓u_eIf, ↓u_eAnd, ↓u_eOr, ↓u_sSet, ↓u_sSeq, ↓u_sNx, ↓u_sIf, ↓u_sExpr, ↓u_sRet, ↓u_iSeq, ↓u_iRng, ↓u_iZips, ↓u_sFor, ↓u_eLc, ↓u_eMut, ↓u_eExt, ↓u_eFnM, ↓u_sSets, ↓u_stores0, ↓u_stores1, ↓u_sAsg, ↓u_bSub, ↓run_peek, ↓run_freeze, ↓run_var, ↓run_store, ↓run_bName, ↓run_isOwn, ↓run_extM, ↓run_bnd, ↓run_ret, ↓reduceIte, List.map_cons, List.map_nil, List.replicate, List.cons_append, List.nil_append, List.append_nil, List.getElem?_cons_zero, List.getElem?_cons_succ, List.set_cons_zero, List.set_cons_succ, List.length_cons, List.length_nil, Nat.zero_add, Nat.reduceAdd, Bool.not_true, Bool.not_false, Bool.false_eq_true, Option.map_some, wipeE, ↓u_callM2, asRet_d, asRet_fr, asRet_nx, asRetM_d, asRetM_nx, ↓u_liftE (isi_int _), ↓u_liftE (isi_bool _), ↓u_liftE (isi_tuple _), ↓u_liftE (isi_str _), ↓u_liftE (isi_list _), Bool.false_and]
            | true =>
              unfold m_halvings_hold_16 m_halvings_hold_15
              simp only [↓u_liftE (at_1 _ _), ↓l_addI, ↓l_subI, ↓l_ltI, ↓l_leI, ↓l_gtI, ↓l_geI, ↓l_eqI, ↓l_neI, ↓l_negI, ↓l_notB, ↓l_lenT, ↓l_lenL, ↓l_tupL, ↓l_tupT, ↓l_lstL, ↓l_lstT, ↓l_at20, ↓l_at21, ↓l_seqL, ↓l_seqT, ↓l_isN, ↓u_bTup, ↓u_bAll0, ↓u_bAll1, ↓u_eSl, ↓u_partN, ↓u_partS, ↓u_eC, ↓u_eBin, ↓u_eUn, ↓u_aNil, ↓u_aCons, ↓u_peeks0, ↓u_peeks1, ↓u_freezes0, ↓u_freezes1, ↓u_eTup, ↓u_eLst, ↓u_eCall, ↓u_eFn, ↓u_cV, ↓u_cAnd, ↓u_cOr, ↓u_cNot, ↓u_cYes, ↓u_eIf, ↓u_eAnd, ↓u_eOr, ↓u_sSet, ↓u_sSeq, ↓u_sNx, ↓u_sIf, ↓u_sExpr, ↓u_sRet, ↓u_iSeq, ↓u_iRng, ↓u_iZips, ↓u_sFor, ↓u_eLc, ↓u_eMut, ↓u_eExt, ↓u_eFnM, ↓u_sSets, ↓u_stores0, ↓u_stores1, ↓u_sAsg, ↓u_bSub, ↓run_peek, ↓run_freeze, ↓run_var, ↓run_store, ↓run_bName, ↓run_isOwn, ↓run_extM, ↓run_bnd, ↓run_ret, ↓reduceIte, List.map_cons, List.map_nil, List.replicate, List.cons_append, List.nil_append, List.append_nil, List.getElem?_cons_zero, List.getElem?_cons_succ, List.set_cons_zero, List.set_cons_succ, List.length_cons, List.length_nil, Nat.zero_add, Nat.reduceAdd, Bool.not_true, Bool.not_false, Bool.false_eq_true, Option.map_some, wipeE, ↓u_callM2, asRet_d, asRet_fr, asRet_nx, asRetM_d, asRetM_nx, ↓u_liftE (isi_int _), ↓u_liftE (isi_bool _), ↓u_liftE (isi_tuple _), ↓u_liftE (isi_str _), ↓u_liftE (isi_list _), isT]
              rw [if_pos el20]
              refine run_map _ (fun o => .bool (ihD rs w (pr1 o) (pr2 o))) rfl (fun o ho => ?_) ?_
              · obtain ⟨p, hm, rfl⟩ := List.mem_map.mp ho
                have eh := v_is_halving T (chL_ok m m1 m4 p.1 (hp p hm)) p.2
                unfold mkP
                simp only [↓u_callFE eh, ↓l_addI, ↓l_subI, ↓l_ltI, ↓l_leI, ↓l_gtI, ↓l_geI, ↓l_eqI, ↓l_neI, ↓l_negI, ↓l_notB, ↓l_lenT, ↓l_lenL, ↓l_tupL, ↓l_tupT, ↓l_lstL, ↓l_lstT, ↓l_at20, ↓l_at21, ↓l_seqL, ↓l_seqT, ↓l_isN, ↓u_bTup, ↓u_bAll0, ↓u_bAll1, ↓u_eSl, ↓u_partN, ↓u_partS, ↓u_eC, ↓u_eBin, ↓u_eUn, ↓u_aNil, ↓u_aCons, ↓u_peeks0, ↓u_peeks1, ↓u_freezes0, ↓u_freezes1, ↓u_eTup, ↓u_eLst, ↓u_eCall, ↓u_eFn, ↓u_cV, ↓u_cAnd, ↓u_cOr, ↓u_cNot, ↓u_cYes, ↓u_eIf, ↓u_eAnd, ↓u_eOr, ↓u_sSet, ↓u_sSeq, ↓u_sNx, ↓u_sIf, ↓u_sExpr, ↓u_sRet, ↓u_iSeq, ↓u_iRng, ↓u_iZips, ↓u_sFor, ↓u_eLc, ↓u_eMut, ↓u_eExt, ↓u_eFnM, ↓u_sSets, ↓u_stores0, ↓u_stores1, ↓u_sAsg, ↓u_bSub, ↓run_peek, ↓run_freeze, ↓run_var, ↓run_store, ↓run_bName, ↓run_isOwn, ↓run_extM, ↓run_bnd, ↓run_ret, ↓reduceIte, List.map_cons, List.map_nil, List.replicate, List.cons_append, List.nil_append, List.append_nil, List.getElem?_cons_zero, List.getElem?_cons_succ, List.set_cons_zero, List.set_cons_succ, List.length_cons, List.length_nil, Nat.zero_add, Nat.reduceAdd, Bool.not_true, Bool.not_false, Bool.false_eq_true, Option.map_some, wipeE, ↓u_callM2, asRet_d, asRet_fr, asRet_nx, asRetM_d, asRetM_nx, ↓u_liftE (isi_int _), ↓u_liftE (isi_bool _), ↓u_liftE (isi_tuple _), ↓u_liftE (isi_str _), ↓u_liftE (isi_list _), and_self, pr1, pr2, ihD, natsOf_nat]
              · simp only [↓l_addI, ↓l_subI, ↓l_ltI, ↓l_leI, ↓l_gtI, ↓l_geI, ↓l_eqI, ↓l_neI, ↓l_negI, ↓l_notB, ↓l_lenT, ↓l_lenL, ↓l_tupL, ↓l_tupT, ↓l_lstL, ↓l_lstT, ↓l_at20, ↓l_at21, ↓l_seqL, ↓l_seqT, ↓l_isN, ↓u_bTup, ↓u_bAll0, ↓u_bAll1, ↓u_eSl, ↓u_partN, ↓u_partS, ↓u_eC, ↓u_eBin, ↓u_eUn, ↓u_aNil, ↓u_aCons, ↓u_peeks0, ↓u_peeks1, ↓u_freezes0, ↓u_freezes1, ↓u_eTup, ↓u_eLst, ↓u_eCall, ↓u_eFn, ↓u_cV, ↓u_cAnd, ↓u_cOr, ↓u_cNot, ↓u_cYes, ↓u_eIf, ↓u_eAnd, ↓u_eOr, ↓u_sSet, ↓u_sSeq, ↓u_sNx, ↓u_sIf, ↓u_sExpr, ↓u_sRet, ↓u_iSeq, ↓u_iRng, ↓u_iZips, ↓u_sFor, ↓u_eLc, ↓u_eMut, ↓u_eExt, ↓u_eFnM, ↓u_sSets, ↓u_stores0, ↓u_stores1, ↓u_sAsg, ↓u_bSub, ↓run_peek, ↓run_freeze, ↓run_var, ↓run_store, ↓run_bName, ↓run_isOwn, ↓run_extM, ↓run_bnd, ↓run_ret, ↓reduceIte, List.map_cons, List.map_nil, List.replicate, List.cons_append, List.nil_append, List.append_nil, List.getElem?_cons_zero, List.getElem?_cons_succ, List.set_cons_zero, List.set_cons_succ, List.length_cons, List.length_nil, Nat.zero_add, Nat.reduceAdd, Bool.not_true, Bool.not_false, Bool.false_eq_true, Option.map_some, wipeE, ↓u_callM2, asRet_d, asRet_fr, asRet_nx, asRetM_d, asRetM_nx, ↓u_liftE (isi_int _), ↓u_liftE (isi_bool _), ↓u_liftE (isi_tuple _), ↓u_liftE (isi_str _), ↓u_liftE (isi_list _), ↓u_liftE (all_map _ _)]
                have e9 : (ps.map mkP).all (fun o => ihD rs w (pr1 o) (pr2 o)) = ps.all fun p => ihB rs w p.1 p.2 := by
                  rw [List.all_map]
                  refine congrArg (List.all ps) ?_
                  funext p
                  show ihD rs w (natT p.1) p.2 = _
                  unfold ihD
                  rw [natsOf_nat]
                rw [e9, Bool.true_and]
theorem hold_none {rs : List (List Int)} {m w : Nat} (T : Tb rs m w) {x : PyData} (e : En) (he : e = [.d (tabD rs), .d (.tuple [.str "none", x]), .un, .un, .un]) :
    Run m_halvings_hold_4 e fun fl e' => asRet (some (.ok fl e')) = some (.ret (.d (.bool (idxB x m && (fh rs w ((natsOf x).getD [])).isNone)))) := by
  subst he
  have m1 := T.m1
  have m4 := T.m4
  have el : lenF [tabD rs] = some (.d (.int (m : Int))) := by
    show some (Vl.d (.int (((rs.map rowD).length : Nat) : Int))) = _
    rw [List.length_map, T.len]
  have ei := v_are_indexes x m (by omega)
  unfold m_halvings_hold_4
  cases hi : idxB x m with
  | false =>
    rw [hi] at ei
    simp only [↓u_liftE el, ↓u_callFE ei, ↓l_addI, ↓l_subI, ↓l_ltI, ↓l_leI, ↓l_gtI, ↓l_geI, ↓l_eqI, ↓l_neI, ↓l_negI, ↓l_notB, ↓l_lenT, ↓l_lenL, ↓l_tupL, ↓l_tupT, ↓l_lstL, ↓l_lstT, ↓l_at20, ↓l_at21, ↓l_seqL, ↓l_seqT, ↓l_isN, ↓u_bTup, ↓u_bAll0, ↓u_bAll1, ↓u_eSl, ↓u_partN, ↓u_partS, ↓u_eC, ↓u_eBin, ↓u_eUn, ↓u_aNil, ↓u_aCons, ↓u_peeks0, ↓u_peeks1, ↓u_freezes0, ↓u_freezes1, ↓u_eTup, ↓u_eLst, ↓u_eCall, ↓u_eFn, ↓u_cV, ↓u_cAnd, ↓u_cOr, ↓u_cNot, ↓u_cYes, ↓u_eIf, ↓u_eAnd, ↓u_eOr, ↓u_sSet, ↓u_sSeq, ↓u_sNx, ↓u_sIf, ↓u_sExpr, ↓u_sRet, ↓u_iSeq, ↓u_iRng, ↓u_iZips, ↓u_sFor, ↓u_eLc, ↓u_eMut, ↓u_eExt, ↓u_eFnM, ↓u_sSets, ↓u_stores0, ↓u_stores1, ↓u_sAsg, ↓u_bSub, ↓run_peek, ↓run_freeze, ↓run_var, ↓run_store, ↓run_bName, ↓run_isOwn, ↓run_extM, ↓run_bnd, ↓run_ret, ↓reduceIte, List.map_cons, List.map_nil, List.replicate, List.cons_append, List.nil_append, List.append_nil, List.getElem?_cons_zero, List.getElem?_cons_succ, List.set_cons_zero, List.set_cons_succ, List.length_cons, List.length_nil, Nat.zero_add, Nat.reduceAdd, Bool.not_true, Bool.not_false, Bool.false_eq_true, Option.map_some, wipeE, ↓u_callM2, asRet_d, asRet_fr, asRet_nx, asRetM_d, asRetM_nx, ↓u_liftE (isi_int _), ↓u_liftE (isi_bool _), ↓u_liftE (isi_tuple _), ↓u_liftE (isi_str _), ↓u_liftE (isi_list _), Bool.false_and]
  | true =>
    rw [hi] at ei
    obtain ⟨l, hl, rfl⟩ := idx_ch m1 m4 hi
    have ef := v_first_halving T (chL_ok m m1 m4 l hl)
    rw [natsOf_nat]
    simp only [↓u_liftE el, ↓u_callFE ei, ↓u_callFE ef, ↓l_addI, ↓l_subI, ↓l_ltI, ↓l_leI, ↓l_gtI, ↓l_geI, ↓l_eqI, ↓l_neI, ↓l_negI, ↓l_notB, ↓l_lenT, ↓l_lenL, ↓l_tupL, ↓l_tupT, ↓l_lstL, ↓l_lstT, ↓l_at20, ↓l_at21, ↓l_seqL, ↓l_seqT, ↓l_isN, ↓u_bTup, ↓u_bAll0, ↓u_bAll1, ↓u_eSl, ↓u_partN, ↓u_partS, ↓u_eC, ↓u_eBin, ↓u_eUn, ↓u_aNil, ↓u_aCons, ↓u_peeks0, ↓u_peeks1, ↓u_freezes0, ↓u_freezes1, ↓u_eTup, ↓u_eLst, ↓u_eCall, ↓u_eFn, ↓u_cV, ↓u_cAnd, ↓u_cOr, ↓u_cNot, ↓u_cYes, ↓u_eIf, ↓u_eAnd, ↓u_eOr, ↓u_sSet, ↓u_sSeq, ↓u_sNx, ↓u_sIf, ↓u_sExpr, ↓u_sRet, ↓u_iSeq, ↓u_iRng, ↓u_iZips, ↓u_sFor, ↓u_eLc, ↓u_eMut, ↓u_eExt, ↓u_eFnM, ↓u_sSets, ↓u_stores0, ↓u_stores1, ↓u_sAsg, ↓u_bSub, ↓run_peek, ↓run_freeze, ↓run_var, ↓run_store, ↓run_bName, ↓run_isOwn, ↓run_extM, ↓run_bnd, ↓run_ret, ↓reduceIte, List.map_cons, List.map_nil, List.replicate, List.cons_append, List.nil_append, List.append_nil, List.getElem?_cons_zero, List.getElem?_cons_succ, List.set_cons_zero, List.set_cons_succ, List.length_cons, List.length_nil, Nat.zero_add, Nat.reduceAdd, Bool.not_true, Bool.not_false, Bool.false_eq_true, Option.map_some, wipeE, ↓u_callM2, asRet_d, asRet_fr, asRet_nx, asRetM_d, asRetM_nx, ↓u_liftE (isi_int _), ↓u_liftE (isi_bool _), ↓u_liftE (isi_tuple _), ↓u_liftE (isi_str _), ↓u_liftE (isi_list _), Option.getD_some, Bool.true_and]
    cases fh rs w l <;> rfl
theorem v_hold {rs : List (List Int)} {m w : Nat} (T : Tb rs m w) {d : PyData} (hd : okW 4 d = true) : F_halvings_hold [tabD rs, d] = some (.ret (.d (.bool (judgeB rs w m d)))) := by
  refine runP_ok ?_
  have e0 := v_need_table T
  unfold m_halvings_hold m_halvings_hold_1 m_halvings_hold_3
  rcases pair_or d with ⟨a, x, rfl⟩ | ⟨hn, hj⟩
  · have hx := okW_tup hd
    have ha : okW 3 a = true := hx.2 a (by simp)
    have hX : okW 3 x = true := hx.2 x (by simp)
    have ew := v_is_word ha
    have et : tupw (.tuple [a, x]) 2 2 = true := rfl
    simp only [↓u_callFE e0, ↓u_callFE ew, ↓u_liftE (at_0 _ _), ↓l_addI, ↓l_subI, ↓l_ltI, ↓l_leI, ↓l_gtI, ↓l_geI, ↓l_eqI, ↓l_neI, ↓l_negI, ↓l_notB, ↓l_lenT, ↓l_lenL, ↓l_tupL, ↓l_tupT, ↓l_lstL, ↓l_lstT, ↓l_at20, ↓l_at21, ↓l_seqL, ↓l_seqT, ↓l_isN, ↓u_bTup, ↓u_bAll0, ↓u_bAll1, ↓u_eSl, ↓u_partN, ↓u_partS, ↓u_eC, ↓u_eBin, ↓u_eUn, ↓u_aNil, ↓u_aCons, ↓u_peeks0, ↓u_peeks1, ↓u_freezes0, ↓u_freezes1, ↓u_eTup, ↓u_eLst, ↓u_eCall, ↓u_eFn, ↓u_cV, ↓u_cAnd, ↓u_cOr, ↓u_cNot, ↓u_cYes, ↓u_eIf, ↓u_eAnd, ↓u_eOr, ↓u_sSet, ↓u_sSeq, ↓u_sNx, ↓u_sIf, ↓u_sExpr, ↓u_sRet, ↓u_iSeq, ↓u_iRng, ↓u_iZips, ↓u_sFor, ↓u_eLc, ↓u_eMut, ↓u_eExt, ↓u_eFnM, ↓u_sSets, ↓u_stores0, ↓u_stores1, ↓u_sAsg, ↓u_bSub, ↓run_peek, ↓run_freeze, ↓run_var, ↓run_store, ↓run_bName, ↓run_isOwn, ↓run_extM, ↓run_bnd, ↓run_ret, ↓reduceIte, List.map_cons, List.map_nil, List.replicate, List.cons_append, List.nil_append, List.append_nil, List.getElem?_cons_zero, List.getElem?_cons_succ, List.set_cons_zero, List.set_cons_succ, List.length_cons, List.length_nil, Nat.zero_add, Nat.reduceAdd, Bool.not_true, Bool.not_false, Bool.false_eq_true, Option.map_some, wipeE, ↓u_callM2, asRet_d, asRet_fr, asRet_nx, asRetM_d, asRetM_nx, ↓u_liftE (isi_int _), ↓u_liftE (isi_bool _), ↓u_liftE (isi_tuple _), ↓u_liftE (isi_str _), ↓u_liftE (isi_list _), ↓u_callFE (v_is_tuple _ _ _), et, Nat.reduceLeDiff]
    cases hw : wdB a with
    | false =>
      rw [judge_no hw]
      unfold m_halvings_hold_2
      simp only [↓l_addI, ↓l_subI, ↓l_ltI, ↓l_leI, ↓l_gtI, ↓l_geI, ↓l_eqI, ↓l_neI, ↓l_negI, ↓l_notB, ↓l_lenT, ↓l_lenL, ↓l_tupL, ↓l_tupT, ↓l_lstL, ↓l_lstT, ↓l_at20, ↓l_at21, ↓l_seqL, ↓l_seqT, ↓l_isN, ↓u_bTup, ↓u_bAll0, ↓u_bAll1, ↓u_eSl, ↓u_partN, ↓u_partS, ↓u_eC, ↓u_eBin, ↓u_eUn, ↓u_aNil, ↓u_aCons, ↓u_peeks0, ↓u_peeks1, ↓u_freezes0, ↓u_freezes1, ↓u_eTup, ↓u_eLst, ↓u_eCall, ↓u_eFn, ↓u_cV, ↓u_cAnd, ↓u_cOr, ↓u_cNot, ↓u_cYes, ↓u_eIf, ↓u_eAnd, ↓u_eOr, ↓u_sSet, ↓u_sSeq, ↓u_sNx, ↓u_sIf, ↓u_sExpr, ↓u_sRet, ↓u_iSeq, ↓u_iRng, ↓u_iZips, ↓u_sFor, ↓u_eLc, ↓u_eMut, ↓u_eExt, ↓u_eFnM, ↓u_sSets, ↓u_stores0, ↓u_stores1, ↓u_sAsg, ↓u_bSub, ↓run_peek, ↓run_freeze, ↓run_var, ↓run_store, ↓run_bName, ↓run_isOwn, ↓run_extM, ↓run_bnd, ↓run_ret, ↓reduceIte, List.map_cons, List.map_nil, List.replicate, List.cons_append, List.nil_append, List.append_nil, List.getElem?_cons_zero, List.getElem?_cons_succ, List.set_cons_zero, List.set_cons_succ, List.length_cons, List.length_nil, Nat.zero_add, Nat.reduceAdd, Bool.not_true, Bool.not_false, Bool.false_eq_true, Option.map_some, wipeE, ↓u_callM2, asRet_d, asRet_fr, asRet_nx, asRetM_d, asRetM_nx, ↓u_liftE (isi_int _), ↓u_liftE (isi_bool _), ↓u_liftE (isi_tuple _), ↓u_liftE (isi_str _), ↓u_liftE (isi_list _)]
    | true =>
      rcases wd_cases hw with rfl | rfl
      · rw [judge_all]
        unfold m_halvings_hold_5
        simp only [↓u_liftE (at_0 _ _), ↓u_liftE (at_1 _ _), ↓l_addI, ↓l_subI, ↓l_ltI, ↓l_leI, ↓l_gtI, ↓l_geI, ↓l_eqI, ↓l_neI, ↓l_negI, ↓l_notB, ↓l_lenT, ↓l_lenL, ↓l_tupL, ↓l_tupT, ↓l_lstL, ↓l_lstT, ↓l_at20, ↓l_at21, ↓l_seqL, ↓l_seqT, ↓l_isN, ↓u_bTup, ↓u_bAll0, ↓u_bAll1, ↓u_eSl, ↓u_partN, ↓u_partS, ↓u_eC, ↓u_eBin, ↓u_eUn, ↓u_aNil, ↓u_aCons, ↓u_peeks0, ↓u_peeks1, ↓u_freezes0, ↓u_freezes1, ↓u_eTup, ↓u_eLst, ↓u_eCall, ↓u_eFn, ↓u_cV, ↓u_cAnd, ↓u_cOr, ↓u_cNot, ↓u_cYes, ↓u_eIf, ↓u_eAnd, ↓u_eOr, ↓u_sSet, ↓u_sSeq, ↓u_sNx, ↓u_sIf, ↓u_sExpr, ↓u_sRet, ↓u_iSeq, ↓u_iRng, ↓u_iZips, ↓u_sFor, ↓u_eLc, ↓u_eMut, ↓u_eExt, ↓u_eFnM, ↓u_sSets, ↓u_stores0, ↓u_stores1, ↓u_sAsg, ↓u_bSub, ↓run_peek, ↓run_freeze, ↓run_var, ↓run_store, ↓run_bName, ↓run_isOwn, ↓run_extM, ↓run_bnd, ↓run_ret, ↓reduceIte, List.map_cons, List.map_nil, List.replicate, List.cons_append, List.nil_append, List.append_nil, List.getElem?_cons_zero, List.getElem?_cons_succ, List.set_cons_zero, List.set_cons_succ, List.length_cons, List.length_nil, Nat.zero_add, Nat.reduceAdd, Bool.not_true, Bool.not_false, Bool.false_eq_true, Option.map_some, wipeE, ↓u_callM2, asRet_d, asRet_fr, asRet_nx, asRetM_d, asRetM_nx, ↓u_liftE (isi_int _), ↓u_liftE (isi_bool _), ↓u_liftE (isi_tuple _), ↓u_liftE (isi_str _), ↓u_liftE (isi_list _), ↓u_liftE eq_nn, ↓u_liftE eq_an]
        cases x with
        | tuple xs =>
          have h := hold_all T hX _ rfl
          simp only [↓u_sSeq] at h
          exact h
        | _ =>
          unfold m_halvings_hold_8 m_halvings_hold_7
          simp only [↓u_liftE (at_1 _ _), ↓l_addI, ↓l_subI, ↓l_ltI, ↓l_leI, ↓l_gtI, ↓l_geI, ↓l_eqI, ↓l_neI, ↓l_negI, ↓l_notB, ↓l_lenT, ↓l_lenL, ↓l_tupL, ↓l_tupT, ↓l_lstL, ↓l_lstT, ↓l_at20, ↓l_at21, ↓l_seqL, ↓l_seqT, ↓l_isN, ↓u_bTup, ↓u_bAll0, ↓u_bAll1, ↓u_eSl, ↓u_partN, ↓u_partS, ↓u_eC, ↓u_eBin, ↓u_eUn, ↓u_aNil, ↓u_aCons, ↓u_peeks0, ↓u_peeks1, ↓u_freezes0, ↓u_freezes1, ↓u_eTup, ↓u_eLst, ↓u_eCall, ↓u_eFn, ↓u_cV, ↓u_cAnd, ↓u_cOr, ↓u_cNot, ↓u_cYes, ↓u_eIf, ↓u_eAnd, ↓u_eOr, ↓u_sSet, ↓u_sSeq, ↓u_sNx, ↓u_sIf, ↓u_sExpr, ↓u_sRet, ↓u_iSeq, ↓u_iRng, ↓u_iZips, ↓u_sFor, ↓u_eLc, ↓u_eMut, ↓u_eExt, ↓u_eFnM, ↓u_sSets, ↓u_stores0, ↓u_stores1, ↓u_sAsg, ↓u_bSub, ↓run_peek, ↓run_freeze, ↓run_var, ↓run_store, ↓run_bName, ↓run_isOwn, ↓run_extM, ↓run_bnd, ↓run_ret, ↓reduceIte, List.map_cons, List.map_nil, List.replicate, List.cons_append, List.nil_append, List.append_nil, List.getElem?_cons_zero, List.getElem?_cons_succ, List.set_cons_zero, List.set_cons_succ, List.length_cons, List.length_nil, Nat.zero_add, Nat.reduceAdd, Bool.not_true, Bool.not_false, Bool.false_eq_true, Option.map_some, wipeE, ↓u_callM2, asRet_d, asRet_fr, asRet_nx, asRetM_d, asRetM_nx, ↓u_liftE (isi_int _), ↓u_liftE (isi_bool _), ↓u_liftE (isi_tuple _), ↓u_liftE (isi_str _), ↓u_liftE (isi_list _), isT, allT]
      · rw [judge_none]
        unfold m_halvings_hold_5
        simp only [↓u_liftE (at_0 _ _), ↓u_liftE (at_1 _ _), ↓l_addI, ↓l_subI, ↓l_ltI, ↓l_leI, ↓l_gtI, ↓l_geI, ↓l_eqI, ↓l_neI, ↓l_negI, ↓l_notB, ↓l_lenT, ↓l_lenL, ↓l_tupL, ↓l_tupT, ↓l_lstL, ↓l_lstT, ↓l_at20, ↓l_at21, ↓l_seqL, ↓l_seqT, ↓l_isN, ↓u_bTup, ↓u_bAll0, ↓u_bAll1, ↓u_eSl, ↓u_partN, ↓u_partS, ↓u_eC, ↓u_eBin, ↓u_eUn, ↓u_aNil, ↓u_aCons, ↓u_peeks0, ↓u_peeks1, ↓u_freezes0, ↓u_freezes1, ↓u_eTup, ↓u_eLst, ↓u_eCall, ↓u_eFn, ↓u_cV, ↓u_cAnd, ↓u_cOr, ↓u_cNot, ↓u_cYes, ↓u_eIf, ↓u_eAnd, ↓u_eOr, ↓u_sSet, ↓u_sSeq, ↓u_sNx, ↓u_sIf, ↓u_sExpr, ↓u_sRet, ↓u_iSeq, ↓u_iRng, ↓u_iZips, ↓u_sFor, ↓u_eLc, ↓u_eMut, ↓u_eExt, ↓u_eFnM, ↓u_sSets, ↓u_stores0, ↓u_stores1, ↓u_sAsg, ↓u_bSub, ↓run_peek, ↓run_freeze, ↓run_var, ↓run_store, ↓run_bName, ↓run_isOwn, ↓run_extM, ↓run_bnd, ↓run_ret, ↓reduceIte, List.map_cons, List.map_nil, List.replicate, List.cons_append, List.nil_append, List.append_nil, List.getElem?_cons_zero, List.getElem?_cons_succ, List.set_cons_zero, List.set_cons_succ, List.length_cons, List.length_nil, Nat.zero_add, Nat.reduceAdd, Bool.not_true, Bool.not_false, Bool.false_eq_true, Option.map_some, wipeE, ↓u_callM2, asRet_d, asRet_fr, asRet_nx, asRetM_d, asRetM_nx, ↓u_liftE (isi_int _), ↓u_liftE (isi_bool _), ↓u_liftE (isi_tuple _), ↓u_liftE (isi_str _), ↓u_liftE (isi_list _), ↓u_liftE eq_nn, ↓u_liftE eq_an]
        refine (hold_none T _ rfl).imp fun fl e' h => ?_
        cases fl <;> first | exact h | cases h
  · simp only [↓u_callFE e0, ↓l_addI, ↓l_subI, ↓l_ltI, ↓l_leI, ↓l_gtI, ↓l_geI, ↓l_eqI, ↓l_neI, ↓l_negI, ↓l_notB, ↓l_lenT, ↓l_lenL, ↓l_tupL, ↓l_tupT, ↓l_lstL, ↓l_lstT, ↓l_at20, ↓l_at21, ↓l_seqL, ↓l_seqT, ↓l_isN, ↓u_bTup, ↓u_bAll0, ↓u_bAll1, ↓u_eSl, ↓u_partN, ↓u_partS, ↓u_eC, ↓u_eBin, ↓u_eUn, ↓u_aNil, ↓u_aCons, ↓u_peeks0, ↓u_peeks1, ↓u_freezes0, ↓u_freezes1, ↓u_eTup, ↓u_eLst, ↓u_eCall, ↓u_eFn, ↓u_cV, ↓u_cAnd, ↓u_cOr, ↓u_cNot, ↓u_cYes, ↓u_eIf, ↓u_eAnd, ↓u_eOr, ↓u_sSet, ↓u_sSeq, ↓u_sNx, ↓u_sIf, ↓u_sExpr, ↓u_sRet, ↓u_iSeq, ↓u_iRng, ↓u_iZips, ↓u_sFor, ↓u_eLc, ↓u_eMut, ↓u_eExt, ↓u_eFnM, ↓u_sSets, ↓u_stores0, ↓u_stores1, ↓u_sAsg, ↓u_bSub, ↓run_peek, ↓run_freeze, ↓run_var, ↓run_store, ↓run_bName, ↓run_isOwn, ↓run_extM, ↓run_bnd, ↓run_ret, ↓reduceIte, List.map_cons, List.map_nil, List.replicate, List.cons_append, List.nil_append, List.append_nil, List.getElem?_cons_zero, List.getElem?_cons_succ, List.set_cons_zero, List.set_cons_succ, List.length_cons, List.length_nil, Nat.zero_add, Nat.reduceAdd, Bool.not_true, Bool.not_false, Bool.false_eq_true, Option.map_some, wipeE, ↓u_callM2, asRet_d, asRet_fr, asRet_nx, asRetM_d, asRetM_nx, ↓u_liftE (isi_int _), ↓u_liftE (isi_bool _), ↓u_liftE (isi_tuple _), ↓u_liftE (isi_str _), ↓u_liftE (isi_list _), ↓u_callFE (v_is_tuple _ _ _), hn]
    unfold m_halvings_hold_2
    simp only [↓l_addI, ↓l_subI, ↓l_ltI, ↓l_leI, ↓l_gtI, ↓l_geI, ↓l_eqI, ↓l_neI, ↓l_negI, ↓l_notB, ↓l_lenT, ↓l_lenL, ↓l_tupL, ↓l_tupT, ↓l_lstL, ↓l_lstT, ↓l_at20, ↓l_at21, ↓l_seqL, ↓l_seqT, ↓l_isN, ↓u_bTup, ↓u_bAll0, ↓u_bAll1, ↓u_eSl, ↓u_partN, ↓u_partS, ↓u_eC, ↓u_eBin, ↓u_eUn, ↓u_aNil, ↓u_aCons, ↓u_peeks0, ↓u_peeks1, ↓u_freezes0, ↓u_freezes1, ↓u_eTup, ↓u_eLst, ↓u_eCall, ↓u_eFn, ↓u_cV, ↓u_cAnd, ↓u_cOr, ↓u_cNot, ↓u_cYes, ↓u_eIf, ↓u_eAnd, ↓u_eOr, ↓u_sSet, ↓u_sSeq, ↓u_sNx, ↓u_sIf, ↓u_sExpr, ↓u_sRet, ↓u_iSeq, ↓u_iRng, ↓u_iZips, ↓u_sFor, ↓u_eLc, ↓u_eMut, ↓u_eExt, ↓u_eFnM, ↓u_sSets, ↓u_stores0, ↓u_stores1, ↓u_sAsg, ↓u_bSub, ↓run_peek, ↓run_freeze, ↓run_var, ↓run_store, ↓run_bName, ↓run_isOwn, ↓run_extM, ↓run_bnd, ↓run_ret, ↓reduceIte, List.map_cons, List.map_nil, List.replicate, List.cons_append, List.nil_append, List.append_nil, List.getElem?_cons_zero, List.getElem?_cons_succ, List.set_cons_zero, List.set_cons_succ, List.length_cons, List.length_nil, Nat.zero_add, Nat.reduceAdd, Bool.not_true, Bool.not_false, Bool.false_eq_true, Option.map_some, wipeE, ↓u_callM2, asRet_d, asRet_fr, asRet_nx, asRetM_d, asRetM_nx, ↓u_liftE (isi_int _), ↓u_liftE (isi_bool _), ↓u_liftE (isi_tuple _), ↓u_liftE (isi_str _), ↓u_liftE (isi_list _), hj]
end L2.K72

namespace L2.K72
open PySem PySem.Spec PyProof.Rows L2.DL
/-! ### texts may be compared -/
def okC (l : List Nat) : Prop := ∀ c ∈ l, c < 128
theorem okC_app {a b : List Nat} (h : okC a) (h' : okC b) : okC (a ++ b) := fun c hc => by
  rcases List.mem_append.mp hc with hc | hc
  · exact h c hc
  · exact h' c hc
theorem okC_join : ∀ {ts : List (List Nat)}, (∀ t ∈ ts, okC t) → okC (joinC ts)
  | [], _ => fun c h => nomatch h
  | [x], h => h x (by simp)
  | x :: y :: r, h => by
    unfold joinC
    refine okC_app (h x (by simp)) fun c hc => ?_
    rcases List.mem_cons.mp hc with rfl | hc
    · decide
    · rcases List.mem_cons.mp hc with rfl | hc
      · decide
      · exact okC_join (fun t ht => h t (List.mem_cons_of_mem _ ht)) c hc
theorem textFrom_ok : ∀ (ts : List Str) (k : Nat) (acc : Str), (∀ t ∈ ts, okC (cs t)) → okC (cs acc) → okC (cs (textFrom k acc ts))
  | [], _, _, _, h => h
  | t :: r, k, acc, h, ha => by
    unfold textFrom
    refine textFrom_ok r (k + 1) _ (fun x hx => h x (List.mem_cons_of_mem _ hx)) ?_
    rw [cs_app, cs_app]
    refine okC_app (okC_app ha ?_) (h t (by simp))
    split <;> (unfold okC; decide +kernel)
theorem okA_chars {d : PyData} (h : okA d = true) : okC (cs d.shown) := by
  cases d with
  | int i =>
    rw [cs_int h]
    rcases small_cases h with rfl | rfl | rfl | rfl | rfl | rfl | rfl | rfl | rfl | rfl | rfl | rfl | rfl | rfl | rfl | rfl | rfl | rfl | rfl | rfl | rfl <;> (unfold okC; decide)
  | none => unfold okC; decide +kernel
  | bool b => cases b <;> (unfold okC; decide +kernel)
  | str s => rcases okS_cases h with rfl | rfl | rfl <;> (unfold okC; decide +kernel)
  | _ => cases h
theorem okW_chars : ∀ {n : Nat} {d : PyData}, okW n d = true → okC (cs d.shown)
  | 0, _, h => okA_chars h
  | n + 1, d, h => by
    cases d with
    | list xs =>
      unfold okW at h
      rw [Bool.and_eq_true, List.all_eq_true] at h
      show okC (cs (textFrom 0 "[" (PyData.shownAll xs) ++ "]"))
      rw [cs_app, shownAll_map]
      refine okC_app (textFrom_ok _ 0 "[" (fun t ht => ?_) (by unfold okC; decide +kernel)) (by unfold okC; decide +kernel)
      obtain ⟨x, hx, rfl⟩ := List.mem_map.mp ht
      exact okW_chars (h.2 x hx)
    | tuple xs =>
      unfold okW at h
      rw [Bool.and_eq_true, List.all_eq_true] at h
      rw [cs_tuple]
      intro c hc
      rcases List.mem_cons.mp hc with rfl | hc
      · decide
      · refine okC_app (okC_join fun t ht => ?_) ?_ c hc
        · obtain ⟨x, hx, rfl⟩ := List.mem_map.mp ht
          exact okW_chars (h.2 x hx)
        · unfold tailC okC
          split <;> decide
    | str s => exact okA_chars (d := .str s) h
    | none => exact okA_chars (d := .none) rfl
    | bool b => exact okA_chars (d := .bool b) rfl
    | int i => exact okA_chars (d := .int i) h
    | dict kvs => cases h
theorem strOk_cs {s : Str} (h : okC (cs s)) : SeqAt.shaped (.str s) = true := by
  have : PyData.canLay0 (.str s) = true := by
    unfold PyData.canLay0 PyData.strOk
    rw [Array.all_eq_true_iff_forall_mem]
    intro c hc
    have := h c (by unfold cs; exact Array.mem_toList_iff.mpr hc)
    exact decide_eq_true (by omega)
  refine lay_shaped (n := 0) ?_ (by omega)
  unfold lay
  rw [this]
  rfl
theorem eq_shown {n k : Nat} {a b : PyData} (ha : okW n a = true) (hb : okW k b = true) : eqF (.str a.shown) (.str b.shown) = some (.d (.bool (a.shown == b.shown))) := by
  rw [eqF, strOk_cs (okW_chars ha), strOk_cs (okW_chars hb)]
  rfl
theorem ne_shown {n k : Nat} {a b : PyData} (ha : okW n a = true) (hb : okW k b = true) : neF (.str a.shown) (.str b.shown) = some (.d (.bool (!(a.shown == b.shown)))) := by
  rw [neF, strOk_cs (okW_chars ha), strOk_cs (okW_chars hb)]
  rfl
/-! ### what is shown as a tuple is a tuple -/
theorem textFrom_pre : ∀ (ts : List Str) (k : Nat) (acc : Str), ∃ r, cs (textFrom k acc ts) = cs acc ++ r
  | [], _, acc => ⟨[], by simp [textFrom]⟩
  | t :: r, k, acc => by
    unfold textFrom
    obtain ⟨u, hu⟩ := textFrom_pre r (k + 1) (acc ++ (if k > 0 then ", " else "" : String) ++ t)
    rw [hu, cs_app, cs_app]
    exact ⟨_, by rw [List.append_assoc, List.append_assoc]⟩
theorem head_tup {d : PyData} {n : Nat} (h : okW n d = true) (hh : (cs d.shown).head? = some 40) : isT d = true := by
  have at0 : okA d = true → isT d = true := fun h0 => by
    exfalso
    cases d with
    | int i =>
      rw [cs_int h0] at hh
      rcases small_cases h0 with rfl | rfl | rfl | rfl | rfl | rfl | rfl | rfl | rfl | rfl | rfl | rfl | rfl | rfl | rfl | rfl | rfl | rfl | rfl | rfl | rfl <;> revert hh <;> decide
    | none => revert hh; decide +kernel
    | bool b => cases b <;> (revert hh; decide +kernel)
    | str s => rcases okS_cases h0 with rfl | rfl | rfl <;> (revert hh; decide +kernel)
    | _ => cases h0
  cases d with
  | tuple xs => rfl
  | list xs =>
    obtain ⟨r, hr⟩ := textFrom_pre (PyData.shownAll xs) 0 "["
    have : cs (PyData.shown (.list xs)) = 91 :: (r ++ cs (("]" : String) : Str)) := by
      show cs (textFrom 0 "[" (PyData.shownAll xs) ++ "]") = _
      rw [cs_app, hr, show cs (("[" : String) : Str) = [91] from by decide +kernel]
      rfl
    rw [this] at hh
    cases hh
  | dict kvs => cases n <;> cases h
  | _ => cases n <;> exact at0 h
theorem shown_eq {n : Nat} {d : PyData} (h : okW n d = true) {l : List Nat} (hl : ∀ i ∈ l, i < 10) (hn : l ≠ []) (e : d.shown = (natT l).shown) : d = natT l :=
  okW_shown h hl hn (head_tup h (by rw [e, natT, cs_tuple]; rfl)) e
theorem okW_ch {m : Nat} (h1 : 1 ≤ m) (h4 : m ≤ 4) {l : List Nat} (h : l ∈ chL m) : okW 1 (natT l) = true := by
  have C := chL_ok m h1 h4 l h
  exact okW_natT C.n4 fun i hi => by have := C.lt i hi; omega
end L2.K72

namespace L2.K72
open PySem PySem.Spec PyProof.Rows L2.DL
def sgP : Nat → List (Int × List Nat)
  | 0 => [(1, [])]
  | k + 1 => (sgP k).flatMap fun p => (List.range (p.2.length + 1)).map fun at' => (p.1 * (if (p.2.length - at') % 2 = 0 then 1 else -1), p.2.take at' ++ [k] ++ p.2.drop at')
def sgD (p : Int × List Nat) : PyData := .tuple [.int p.1, natT p.2]
theorem v_signed : ∀ n : Nat, 1 ≤ n → n ≤ 4 → F__law_signed [.int (n : Int)] = some (.ret (.fr ((sgP n).map sgD)))
  | 1, _, _ => by kernel_rfl
  | 2, _, _ => by kernel_rfl
  | 3, _, _ => by kernel_rfl
  | 4, _, _ => by kernel_rfl
  | 0, h, _ => absurd h (by decide)
  | n + 5, _, h => absurd h (by omega)
def mk : List (Nat × Nat) := [(1, 1), (2, 1), (2, 2), (3, 1), (3, 2), (3, 3), (4, 1), (4, 2), (4, 3), (4, 4)]
theorem lots11 : F__law_lots [.int 1, .int 1] = some (.ret (.fr ((lotsL 1 1).map natT))) := by kernel_rfl
theorem lots21 : F__law_lots [.int 2, .int 1] = some (.ret (.fr ((lotsL 2 1).map natT))) := by kernel_rfl
theorem lots22 : F__law_lots [.int 2, .int 2] = some (.ret (.fr ((lotsL 2 2).map natT))) := by kernel_rfl
theorem lots31 : F__law_lots [.int 3, .int 1] = some (.ret (.fr ((lotsL 3 1).map natT))) := by kernel_rfl
theorem lots32 : F__law_lots [.int 3, .int 2] = some (.ret (.fr ((lotsL 3 2).map natT))) := by kernel_rfl
theorem lots33 : F__law_lots [.int 3, .int 3] = some (.ret (.fr ((lotsL 3 3).map natT))) := by kernel_rfl
theorem lots41 : F__law_lots [.int 4, .int 1] = some (.ret (.fr ((lotsL 4 1).map natT))) := by kernel_rfl
theorem lots42 : F__law_lots [.int 4, .int 2] = some (.ret (.fr ((lotsL 4 2).map natT))) := by kernel_rfl
theorem lots43 : F__law_lots [.int 4, .int 3] = some (.ret (.fr ((lotsL 4 3).map natT))) := by kernel_rfl
theorem lots44 : F__law_lots [.int 4, .int 4] = some (.ret (.fr ((lotsL 4 4).map natT))) := by kernel_rfl
theorem v_lots (m k : Nat) (h4 : m ≤ 4) (h1 : 1 ≤ k) (hk : k ≤ m) : F__law_lots [.int (m : Int), .int (k : Int)] = some (.ret (.fr ((lotsL m k).map natT))) := by
  have a : m = 1 ∨ m = 2 ∨ m = 3 ∨ m = 4 := by omega
  have b : k = 1 ∨ k = 2 ∨ k = 3 ∨ k = 4 := by omega
  rcases a with rfl | rfl | rfl | rfl <;> rcases b with rfl | rfl | rfl | rfl <;> first
    | exact lots11 | exact lots21 | exact lots22 | exact lots31 | exact lots32 | exact lots33 | exact lots41 | exact lots42 | exact lots43 | exact lots44 | omega
end L2.K72

namespace L2.K72
open PySem PySem.Spec PyProof.Rows L2.DL
def entR (rs : List (List Int)) (i j : Nat) : Int := (rs[i]?.getD [])[j]?.getD 0
def partR (rs : List (List Int)) (R C : List Nat) : List (List Int) := R.map fun i => C.map fun j => entR rs i j
theorem tab_ix {rs : List (List Int)} {i : Nat} (h : i < rs.length) : ixF (tabD rs) (.int (i : Int)) = some (.d (rowD (rs[i]?.getD []))) := by
  show (atI (rs.map rowD) (i : Int)).map Vl.d = _
  rw [tab_at h]
  rfl
theorem row_ix {r : List Int} {j : Nat} (h : j < r.length) : ixF (rowD r) (.int (j : Int)) = some (.d (.int (r[j]?.getD 0))) := by
  show (atI (r.map PyData.int) (j : Int)).map Vl.d = _
  rw [at_nat _ _ (by rw [List.length_map]; exact h), List.getElem?_map, List.getElem?_eq_getElem h]
  rfl
theorem v_part {rs : List (List Int)} {m w : Nat} (T : Tb rs m w) {R C : List Nat} (hR : ∀ i ∈ R, i < m) (hC : ∀ j ∈ C, j < w) (hr : R.length ≤ 4) (hc : C.length ≤ 4) : F__law_part [tabD rs, natT R, natT C] = some (.ret (.d (tabD (partR rs R C)))) := by
  refine runP_ok ?_
  unfold m__law_part m__law_part_3 m__law_part_2 m__law_part_1
  simp only [natT, ↓l_addI, ↓l_subI, ↓l_ltI, ↓l_leI, ↓l_gtI, ↓l_geI, ↓l_eqI, ↓l_neI, ↓l_negI, ↓l_notB, ↓l_lenT, ↓l_lenL, ↓l_tupL, ↓l_tupT, ↓l_lstL, ↓l_lstT, ↓l_at20, ↓l_at21, ↓l_seqL, ↓l_seqT, ↓l_isN, ↓u_bTup, ↓u_bAll0, ↓u_bAll1, ↓u_eSl, ↓u_partN, ↓u_partS, ↓u_eC, ↓u_eBin, ↓u_eUn, ↓u_aNil, ↓u_aCons, ↓u_peeks0, ↓u_peeks1, ↓u_freezes0, ↓u_freezes1, ↓u_eTup, ↓u_eLst, ↓u_eCall, ↓u_eFn, ↓u_cV, ↓u_cAnd, ↓u_cOr, ↓u_cNot, ↓u_cYes, ↓u_eIf, ↓u_eAnd, ↓u_eOr, ↓u_sSet, ↓u_sSeq, ↓u_sNx, ↓u_sIf, ↓u_sExpr, ↓u_sRet, ↓u_iSeq, ↓u_iRng, ↓u_iZips, ↓u_sFor, ↓u_eLc, ↓u_eMut, ↓u_eExt, ↓u_eFnM, ↓u_sSets, ↓u_stores0, ↓u_stores1, ↓u_sAsg, ↓u_bSub, ↓run_peek, ↓run_freeze, ↓run_var, ↓run_store, ↓run_bName, ↓run_isOwn, ↓run_extM, ↓run_bnd, ↓run_ret, ↓reduceIte, List.map_cons, List.map_nil, List.replicate, List.cons_append, List.nil_append, List.append_nil, List.getElem?_cons_zero, List.getElem?_cons_succ, List.set_cons_zero, List.set_cons_succ, List.length_cons, List.length_nil, Nat.zero_add, Nat.reduceAdd, Bool.not_true, Bool.not_false, Bool.false_eq_true, Option.map_some, wipeE, ↓u_callM2, asRet_d, asRet_fr, asRet_nx, asRetM_d, asRetM_nx, ↓u_liftE (isi_int _), ↓u_liftE (isi_bool _), ↓u_liftE (isi_tuple _), ↓u_liftE (isi_str _), ↓u_liftE (isi_list _), List.length_map]
  rw [if_pos (by omega)]
  refine run_map _ (fun x => match x with | .int i => rowD (C.map fun j => entR rs i.toNat j) | d => d) rfl (fun x hx => ?_) ?_
  · obtain ⟨i, hi, rfl⟩ := List.mem_map.mp hx
    have him : i < rs.length := by rw [T.len]; exact hR i hi
    have e1 := tab_ix him
    have hrow : rs[i]?.getD [] ∈ rs := by rw [List.getElem?_eq_getElem him]; exact List.getElem_mem him
    have hw := (T.row _ hrow).1
    simp only [↓l_addI, ↓l_subI, ↓l_ltI, ↓l_leI, ↓l_gtI, ↓l_geI, ↓l_eqI, ↓l_neI, ↓l_negI, ↓l_notB, ↓l_lenT, ↓l_lenL, ↓l_tupL, ↓l_tupT, ↓l_lstL, ↓l_lstT, ↓l_at20, ↓l_at21, ↓l_seqL, ↓l_seqT, ↓l_isN, ↓u_bTup, ↓u_bAll0, ↓u_bAll1, ↓u_eSl, ↓u_partN, ↓u_partS, ↓u_eC, ↓u_eBin, ↓u_eUn, ↓u_aNil, ↓u_aCons, ↓u_peeks0, ↓u_peeks1, ↓u_freezes0, ↓u_freezes1, ↓u_eTup, ↓u_eLst, ↓u_eCall, ↓u_eFn, ↓u_cV, ↓u_cAnd, ↓u_cOr, ↓u_cNot, ↓u_cYes, ↓u_eIf, ↓u_eAnd, ↓u_eOr, ↓u_sSet, ↓u_sSeq, ↓u_sNx, ↓u_sIf, ↓u_sExpr, ↓u_sRet, ↓u_iSeq, ↓u_iRng, ↓u_iZips, ↓u_sFor, ↓u_eLc, ↓u_eMut, ↓u_eExt, ↓u_eFnM, ↓u_sSets, ↓u_stores0, ↓u_stores1, ↓u_sAsg, ↓u_bSub, ↓run_peek, ↓run_freeze, ↓run_var, ↓run_store, ↓run_bName, ↓run_isOwn, ↓run_extM, ↓run_bnd, ↓run_ret, ↓reduceIte, List.map_cons, List.map_nil, List.replicate, List.cons_append, List.nil_append, List.append_nil, List.getElem?_cons_zero, List.getElem?_cons_succ, List.set_cons_zero, List.set_cons_succ, List.length_cons, List.length_nil, Nat.zero_add, Nat.reduceAdd, Bool.not_true, Bool.not_false, Bool.false_eq_true, Option.map_some, wipeE, ↓u_callM2, asRet_d, asRet_fr, asRet_nx, asRetM_d, asRetM_nx, ↓u_liftE (isi_int _), ↓u_liftE (isi_bool _), ↓u_liftE (isi_tuple _), ↓u_liftE (isi_str _), ↓u_liftE (isi_list _), List.length_map]
    rw [if_pos (by omega)]
    refine run_map _ (fun x => match x with | .int j => .int (entR rs i j.toNat) | d => d) rfl (fun x hx => ?_) ?_
    · obtain ⟨j, hj, rfl⟩ := List.mem_map.mp hx
      have e2 := row_ix (r := rs[i]?.getD []) (j := j) (by rw [hw]; exact hC j hj)
      simp only [↓u_liftE e1, ↓u_liftE e2, ↓l_addI, ↓l_subI, ↓l_ltI, ↓l_leI, ↓l_gtI, ↓l_geI, ↓l_eqI, ↓l_neI, ↓l_negI, ↓l_notB, ↓l_lenT, ↓l_lenL, ↓l_tupL, ↓l_tupT, ↓l_lstL, ↓l_lstT, ↓l_at20, ↓l_at21, ↓l_seqL, ↓l_seqT, ↓l_isN, ↓u_bTup, ↓u_bAll0, ↓u_bAll1, ↓u_eSl, ↓u_partN, ↓u_partS, ↓u_eC, ↓u_eBin, ↓u_eUn, ↓u_aNil, ↓u_aCons, ↓u_peeks0, ↓u_peeks1, ↓u_freezes0, ↓u_freezes1, ↓u_eTup, ↓u_eLst, ↓u_eCall, ↓u_eFn, ↓u_cV, ↓u_cAnd, ↓u_cOr, ↓u_cNot, ↓u_cYes, ↓u_eIf, ↓u_eAnd, ↓u_eOr, ↓u_sSet, ↓u_sSeq, ↓u_sNx, ↓u_sIf, ↓u_sExpr, ↓u_sRet, ↓u_iSeq, ↓u_iRng, ↓u_iZips, ↓u_sFor, ↓u_eLc, ↓u_eMut, ↓u_eExt, ↓u_eFnM, ↓u_sSets, ↓u_stores0, ↓u_stores1, ↓u_sAsg, ↓u_bSub, ↓run_peek, ↓run_freeze, ↓run_var, ↓run_store, ↓run_bName, ↓run_isOwn, ↓run_extM, ↓run_bnd, ↓run_ret, ↓reduceIte, List.map_cons, List.map_nil, List.replicate, List.cons_append, List.nil_append, List.append_nil, List.getElem?_cons_zero, List.getElem?_cons_succ, List.set_cons_zero, List.set_cons_succ, List.length_cons, List.length_nil, Nat.zero_add, Nat.reduceAdd, Bool.not_true, Bool.not_false, Bool.false_eq_true, Option.map_some, wipeE, ↓u_callM2, asRet_d, asRet_fr, asRet_nx, asRetM_d, asRetM_nx, ↓u_liftE (isi_int _), ↓u_liftE (isi_bool _), ↓u_liftE (isi_tuple _), ↓u_liftE (isi_str _), ↓u_liftE (isi_list _)]
      exact ⟨by simp [entR], trivial⟩
    · simp only [↓l_addI, ↓l_subI, ↓l_ltI, ↓l_leI, ↓l_gtI, ↓l_geI, ↓l_eqI, ↓l_neI, ↓l_negI, ↓l_notB, ↓l_lenT, ↓l_lenL, ↓l_tupL, ↓l_tupT, ↓l_lstL, ↓l_lstT, ↓l_at20, ↓l_at21, ↓l_seqL, ↓l_seqT, ↓l_isN, ↓u_bTup, ↓u_bAll0, ↓u_bAll1, ↓u_eSl, ↓u_partN, ↓u_partS, ↓u_eC, ↓u_eBin, ↓u_eUn, ↓u_aNil, ↓u_aCons, ↓u_peeks0, ↓u_peeks1, ↓u_freezes0, ↓u_freezes1, ↓u_eTup, ↓u_eLst, ↓u_eCall, ↓u_eFn, ↓u_cV, ↓u_cAnd, ↓u_cOr, ↓u_cNot, ↓u_cYes, ↓u_eIf, ↓u_eAnd, ↓u_eOr, ↓u_sSet, ↓u_sSeq, ↓u_sNx, ↓u_sIf, ↓u_sExpr, ↓u_sRet, ↓u_iSeq, ↓u_iRng, ↓u_iZips, ↓u_sFor, ↓u_eLc, ↓u_eMut, ↓u_eExt, ↓u_eFnM, ↓u_sSets, ↓u_stores0, ↓u_stores1, ↓u_sAsg, ↓u_bSub, ↓run_peek, ↓run_freeze, ↓run_var, ↓run_store, ↓run_bName, ↓run_isOwn, ↓run_extM, ↓run_bnd, ↓run_ret, ↓reduceIte, List.map_cons, List.map_nil, List.replicate, List.cons_append, List.nil_append, List.append_nil, List.getElem?_cons_zero, List.getElem?_cons_succ, List.set_cons_zero, List.set_cons_succ, List.length_cons, List.length_nil, Nat.zero_add, Nat.reduceAdd, Bool.not_true, Bool.not_false, Bool.false_eq_true, Option.map_some, wipeE, ↓u_callM2, asRet_d, asRet_fr, asRet_nx, asRetM_d, asRetM_nx, ↓u_liftE (isi_int _), ↓u_liftE (isi_bool _), ↓u_liftE (isi_tuple _), ↓u_liftE (isi_str _), ↓u_liftE (isi_list _), List.map_map]
      refine ⟨?_, trivial⟩
      unfold rowD
      rw [List.map_map]
      congr 1
  · simp only [↓l_addI, ↓l_subI, ↓l_ltI, ↓l_leI, ↓l_gtI, ↓l_geI, ↓l_eqI, ↓l_neI, ↓l_negI, ↓l_notB, ↓l_lenT, ↓l_lenL, ↓l_tupL, ↓l_tupT, ↓l_lstL, ↓l_lstT, ↓l_at20, ↓l_at21, ↓l_seqL, ↓l_seqT, ↓l_isN, ↓u_bTup, ↓u_bAll0, ↓u_bAll1, ↓u_eSl, ↓u_partN, ↓u_partS, ↓u_eC, ↓u_eBin, ↓u_eUn, ↓u_aNil, ↓u_aCons, ↓u_peeks0, ↓u_peeks1, ↓u_freezes0, ↓u_freezes1, ↓u_eTup, ↓u_eLst, ↓u_eCall, ↓u_eFn, ↓u_cV, ↓u_cAnd, ↓u_cOr, ↓u_cNot, ↓u_cYes, ↓u_eIf, ↓u_eAnd, ↓u_eOr, ↓u_sSet, ↓u_sSeq, ↓u_sNx, ↓u_sIf, ↓u_sExpr, ↓u_sRet, ↓u_iSeq, ↓u_iRng, ↓u_iZips, ↓u_sFor, ↓u_eLc, ↓u_eMut, ↓u_eExt, ↓u_eFnM, ↓u_sSets, ↓u_stores0, ↓u_stores1, ↓u_sAsg, ↓u_bSub, ↓run_peek, ↓run_freeze, ↓run_var, ↓run_store, ↓run_bName, ↓run_isOwn, ↓run_extM, ↓run_bnd, ↓run_ret, ↓reduceIte, List.map_cons, List.map_nil, List.replicate, List.cons_append, List.nil_append, List.append_nil, List.getElem?_cons_zero, List.getElem?_cons_succ, List.set_cons_zero, List.set_cons_succ, List.length_cons, List.length_nil, Nat.zero_add, Nat.reduceAdd, Bool.not_true, Bool.not_false, Bool.false_eq_true, Option.map_some, wipeE, ↓u_callM2, asRet_d, asRet_fr, asRet_nx, asRetM_d, asRetM_nx, ↓u_liftE (isi_int _), ↓u_liftE (isi_bool _), ↓u_liftE (isi_tuple _), ↓u_liftE (isi_str _), ↓u_liftE (isi_list _), List.map_map]
    unfold tabD partR
    rw [List.map_map]
    congr 2
def prodI (ps : List (List Int)) (s : Int) (own : List Nat) : Nat → Int
  | 0 => s
  | i + 1 => prodI ps s own i * entR ps i (own[i]?.getD 0)
def sumI (ps : List (List Int)) (k : Nat) (L : List (Int × List Nat)) : Nat → Int
  | 0 => 0
  | i + 1 => sumI ps k L i + prodI ps (L[i]?.getD (0, [])).1 (L[i]?.getD (0, [])).2 k
theorem sg_len : ∀ n ∈ [1, 2, 3, 4], (sgP n).length ≤ 24 ∧ ∀ p ∈ sgP n, p.2.length = n ∧ ∀ i ∈ p.2, i < n := by decide +kernel
theorem v_det {ps : List (List Int)} {k : Nat} (h1 : 1 ≤ k) (h4 : k ≤ 4) (hp : ps.length = k) (hr : ∀ r ∈ ps, r.length = k) (hb : ∀ r ∈ ps, ∀ x ∈ r, -9 ≤ x ∧ x ≤ 9) : F__law_det [tabD ps] = some (.ret (.d (.int (sumI ps k (sgP k) (sgP k).length)))) := by
  have es := v_signed k h1 h4
  obtain ⟨sl, sp⟩ := sg_len k (in14 h1 h4)
  have el : lenF [tabD ps] = some (.d (.int (k : Int))) := by
    show some (Vl.d (.int (((ps.map rowD).length : Nat) : Int))) = _
    rw [List.length_map, hp]
  refine runP_ok ?_
  unfold m__law_det m__law_det_1 m__law_det_6
  simp only [↓u_liftE el, ↓u_callFE es, ↓l_addI, ↓l_subI, ↓l_ltI, ↓l_leI, ↓l_gtI, ↓l_geI, ↓l_eqI, ↓l_neI, ↓l_negI, ↓l_notB, ↓l_lenT, ↓l_lenL, ↓l_tupL, ↓l_tupT, ↓l_lstL, ↓l_lstT, ↓l_at20, ↓l_at21, ↓l_seqL, ↓l_seqT, ↓l_isN, ↓u_bTup, ↓u_bAll0, ↓u_bAll1, ↓u_eSl, ↓u_partN, ↓u_partS, ↓u_eC, ↓u_eBin, ↓u_eUn, ↓u_aNil, ↓u_aCons, ↓u_peeks0, ↓u_peeks1, ↓u_freezes0, ↓u_freezes1, ↓u_eTup, ↓u_eLst, ↓u_eCall, ↓u_eFn, ↓u_cV, ↓u_cAnd, ↓u_cOr, ↓u_cNot, ↓u_cYes, ↓u_eIf, ↓u_eAnd, ↓u_eOr, ↓u_sSet, ↓u_sSeq, ↓u_sNx, ↓u_sIf, ↓u_sExpr, ↓u_sRet, ↓u_iSeq, ↓u_iRng, ↓u_iZips, ↓u_sFor, ↓u_eLc, ↓u_eMut, ↓u_eExt, ↓u_eFnM, ↓u_sSets, ↓u_stores0, ↓u_stores1, ↓u_sAsg, ↓u_bSub, ↓run_peek, ↓run_freeze, ↓run_var, ↓run_store, ↓run_bName, ↓run_isOwn, ↓run_extM, ↓run_bnd, ↓run_ret, ↓reduceIte, List.map_cons, List.map_nil, List.replicate, List.cons_append, List.nil_append, List.append_nil, List.getElem?_cons_zero, List.getElem?_cons_succ, List.set_cons_zero, List.set_cons_succ, List.length_cons, List.length_nil, Nat.zero_add, Nat.reduceAdd, Bool.not_true, Bool.not_false, Bool.false_eq_true, Option.map_some, wipeE, ↓u_callM2, asRet_d, asRet_fr, asRet_nx, asRetM_d, asRetM_nx, ↓u_liftE (isi_int _), ↓u_liftE (isi_bool _), ↓u_liftE (isi_tuple _), ↓u_liftE (isi_str _), ↓u_liftE (isi_list _)]
  refine run_for _ (fun i e => ∃ x2 x3 x4 x5 x6, e = [.d (tabD ps), .d (.int (sumI ps k (sgP k) i)), x2, x3, x4, x5, x6]) ⟨_, _, _, _, _, rfl⟩ ?_ ?_
  · rintro i x e hx ⟨x2, x3, x4, x5, x6, rfl⟩
    rw [List.getElem?_map] at hx
    obtain ⟨p, hpi, rfl⟩ := Option.map_eq_some_iff.mp hx
    obtain ⟨pl, pb⟩ := sp p (List.mem_of_getElem? hpi)
    unfold m__law_det_2 m__law_det_4 sgD
    simp only [↓l_addI, ↓l_subI, ↓l_ltI, ↓l_leI, ↓l_gtI, ↓l_geI, ↓l_eqI, ↓l_neI, ↓l_negI, ↓l_notB, ↓l_lenT, ↓l_lenL, ↓l_tupL, ↓l_tupT, ↓l_lstL, ↓l_lstT, ↓l_at20, ↓l_at21, ↓l_seqL, ↓l_seqT, ↓l_isN, ↓u_bTup, ↓u_bAll0, ↓u_bAll1, ↓u_eSl, ↓u_partN, ↓u_partS, ↓u_eC, ↓u_eBin, ↓u_eUn, ↓u_aNil, ↓u_aCons, ↓u_peeks0, ↓u_peeks1, ↓u_freezes0, ↓u_freezes1, ↓u_eTup, ↓u_eLst, ↓u_eCall, ↓u_eFn, ↓u_cV, ↓u_cAnd, ↓u_cOr, ↓u_cNot, ↓u_cYes, ↓u_eIf, ↓u_eAnd, ↓u_eOr, ↓u_sSet, ↓u_sSeq, ↓u_sNx, ↓u_sIf, ↓u_sExpr, ↓u_sRet, ↓u_iSeq, ↓u_iRng, ↓u_iZips, ↓u_sFor, ↓u_eLc, ↓u_eMut, ↓u_eExt, ↓u_eFnM, ↓u_sSets, ↓u_stores0, ↓u_stores1, ↓u_sAsg, ↓u_bSub, ↓run_peek, ↓run_freeze, ↓run_var, ↓run_store, ↓run_bName, ↓run_isOwn, ↓run_extM, ↓run_bnd, ↓run_ret, ↓reduceIte, List.map_cons, List.map_nil, List.replicate, List.cons_append, List.nil_append, List.append_nil, List.getElem?_cons_zero, List.getElem?_cons_succ, List.set_cons_zero, List.set_cons_succ, List.length_cons, List.length_nil, Nat.zero_add, Nat.reduceAdd, Bool.not_true, Bool.not_false, Bool.false_eq_true, Option.map_some, wipeE, ↓u_callM2, asRet_d, asRet_fr, asRet_nx, asRetM_d, asRetM_nx, ↓u_liftE (isi_int _), ↓u_liftE (isi_bool _), ↓u_liftE (isi_tuple _), ↓u_liftE (isi_str _), ↓u_liftE (isi_list _), Nat.reduceEqDiff, natT]
    have hlen : (enumL (p.2.map fun (i : Nat) => PyData.int (i : Int))).length = k := by
      unfold enumL
      rw [List.length_map, List.length_zip, List.length_range, List.length_map]
      omega
    have ee : enT [.tuple (p.2.map fun (i : Nat) => PyData.int (i : Int))] = some (enumL (p.2.map fun (i : Nat) => PyData.int (i : Int))) := rfl
    simp only [↓u_liftE ee, ↓l_addI, ↓l_subI, ↓l_ltI, ↓l_leI, ↓l_gtI, ↓l_geI, ↓l_eqI, ↓l_neI, ↓l_negI, ↓l_notB, ↓l_lenT, ↓l_lenL, ↓l_tupL, ↓l_tupT, ↓l_lstL, ↓l_lstT, ↓l_at20, ↓l_at21, ↓l_seqL, ↓l_seqT, ↓l_isN, ↓u_bTup, ↓u_bAll0, ↓u_bAll1, ↓u_eSl, ↓u_partN, ↓u_partS, ↓u_eC, ↓u_eBin, ↓u_eUn, ↓u_aNil, ↓u_aCons, ↓u_peeks0, ↓u_peeks1, ↓u_freezes0, ↓u_freezes1, ↓u_eTup, ↓u_eLst, ↓u_eCall, ↓u_eFn, ↓u_cV, ↓u_cAnd, ↓u_cOr, ↓u_cNot, ↓u_cYes, ↓u_eIf, ↓u_eAnd, ↓u_eOr, ↓u_sSet, ↓u_sSeq, ↓u_sNx, ↓u_sIf, ↓u_sExpr, ↓u_sRet, ↓u_iSeq, ↓u_iRng, ↓u_iZips, ↓u_sFor, ↓u_eLc, ↓u_eMut, ↓u_eExt, ↓u_eFnM, ↓u_sSets, ↓u_stores0, ↓u_stores1, ↓u_sAsg, ↓u_bSub, ↓run_peek, ↓run_freeze, ↓run_var, ↓run_store, ↓run_bName, ↓run_isOwn, ↓run_extM, ↓run_bnd, ↓run_ret, ↓reduceIte, List.map_cons, List.map_nil, List.replicate, List.cons_append, List.nil_append, List.append_nil, List.getElem?_cons_zero, List.getElem?_cons_succ, List.set_cons_zero, List.set_cons_succ, List.length_cons, List.length_nil, Nat.zero_add, Nat.reduceAdd, Bool.not_true, Bool.not_false, Bool.false_eq_true, Option.map_some, wipeE, ↓u_callM2, asRet_d, asRet_fr, asRet_nx, asRetM_d, asRetM_nx, ↓u_liftE (isi_int _), ↓u_liftE (isi_bool _), ↓u_liftE (isi_tuple _), ↓u_liftE (isi_str _), ↓u_liftE (isi_list _)]
    refine run_for _ (fun j e => ∃ x5 x6, e = [.d (tabD ps), .d (.int (sumI ps k (sgP k) i)), .d (.int p.1), .d (.tuple (p.2.map fun (i : Nat) => PyData.int (i : Int))), .d (.int (prodI ps p.1 p.2 j)), x5, x6]) ⟨_, _, rfl⟩ ?_ ?_
    · rintro j y e hy ⟨x5, x6, rfl⟩
      have hj : j < p.2.length ∧ y = .tuple [.int (j : Int), .int ((p.2[j]?.getD 0 : Nat) : Int)] := by
        unfold enumL at hy
        rw [List.getElem?_map] at hy
        obtain ⟨⟨d0, n⟩, q, rfl⟩ := Option.map_eq_some_iff.mp hy
        rw [List.getElem?_zip_eq_some] at q
        obtain ⟨q1, q2⟩ := q
        have hlt := (List.getElem?_eq_some_iff.mp q2).1
        rw [List.length_range, List.length_map] at hlt
        simp only at q1 q2
        rw [List.getElem?_range (by rw [List.length_map]; exact hlt)] at q2
        cases q2
        rw [List.getElem?_map, List.getElem?_eq_getElem hlt] at q1
        cases q1
        refine ⟨hlt, ?_⟩
        rw [List.getElem?_eq_getElem hlt]
        rfl
      obtain ⟨hj, rfl⟩ := hj
      have hjk : j < ps.length := by omega
      have e1 := tab_ix hjk
      have hrow : ps[j]?.getD [] ∈ ps := by rw [List.getElem?_eq_getElem hjk]; exact List.getElem_mem hjk
      have e2 := row_ix (r := ps[j]?.getD []) (j := p.2[j]?.getD 0) (by rw [hr _ hrow]; rw [List.getElem?_eq_getElem hj]; exact pb _ (List.getElem_mem hj))
      have hx : smallI ((ps[j]?.getD [])[p.2[j]?.getD 0]?.getD 0) = true := by
        refine small_of ?_
        cases e : (ps[j]?.getD [])[p.2[j]?.getD 0]? with
        | none => simp
        | some x =>
          have := hb _ hrow x (List.mem_of_getElem? e)
          simp
          omega
      have e3 : mulF (.int (prodI ps p.1 p.2 j)) (.int ((ps[j]?.getD [])[p.2[j]?.getD 0]?.getD 0)) = some (.d (.int (prodI ps p.1 p.2 j * (ps[j]?.getD [])[p.2[j]?.getD 0]?.getD 0))) := by
        unfold mulF
        dsimp only
        rw [hx, Bool.or_true]
        rfl
      unfold m__law_det_3
      simp only [↓u_liftE e1, ↓u_liftE e2, ↓u_liftE e3, ↓l_addI, ↓l_subI, ↓l_ltI, ↓l_leI, ↓l_gtI, ↓l_geI, ↓l_eqI, ↓l_neI, ↓l_negI, ↓l_notB, ↓l_lenT, ↓l_lenL, ↓l_tupL, ↓l_tupT, ↓l_lstL, ↓l_lstT, ↓l_at20, ↓l_at21, ↓l_seqL, ↓l_seqT, ↓l_isN, ↓u_bTup, ↓u_bAll0, ↓u_bAll1, ↓u_eSl, ↓u_partN, ↓u_partS, ↓u_eC, ↓u_eBin, ↓u_eUn, ↓u_aNil, ↓u_aCons, ↓u_peeks0, ↓u_peeks1, ↓u_freezes0, ↓u_freezes1, ↓u_eTup, ↓u_eLst, ↓u_eCall, ↓u_eFn, ↓u_cV, ↓u_cAnd, ↓u_cOr, ↓u_cNot, ↓u_cYes, ↓u_eIf, ↓u_eAnd, ↓u_eOr, ↓u_sSet, ↓u_sSeq, ↓u_sNx, ↓u_sIf, ↓u_sExpr, ↓u_sRet, ↓u_iSeq, ↓u_iRng, ↓u_iZips, ↓u_sFor, ↓u_eLc, ↓u_eMut, ↓u_eExt, ↓u_eFnM, ↓u_sSets, ↓u_stores0, ↓u_stores1, ↓u_sAsg, ↓u_bSub, ↓run_peek, ↓run_freeze, ↓run_var, ↓run_store, ↓run_bName, ↓run_isOwn, ↓run_extM, ↓run_bnd, ↓run_ret, ↓reduceIte, List.map_cons, List.map_nil, List.replicate, List.cons_append, List.nil_append, List.append_nil, List.getElem?_cons_zero, List.getElem?_cons_succ, List.set_cons_zero, List.set_cons_succ, List.length_cons, List.length_nil, Nat.zero_add, Nat.reduceAdd, Bool.not_true, Bool.not_false, Bool.false_eq_true, Option.map_some, wipeE, ↓u_callM2, asRet_d, asRet_fr, asRet_nx, asRetM_d, asRetM_nx, ↓u_liftE (isi_int _), ↓u_liftE (isi_bool _), ↓u_liftE (isi_tuple _), ↓u_liftE (isi_str _), ↓u_liftE (isi_list _), Nat.reduceEqDiff]
      exact ⟨_, _, rfl⟩
    · rintro e ⟨x5, x6, rfl⟩
      unfold m__law_det_5
      simp only [↓l_addI, ↓l_subI, ↓l_ltI, ↓l_leI, ↓l_gtI, ↓l_geI, ↓l_eqI, ↓l_neI, ↓l_negI, ↓l_notB, ↓l_lenT, ↓l_lenL, ↓l_tupL, ↓l_tupT, ↓l_lstL, ↓l_lstT, ↓l_at20, ↓l_at21, ↓l_seqL, ↓l_seqT, ↓l_isN, ↓u_bTup, ↓u_bAll0, ↓u_bAll1, ↓u_eSl, ↓u_partN, ↓u_partS, ↓u_eC, ↓u_eBin, ↓u_eUn, ↓u_aNil, ↓u_aCons, ↓u_peeks0, ↓u_peeks1, ↓u_freezes0, ↓u_freezes1, ↓u_eTup, ↓u_eLst, ↓u_eCall, ↓u_eFn, ↓u_cV, ↓u_cAnd, ↓u_cOr, ↓u_cNot, ↓u_cYes, ↓u_eIf, ↓u_eAnd, ↓u_eOr, ↓u_sSet, ↓u_sSeq, ↓u_sNx, ↓u_sIf, ↓u_sExpr, ↓u_sRet, ↓u_iSeq, ↓u_iRng, ↓u_iZips, ↓u_sFor, ↓u_eLc, ↓u_eMut, ↓u_eExt, ↓u_eFnM, ↓u_sSets, ↓u_stores0, ↓u_stores1, ↓u_sAsg, ↓u_bSub, ↓run_peek, ↓run_freeze, ↓run_var, ↓run_store, ↓run_bName, ↓run_isOwn, ↓run_extM, ↓run_bnd, ↓run_ret, ↓reduceIte, List.map_cons, List.map_nil, List.replicate, List.cons_append, List.nil_append, List.append_nil, List.getElem?_cons_zero, List.getElem?_cons_succ, List.set_cons_zero, List.set_cons_succ, List.length_cons, List.length_nil, Nat.zero_add, Nat.reduceAdd, Bool.not_true, Bool.not_false, Bool.false_eq_true, Option.map_some, wipeE, ↓u_callM2, asRet_d, asRet_fr, asRet_nx, asRetM_d, asRetM_nx, ↓u_liftE (isi_int _), ↓u_liftE (isi_bool _), ↓u_liftE (isi_tuple _), ↓u_liftE (isi_str _), ↓u_liftE (isi_list _)]
      rw [hlen]
      have hS : sumI ps k (sgP k) (i + 1) = sumI ps k (sgP k) i + prodI ps p.1 p.2 k := by
        show sumI ps k (sgP k) i + prodI ps ((sgP k)[i]?.getD (0, [])).1 ((sgP k)[i]?.getD (0, [])).2 k = _
        rw [hpi]
        rfl
      rw [hS]
      exact ⟨_, _, _, _, _, rfl⟩
  · rintro e ⟨x2, x3, x4, x5, x6, rfl⟩
    unfold m__law_det_7
    simp only [↓l_addI, ↓l_subI, ↓l_ltI, ↓l_leI, ↓l_gtI, ↓l_geI, ↓l_eqI, ↓l_neI, ↓l_negI, ↓l_notB, ↓l_lenT, ↓l_lenL, ↓l_tupL, ↓l_tupT, ↓l_lstL, ↓l_lstT, ↓l_at20, ↓l_at21, ↓l_seqL, ↓l_seqT, ↓l_isN, ↓u_bTup, ↓u_bAll0, ↓u_bAll1, ↓u_eSl, ↓u_partN, ↓u_partS, ↓u_eC, ↓u_eBin, ↓u_eUn, ↓u_aNil, ↓u_aCons, ↓u_peeks0, ↓u_peeks1, ↓u_freezes0, ↓u_freezes1, ↓u_eTup, ↓u_eLst, ↓u_eCall, ↓u_eFn, ↓u_cV, ↓u_cAnd, ↓u_cOr, ↓u_cNot, ↓u_cYes, ↓u_eIf, ↓u_eAnd, ↓u_eOr, ↓u_sSet, ↓u_sSeq, ↓u_sNx, ↓u_sIf, ↓u_sExpr, ↓u_sRet, ↓u_iSeq, ↓u_iRng, ↓u_iZips, ↓u_sFor, ↓u_eLc, ↓u_eMut, ↓u_eExt, ↓u_eFnM, ↓u_sSets, ↓u_stores0, ↓u_stores1, ↓u_sAsg, ↓u_bSub, ↓run_peek, ↓run_freeze, ↓run_var, ↓run_store, ↓run_bName, ↓run_isOwn, ↓run_extM, ↓run_bnd, ↓run_ret, ↓reduceIte, List.map_cons, List.map_nil, List.replicate, List.cons_append, List.nil_append, List.append_nil, List.getElem?_cons_zero, List.getElem?_cons_succ, List.set_cons_zero, List.set_cons_succ, List.length_cons, List.length_nil, Nat.zero_add, Nat.reduceAdd, Bool.not_true, Bool.not_false, Bool.false_eq_true, Option.map_some, wipeE, ↓u_callM2, asRet_d, asRet_fr, asRet_nx, asRetM_d, asRetM_nx, ↓u_liftE (isi_int _), ↓u_liftE (isi_bool _), ↓u_liftE (isi_tuple _), ↓u_liftE (isi_str _), ↓u_liftE (isi_list _), List.length_map]
end L2.K72

namespace L2.DL
open PySem PySem.Spec PyProof.Rows
theorem findSome_at {α β : Type} {g : α → Option β} {x : α} {r : β} : ∀ {xs : List α} {i : Nat}, xs[i]? = some x → g x = some r → (∀ (j : Nat) y, j < i → xs[j]? = some y → g y = none) → xs.findSome? g = some r
  | [], i, h, _, _ => by cases i <;> cases h
  | y :: xs, 0, h, hg, _ => by
    cases h
    rw [List.findSome?_cons, hg]
  | y :: xs, i + 1, h, hg, hn => by
    rw [List.findSome?_cons, hn 0 y (by omega) rfl]
    exact findSome_at (i := i) h hg fun j z hj hz => hn (j + 1) z (by omega) hz
theorem findSome_no {α β : Type} {g : α → Option β} {xs : List α} (h : ∀ (j : Nat) y, xs[j]? = some y → g y = none) : xs.findSome? g = none := by
  rw [List.findSome?_eq_none_iff]
  intro x hx
  obtain ⟨j, hj⟩ := List.mem_iff_getElem?.mp hx
  exact h j x hj
theorem run_for_some {α : Type} {e : En} {bind : Bd} {body : Mo Fl} {Q : Fl → En → Prop} (L : List α) (f : α → PyData) (g : α → Option PyData) (P : En → Prop) (h0 : P e)
    (hs : ∀ x ∈ L, ∀ e, P e → Run (bind (f x)) e fun _ e1 => Run body e1 fun fl e2 => match g x with
      | none => fl = .nx ∧ P e2
      | some r => fl = .rt (.d r))
    (hn : L.findSome? g = none → ∀ e, P e → Q .nx e) (hr : ∀ r, L.findSome? g = some r → ∀ e, Q (.rt (.d r)) e) : Run (forM bind body (L.map f)) e Q := by
  refine run_for _ (fun i e => P e ∧ ∀ (j : Nat) y, j < i → L[j]? = some y → g y = none) ⟨h0, fun j y h => absurd h (by omega)⟩ ?_ ?_
  · rintro i x e hx ⟨hp, hb⟩
    rw [List.getElem?_map] at hx
    obtain ⟨a, ha, rfl⟩ := Option.map_eq_some_iff.mp hx
    refine (hs a (List.mem_of_getElem? ha) e hp).imp fun _ e1 h => h.imp fun fl e2 h => ?_
    cases hg : g a with
    | none =>
      rw [hg] at h
      obtain ⟨rfl, h⟩ := h
      refine ⟨h, fun j y hj hy => ?_⟩
      by_cases hji : j = i
      · subst hji
        rw [ha] at hy
        cases hy
        exact hg
      · exact hb j y (by omega) hy
    | some r =>
      rw [hg] at h
      subst h
      exact hr r (findSome_at ha hg hb) e2
  · rintro e ⟨hp, hb⟩
    rw [List.length_map] at hb
    exact hn (findSome_no fun j y hj => hb j y (List.getElem?_eq_some_iff.mp hj).1 hj) e hp
theorem fs_flat {α β γ : Type} (h : α → List β) (g : β → Option γ) : ∀ L : List α, (L.flatMap h).findSome? g = L.findSome? fun a => (h a).findSome? g
  | [] => rfl
  | a :: L => by
    rw [List.flatMap_cons, List.findSome?_append, List.findSome?_cons, fs_flat h g L]
    cases (h a).findSome? g <;> rfl
theorem fs_find {α β : Type} (p : α → Bool) (d : α → β) : ∀ L : List α, (L.find? p).map d = L.findSome? fun x => if p x then some (d x) else none
  | [] => rfl
  | a :: L => by
    rw [List.find?_cons, List.findSome?_cons]
    cases p a
    · exact fs_find p d L
    · rfl
theorem fs_congr {α β : Type} {g g' : α → Option β} : ∀ {L : List α}, (∀ x ∈ L, g x = g' x) → L.findSome? g = L.findSome? g'
  | [], _ => rfl
  | a :: L, h => by
    rw [List.findSome?_cons, List.findSome?_cons, h a (by simp), fs_congr fun x hx => h x (List.mem_cons_of_mem _ hx)]
end L2.DL
namespace L2.K72
open PySem PySem.Spec PyProof.Rows L2.DL
def barX (rs : List (List Int)) (q : List Nat × List Nat) : PyData := .tuple [natT q.1, natT q.2, .int (detP rs q.1 q.2)]
def barD (rs : List (List Int)) (m w : Nat) : PyData := match barL rs m w with
  | none => .none
  | some q => barX rs q
def gC (rs : List (List Int)) (R C : List Nat) : Option PyData := if far (detP rs R C) then some (barX rs (R, C)) else none
def gR (rs : List (List Int)) (w k : Nat) (R : List Nat) : Option PyData := (lotsL w (k + 1)).findSome? (gC rs R)
def gS (rs : List (List Int)) (m w k : Nat) : Option PyData := (lotsL m (k + 1)).findSome? (gR rs w k)
theorem bar_eq (rs : List (List Int)) (m w : Nat) : (barL rs m w).map (barX rs) = (List.range (min m w)).findSome? (gS rs m w) := by
  unfold barL partsL
  rw [fs_find, fs_flat]
  refine fs_congr fun k _ => ?_
  rw [fs_flat]
  refine fs_congr fun R _ => ?_
  rw [List.findSome?_map]
  rfl
theorem abs_far (a : Int) : decide (1 < (if a < 0 then -a else a)) = far a := by
  unfold far
  rw [Bool.eq_iff_iff, Bool.or_eq_true, decide_eq_true_eq, decide_eq_true_eq, decide_eq_true_eq]
  split <;> omega
theorem lots_ok : ∀ p ∈ mw, ∀ k ∈ List.range (min p.1 p.2), (∀ R ∈ lotsL p.1 (k + 1), R.length = k + 1 ∧ ∀ i ∈ R, i < p.1) ∧ (∀ R ∈ lotsL p.2 (k + 1), R.length = k + 1 ∧ ∀ i ∈ R, i < p.2) := by decide +kernel
theorem ent_at (rs : List (List Int)) (i j : Nat) : at0 (colI rs j) i = entR rs i j := by
  unfold at0 colI entR
  rw [List.getElem?_map]
  cases rs[i]? <;> simp
theorem sum_det {rs : List (List Int)} {k : Nat} {R C : List Nat} (h1 : 1 ≤ k) (h4 : k ≤ 4) (hR : R.length = k) (hC : C.length = k) : sumI (partR rs R C) k (sgP k) (sgP k).length = detP rs R C := by
  have : k = 1 ∨ k = 2 ∨ k = 3 ∨ k = 4 := by omega
  rcases this with rfl | rfl | rfl | rfl
  · obtain ⟨i, rfl⟩ := l1 hR
    obtain ⟨a, rfl⟩ := l1 hC
    show _ = at0 _ _
    rw [ent_at]
    show 0 + 1 * entR rs i a = _
    omega
  · obtain ⟨i, j, rfl⟩ := l2 hR
    obtain ⟨a, b, rfl⟩ := l2 hC
    show _ = det2 _ _ _ _
    unfold det2
    simp only [ent_at]
    show 0 + -1 * entR rs i b * entR rs j a + 1 * entR rs i a * entR rs j b = _
    grind
  · obtain ⟨i, j, k, rfl⟩ := l3 hR
    obtain ⟨a, b, c, rfl⟩ := l3 hC
    show _ = det3 _ _ _ _ _ _
    unfold det3 det2
    simp only [ent_at]
    show 0 + -1 * entR rs i c * entR rs j b * entR rs k a + 1 * entR rs i b * entR rs j c * entR rs k a + -1 * entR rs i b * entR rs j a * entR rs k c + 1 * entR rs i c * entR rs j a * entR rs k b + -1 * entR rs i a * entR rs j c * entR rs k b + 1 * entR rs i a * entR rs j b * entR rs k c = _
    grind
  · obtain ⟨i, j, k, l, rfl⟩ := l4 hR
    obtain ⟨a, b, c, d, rfl⟩ := l4 hC
    show _ = det4 _ _ _ _ _ _ _ _
    unfold det4 det3 det2
    simp only [ent_at]
    show 0 + 1 * entR rs i d * entR rs j c * entR rs k b * entR rs l a + -1 * entR rs i c * entR rs j d * entR rs k b * entR rs l a + 1 * entR rs i c * entR rs j b * entR rs k d * entR rs l a + -1 * entR rs i c * entR rs j b * entR rs k a * entR rs l d + -1 * entR rs i d * entR rs j b * entR rs k c * entR rs l a + 1 * entR rs i b * entR rs j d * entR rs k c * entR rs l a + -1 * entR rs i b * entR rs j c * entR rs k d * entR rs l a + 1 * entR rs i b * entR rs j c * entR rs k a * entR rs l d + 1 * entR rs i d * entR rs j b * entR rs k a * entR rs l c + -1 * entR rs i b * entR rs j d * entR rs k a * entR rs l c + 1 * entR rs i b * entR rs j a * entR rs k d * entR rs l c + -1 * entR rs i b * entR rs j a * entR rs k c * entR rs l d + -1 * entR rs i d * entR rs j c * entR rs k a * entR rs l b + 1 * entR rs i c * entR rs j d * entR rs k a * entR rs l b + -1 * entR rs i c * entR rs j a * entR rs k d * entR rs l b + 1 * entR rs i c * entR rs j a * entR rs k b * entR rs l d + 1 * entR rs i d * entR rs j a * entR rs k c * entR rs l b + -1 * entR rs i a * entR rs j d * entR rs k c * entR rs l b + 1 * entR rs i a * entR rs j c * entR rs k d * entR rs l b + -1 * entR rs i a * entR rs j c * entR rs k b * entR rs l d + -1 * entR rs i d * entR rs j a * entR rs k b * entR rs l c + 1 * entR rs i a * entR rs j d * entR rs k b * entR rs l c + -1 * entR rs i a * entR rs j b * entR rs k d * entR rs l c + 1 * entR rs i a * entR rs j b * entR rs k c * entR rs l d = _
    grind
theorem ent_b {rs : List (List Int)} {m w : Nat} (T : Tb rs m w) (i j : Nat) : -9 ≤ entR rs i j ∧ entR rs i j ≤ 9 := by
  unfold entR
  cases e : rs[i]? with
  | none => simp
  | some r =>
    simp only [Option.getD_some]
    cases e2 : r[j]? with
    | none => simp
    | some x => exact (T.row r (List.mem_of_getElem? e)).2 x (List.mem_of_getElem? e2)
theorem v_bar {rs : List (List Int)} {m w : Nat} (T : Tb rs m w) : F__law_bar [tabD rs] = some (.ret (.d (barD rs m w))) := by
  have m1 := T.m1
  have m4 := T.m4
  have w1 := T.w1
  have w4 := T.w4
  have lk := lots_ok (m, w) (in_mw m1 m4 w1 w4)
  simp only at lk
  have hm := T.len
  have e0 := tab_ix (rs := rs) (i := 0) (by omega)
  have hr0 : (rs[0]?.getD []).length = w := (T.row _ (by rw [List.getElem?_eq_getElem (by omega)]; exact List.getElem_mem (by omega))).1
  have el : lenF [tabD rs] = some (.d (.int (m : Int))) := by
    show some (Vl.d (.int (((rs.map rowD).length : Nat) : Int))) = _
    rw [List.length_map, T.len]
  have el0 : lenF [rowD (rs[0]?.getD [])] = some (.d (.int (w : Int))) := by
    show some (Vl.d (.int ((((rs[0]?.getD []).map PyData.int).length : Nat) : Int))) = _
    rw [List.length_map, hr0]
  have em : minF [.int (m : Int), .int (w : Int)] = some (.d (.int ((min m w : Nat) : Int))) := by
    show some (Vl.d (.int (if (w : Int) < (m : Int) then (w : Int) else (m : Int)))) = _
    congr 3
    split <;> omega
  have er : rng2 [.int 1, .int (((min m w : Nat) : Int) + 1)] = some ((List.range (min m w)).map fun (k : Nat) => PyData.int (1 + (k : Int))) := by
    unfold rng2
    dsimp only
    rw [if_pos (by omega)]
    congr 3
    omega
  refine runP_ok ?_
  have e0' : ixF (tabD rs) (.int 0) = some (.d (rowD (rs[0]?.getD []))) := e0
  unfold m__law_bar m__law_bar_6
  simp only [↓u_liftE el, ↓u_liftE e0', ↓u_liftE el0, ↓u_liftE em, ↓u_liftE er, ↓l_addI, ↓l_subI, ↓l_ltI, ↓l_leI, ↓l_gtI, ↓l_geI, ↓l_eqI, ↓l_neI, ↓l_negI, ↓l_notB, ↓l_lenT, ↓l_lenL, ↓l_tupL, ↓l_tupT, ↓l_lstL, ↓l_lstT, ↓l_at20, ↓l_at21, ↓l_seqL, ↓l_seqT, ↓l_isN, ↓u_bTup, ↓u_bAll0, ↓u_bAll1, ↓u_eSl, ↓u_partN, ↓u_partS, ↓u_eC, ↓u_eBin, ↓u_eUn, ↓u_aNil, ↓u_aCons, ↓u_peeks0, ↓u_peeks1, ↓u_freezes0, ↓u_freezes1, ↓u_eTup, ↓u_eLst, ↓u_eCall, ↓u_eFn, ↓u_cV, ↓u_cAnd, ↓u_cOr, ↓u_cNot, ↓u_cYes, ↓u_eIf, ↓u_eAnd, ↓u_eOr, ↓u_sSet, ↓u_sSeq, ↓u_sNx, ↓u_sIf, ↓u_sExpr, ↓u_sRet, ↓u_iSeq, ↓u_iRng, ↓u_iZips, ↓u_sFor, ↓u_eLc, ↓u_eMut, ↓u_eExt, ↓u_eFnM, ↓u_sSets, ↓u_stores0, ↓u_stores1, ↓u_sAsg, ↓u_bSub, ↓run_peek, ↓run_freeze, ↓run_var, ↓run_store, ↓run_bName, ↓run_isOwn, ↓run_extM, ↓run_bnd, ↓run_ret, ↓reduceIte, List.map_cons, List.map_nil, List.replicate, List.cons_append, List.nil_append, List.append_nil, List.getElem?_cons_zero, List.getElem?_cons_succ, List.set_cons_zero, List.set_cons_succ, List.length_cons, List.length_nil, Nat.zero_add, Nat.reduceAdd, Bool.not_true, Bool.not_false, Bool.false_eq_true, Option.map_some, wipeE, ↓u_callM2, asRet_d, asRet_fr, asRet_nx, asRetM_d, asRetM_nx, ↓u_liftE (isi_int _), ↓u_liftE (isi_bool _), ↓u_liftE (isi_tuple _), ↓u_liftE (isi_str _), ↓u_liftE (isi_list _)]
  refine run_for_some (List.range (min m w)) (fun (k : Nat) => PyData.int (1 + (k : Int))) (gS rs m w) (fun e => ∃ x1 x2 x3 x4, e = [.d (tabD rs), x1, x2, x3, x4]) ⟨_, _, _, _, rfl⟩ ?_ ?_ ?_
  · rintro k hk e ⟨x1, x2, x3, x4, rfl⟩
    have hk' := List.mem_range.mp hk
    obtain ⟨lm, lw⟩ := lk k hk
    have ek : (1 + (k : Int)) = ((k + 1 : Nat) : Int) := by omega
    rw [ek]
    have em := v_lots m (k + 1) m4 (by omega) (by omega)
    have ew := v_lots w (k + 1) w4 (by omega) (by omega)
    unfold m__law_bar_5
    simp only [↓u_liftE el, ↓u_callFE em, ↓l_addI, ↓l_subI, ↓l_ltI, ↓l_leI, ↓l_gtI, ↓l_geI, ↓l_eqI, ↓l_neI, ↓l_negI, ↓l_notB, ↓l_lenT, ↓l_lenL, ↓l_tupL, ↓l_tupT, ↓l_lstL, ↓l_lstT, ↓l_at20, ↓l_at21, ↓l_seqL, ↓l_seqT, ↓l_isN, ↓u_bTup, ↓u_bAll0, ↓u_bAll1, ↓u_eSl, ↓u_partN, ↓u_partS, ↓u_eC, ↓u_eBin, ↓u_eUn, ↓u_aNil, ↓u_aCons, ↓u_peeks0, ↓u_peeks1, ↓u_freezes0, ↓u_freezes1, ↓u_eTup, ↓u_eLst, ↓u_eCall, ↓u_eFn, ↓u_cV, ↓u_cAnd, ↓u_cOr, ↓u_cNot, ↓u_cYes, ↓u_eIf, ↓u_eAnd, ↓u_eOr, ↓u_sSet, ↓u_sSeq, ↓u_sNx, ↓u_sIf, ↓u_sExpr, ↓u_sRet, ↓u_iSeq, ↓u_iRng, ↓u_iZips, ↓u_sFor, ↓u_eLc, ↓u_eMut, ↓u_eExt, ↓u_eFnM, ↓u_sSets, ↓u_stores0, ↓u_stores1, ↓u_sAsg, ↓u_bSub, ↓run_peek, ↓run_freeze, ↓run_var, ↓run_store, ↓run_bName, ↓run_isOwn, ↓run_extM, ↓run_bnd, ↓run_ret, ↓reduceIte, List.map_cons, List.map_nil, List.replicate, List.cons_append, List.nil_append, List.append_nil, List.getElem?_cons_zero, List.getElem?_cons_succ, List.set_cons_zero, List.set_cons_succ, List.length_cons, List.length_nil, Nat.zero_add, Nat.reduceAdd, Bool.not_true, Bool.not_false, Bool.false_eq_true, Option.map_some, wipeE, ↓u_callM2, asRet_d, asRet_fr, asRet_nx, asRetM_d, asRetM_nx, ↓u_liftE (isi_int _), ↓u_liftE (isi_bool _), ↓u_liftE (isi_tuple _), ↓u_liftE (isi_str _), ↓u_liftE (isi_list _)]
    refine run_for_some (lotsL m (k + 1)) natT (gR rs w k) (fun e => ∃ x2 x3 x4, e = [.d (tabD rs), .d (.int ((k + 1 : Nat) : Int)), x2, x3, x4]) ⟨_, _, _, rfl⟩ ?_ ?_ ?_
    · rintro R hR e ⟨x2, x3, x4, rfl⟩
      obtain ⟨Rl, Rb⟩ := lm R hR
      unfold m__law_bar_4
      simp only [↓u_liftE e0', ↓u_liftE el0, ↓u_callFE ew, ↓l_addI, ↓l_subI, ↓l_ltI, ↓l_leI, ↓l_gtI, ↓l_geI, ↓l_eqI, ↓l_neI, ↓l_negI, ↓l_notB, ↓l_lenT, ↓l_lenL, ↓l_tupL, ↓l_tupT, ↓l_lstL, ↓l_lstT, ↓l_at20, ↓l_at21, ↓l_seqL, ↓l_seqT, ↓l_isN, ↓u_bTup, ↓u_bAll0, ↓u_bAll1, ↓u_eSl, ↓u_partN, ↓u_partS, ↓u_eC, ↓u_eBin, ↓u_eUn, ↓u_aNil, ↓u_aCons, ↓u_peeks0, ↓u_peeks1, ↓u_freezes0, ↓u_freezes1, ↓u_eTup, ↓u_eLst, ↓u_eCall, ↓u_eFn, ↓u_cV, ↓u_cAnd, ↓u_cOr, ↓u_cNot, ↓u_cYes, ↓u_eIf, ↓u_eAnd, ↓u_eOr, ↓u_sSet, ↓u_sSeq, ↓u_sNx, ↓u_sIf, ↓u_sExpr, ↓u_sRet, ↓u_iSeq, ↓u_iRng, ↓u_iZips, ↓u_sFor, ↓u_eLc, ↓u_eMut, ↓u_eExt, ↓u_eFnM, ↓u_sSets, ↓u_stores0, ↓u_stores1, ↓u_sAsg, ↓u_bSub, ↓run_peek, ↓run_freeze, ↓run_var, ↓run_store, ↓run_bName, ↓run_isOwn, ↓run_extM, ↓run_bnd, ↓run_ret, ↓reduceIte, List.map_cons, List.map_nil, List.replicate, List.cons_append, List.nil_append, List.append_nil, List.getElem?_cons_zero, List.getElem?_cons_succ, List.set_cons_zero, List.set_cons_succ, List.length_cons, List.length_nil, Nat.zero_add, Nat.reduceAdd, Bool.not_true, Bool.not_false, Bool.false_eq_true, Option.map_some, wipeE, ↓u_callM2, asRet_d, asRet_fr, asRet_nx, asRetM_d, asRetM_nx, ↓u_liftE (isi_int _), ↓u_liftE (isi_bool _), ↓u_liftE (isi_tuple _), ↓u_liftE (isi_str _), ↓u_liftE (isi_list _)]
      refine run_for_some (lotsL w (k + 1)) natT (gC rs R) (fun e => ∃ x3 x4, e = [.d (tabD rs), .d (.int ((k + 1 : Nat) : Int)), .d (natT R), x3, x4]) ⟨_, _, rfl⟩ ?_ ?_ ?_
      · rintro C hC e ⟨x3, x4, rfl⟩
        obtain ⟨Cl, Cb⟩ := lw C hC
        have ep := v_part T Rb Cb (by omega) (by omega)
        have ed := v_det (ps := partR rs R C) (k := k + 1) (by omega) (by omega) (by unfold partR; rw [List.length_map]; exact Rl) (fun r hr => by obtain ⟨i, _, rfl⟩ := List.mem_map.mp hr; rw [List.length_map]; exact Cl) (fun r hr x hx => by obtain ⟨i, hi, rfl⟩ := List.mem_map.mp hr; obtain ⟨j, hj, rfl⟩ := List.mem_map.mp hx; exact ent_b T i j)
        rw [sum_det (by omega) (by omega) Rl Cl] at ed
        have ea : absF [.int (detP rs R C)] = some (.d (.int (if detP rs R C < 0 then -detP rs R C else detP rs R C))) := rfl
        unfold m__law_bar_1 m__law_bar_3
        have fr := abs_far (detP rs R C)
        cases hf : far (detP rs R C) with
        | false =>
          rw [hf] at fr
          simp only [↓u_callFE ep, ↓u_callFE ed, ↓u_liftE ea, ↓l_addI, ↓l_subI, ↓l_ltI, ↓l_leI, ↓l_gtI, ↓l_geI, ↓l_eqI, ↓l_neI, ↓l_negI, ↓l_notB, ↓l_lenT, ↓l_lenL, ↓l_tupL, ↓l_tupT, ↓l_lstL, ↓l_lstT, ↓l_at20, ↓l_at21, ↓l_seqL, ↓l_seqT, ↓l_isN, ↓u_bTup, ↓u_bAll0, ↓u_bAll1, ↓u_eSl, ↓u_partN, ↓u_partS, ↓u_eC, ↓u_eBin, ↓u_eUn, ↓u_aNil, ↓u_aCons, ↓u_peeks0, ↓u_peeks1, ↓u_freezes0, ↓u_freezes1, ↓u_eTup, ↓u_eLst, ↓u_eCall, ↓u_eFn, ↓u_cV, ↓u_cAnd, ↓u_cOr, ↓u_cNot, ↓u_cYes, ↓u_eIf, ↓u_eAnd, ↓u_eOr, ↓u_sSet, ↓u_sSeq, ↓u_sNx, ↓u_sIf, ↓u_sExpr, ↓u_sRet, ↓u_iSeq, ↓u_iRng, ↓u_iZips, ↓u_sFor, ↓u_eLc, ↓u_eMut, ↓u_eExt, ↓u_eFnM, ↓u_sSets, ↓u_stores0, ↓u_stores1, ↓u_sAsg, ↓u_bSub, ↓run_peek, ↓run_freeze, ↓run_var, ↓run_store, ↓run_bName, ↓run_isOwn, ↓run_extM, ↓run_bnd, ↓run_ret, ↓reduceIte, List.map_cons, List.map_nil, List.replicate, List.cons_append, List.nil_append, List.append_nil, List.getElem?_cons_zero, List.getElem?_cons_succ, List.set_cons_zero, List.set_cons_succ, List.length_cons, List.length_nil, Nat.zero_add, Nat.reduceAdd, Bool.not_true, Bool.not_false, Bool.false_eq_true, Option.map_some, wipeE, ↓u_callM2, asRet_d, asRet_fr, asRet_nx, asRetM_d, asRetM_nx, ↓u_liftE (isi_int _), ↓u_liftE (isi_bool _), ↓u_liftE (isi_tuple _), ↓u_liftE (isi_str _), ↓u_liftE (isi_list _), fr, gC, hf]
          exact ⟨trivial, _, _, rfl⟩
        | true =>
          rw [hf] at fr
          unfold m__law_bar_2
          simp only [↓u_callFE ep, ↓u_callFE ed, ↓u_liftE ea, ↓l_addI, ↓l_subI, ↓l_ltI, ↓l_leI, ↓l_gtI, ↓l_geI, ↓l_eqI, ↓l_neI, ↓l_negI, ↓l_notB, ↓l_lenT, ↓l_lenL, ↓l_tupL, ↓l_tupT, ↓l_lstL, ↓l_lstT, ↓l_at20, ↓l_at21, ↓l_seqL, ↓l_seqT, ↓l_isN, ↓u_bTup, ↓u_bAll0, ↓u_bAll1, ↓u_eSl, ↓u_partN, ↓u_partS, ↓u_eC, ↓u_eBin, ↓u_eUn, ↓u_aNil, ↓u_aCons, ↓u_peeks0, ↓u_peeks1, ↓u_freezes0, ↓u_freezes1, ↓u_eTup, ↓u_eLst, ↓u_eCall, ↓u_eFn, ↓u_cV, ↓u_cAnd, ↓u_cOr, ↓u_cNot, ↓u_cYes, ↓u_eIf, ↓u_eAnd, ↓u_eOr, ↓u_sSet, ↓u_sSeq, ↓u_sNx, ↓u_sIf, ↓u_sExpr, ↓u_sRet, ↓u_iSeq, ↓u_iRng, ↓u_iZips, ↓u_sFor, ↓u_eLc, ↓u_eMut, ↓u_eExt, ↓u_eFnM, ↓u_sSets, ↓u_stores0, ↓u_stores1, ↓u_sAsg, ↓u_bSub, ↓run_peek, ↓run_freeze, ↓run_var, ↓run_store, ↓run_bName, ↓run_isOwn, ↓run_extM, ↓run_bnd, ↓run_ret, ↓reduceIte, List.map_cons, List.map_nil, List.replicate, List.cons_append, List.nil_append, List.append_nil, List.getElem?_cons_zero, List.getElem?_cons_succ, List.set_cons_zero, List.set_cons_succ, List.length_cons, List.length_nil, Nat.zero_add, Nat.reduceAdd, Bool.not_true, Bool.not_false, Bool.false_eq_true, Option.map_some, wipeE, ↓u_callM2, asRet_d, asRet_fr, asRet_nx, asRetM_d, asRetM_nx, ↓u_liftE (isi_int _), ↓u_liftE (isi_bool _), ↓u_liftE (isi_tuple _), ↓u_liftE (isi_str _), ↓u_liftE (isi_list _), fr, gC, hf, Nat.reduceLeDiff]
          rfl
      · intro h e ⟨x3, x4, he⟩
        show match gR rs w k R with | none => _ | some r => _
        unfold gR
        rw [h]
        exact ⟨rfl, _, x3, x4, he⟩
      · intro r h e
        show match gR rs w k R with | none => _ | some r => _
        unfold gR
        rw [h]
    · intro h e ⟨x2, x3, x4, he⟩
      show match gS rs m w k with | none => _ | some r => _
      unfold gS
      rw [h]
      exact ⟨rfl, _, x2, x3, x4, he⟩
    · intro r h e
      show match gS rs m w k with | none => _ | some r => _
      unfold gS
      rw [h]
  · rintro h e ⟨x1, x2, x3, x4, rfl⟩
    rw [← bar_eq, Option.map_eq_none_iff] at h
    unfold m__law_bar_7
    simp only [↓l_addI, ↓l_subI, ↓l_ltI, ↓l_leI, ↓l_gtI, ↓l_geI, ↓l_eqI, ↓l_neI, ↓l_negI, ↓l_notB, ↓l_lenT, ↓l_lenL, ↓l_tupL, ↓l_tupT, ↓l_lstL, ↓l_lstT, ↓l_at20, ↓l_at21, ↓l_seqL, ↓l_seqT, ↓l_isN, ↓u_bTup, ↓u_bAll0, ↓u_bAll1, ↓u_eSl, ↓u_partN, ↓u_partS, ↓u_eC, ↓u_eBin, ↓u_eUn, ↓u_aNil, ↓u_aCons, ↓u_peeks0, ↓u_peeks1, ↓u_freezes0, ↓u_freezes1, ↓u_eTup, ↓u_eLst, ↓u_eCall, ↓u_eFn, ↓u_cV, ↓u_cAnd, ↓u_cOr, ↓u_cNot, ↓u_cYes, ↓u_eIf, ↓u_eAnd, ↓u_eOr, ↓u_sSet, ↓u_sSeq, ↓u_sNx, ↓u_sIf, ↓u_sExpr, ↓u_sRet, ↓u_iSeq, ↓u_iRng, ↓u_iZips, ↓u_sFor, ↓u_eLc, ↓u_eMut, ↓u_eExt, ↓u_eFnM, ↓u_sSets, ↓u_stores0, ↓u_stores1, ↓u_sAsg, ↓u_bSub, ↓run_peek, ↓run_freeze, ↓run_var, ↓run_store, ↓run_bName, ↓run_isOwn, ↓run_extM, ↓run_bnd, ↓run_ret, ↓reduceIte, List.map_cons, List.map_nil, List.replicate, List.cons_append, List.nil_append, List.append_nil, List.getElem?_cons_zero, List.getElem?_cons_succ, List.set_cons_zero, List.set_cons_succ, List.length_cons, List.length_nil, Nat.zero_add, Nat.reduceAdd, Bool.not_true, Bool.not_false, Bool.false_eq_true, Option.map_some, wipeE, ↓u_callM2, asRet_d, asRet_fr, asRet_nx, asRetM_d, asRetM_nx, ↓u_liftE (isi_int _), ↓u_liftE (isi_bool _), ↓u_liftE (isi_tuple _), ↓u_liftE (isi_str _), ↓u_liftE (isi_list _)]
    unfold barD
    rw [h]
  · intro r h e
    rw [← bar_eq, Option.map_eq_some_iff] at h
    obtain ⟨q, hq, rfl⟩ := h
    simp only [↓l_addI, ↓l_subI, ↓l_ltI, ↓l_leI, ↓l_gtI, ↓l_geI, ↓l_eqI, ↓l_neI, ↓l_negI, ↓l_notB, ↓l_lenT, ↓l_lenL, ↓l_tupL, ↓l_tupT, ↓l_lstL, ↓l_lstT, ↓l_at20, ↓l_at21, ↓l_seqL, ↓l_seqT, ↓l_isN, ↓u_bTup, ↓u_bAll0, ↓u_bAll1, ↓u_eSl, ↓u_partN, ↓u_partS, ↓u_eC, ↓u_eBin, ↓u_eUn, ↓u_aNil, ↓u_aCons, ↓u_peeks0, ↓u_peeks1, ↓u_freezes0, ↓u_freezes1, ↓u_eTup, ↓u_eLst, ↓u_eCall, ↓u_eFn, ↓u_cV, ↓u_cAnd, ↓u_cOr, ↓u_cNot, ↓u_cYes, ↓u_eIf, ↓u_eAnd, ↓u_eOr, ↓u_sSet, ↓u_sSeq, ↓u_sNx, ↓u_sIf, ↓u_sExpr, ↓u_sRet, ↓u_iSeq, ↓u_iRng, ↓u_iZips, ↓u_sFor, ↓u_eLc, ↓u_eMut, ↓u_eExt, ↓u_eFnM, ↓u_sSets, ↓u_stores0, ↓u_stores1, ↓u_sAsg, ↓u_bSub, ↓run_peek, ↓run_freeze, ↓run_var, ↓run_store, ↓run_bName, ↓run_isOwn, ↓run_extM, ↓run_bnd, ↓run_ret, ↓reduceIte, List.map_cons, List.map_nil, List.replicate, List.cons_append, List.nil_append, List.append_nil, List.getElem?_cons_zero, List.getElem?_cons_succ, List.set_cons_zero, List.set_cons_succ, List.length_cons, List.length_nil, Nat.zero_add, Nat.reduceAdd, Bool.not_true, Bool.not_false, Bool.false_eq_true, Option.map_some, wipeE, ↓u_callM2, asRet_d, asRet_fr, asRet_nx, asRetM_d, asRetM_nx, ↓u_liftE (isi_int _), ↓u_liftE (isi_bool _), ↓u_liftE (isi_tuple _), ↓u_liftE (isi_str _), ↓u_liftE (isi_list _)]
    unfold barD
    rw [hq]
end L2.K72

namespace L2.DL
open PySem PySem.Spec PyProof.Rows
/-! ### what raises -/
def Exc {α : Type} (m : Mo α) (e : En) (c : Str) (x : PyData) : Prop := ∃ e', m e = some (.exc c x e')
theorem exc1 {α β : Type} {m : Mo α} {f : α → Mo β} {e : En} {c : Str} {x : PyData} (h : Exc m e c x) : Exc (Mo.bnd m f) e c x := by
  obtain ⟨e', h⟩ := h
  exact ⟨e', by unfold Mo.bnd; rw [h]⟩
theorem exc2 {α β : Type} {m : Mo α} {f : α → Mo β} {e : En} {c : Str} {x : PyData} (h : Run m e fun r e' => Exc (f r) e' c x) : Exc (Mo.bnd m f) e c x := by
  obtain ⟨r, e1, h1, e', h⟩ := h
  exact ⟨e', by unfold Mo.bnd; rw [h1]; exact h⟩
theorem exc_call {F : List PyData → Option FR} {ds : List PyData} {e : En} {c : Str} {x : PyData} (h : F ds = some (.exc c x)) : Exc (callF F ds) e c x := ⟨e, by unfold callF; rw [h]⟩
end L2.DL
namespace L2.K72
open PySem PySem.Spec PyProof.Rows L2.DL
def badsL (m : Nat) : List PyData := [.none, .tuple [], .tuple [.int 0, .int 0], .tuple [.int (m : Int)], .list [.int 0], .tuple [.bool true], .tuple [.int (-1)], .int 0, .str "0"]
theorem bads_no : ∀ m ∈ [1, 2, 3, 4], ∀ d ∈ badsL m, idxB d m = false := by decide +kernel
theorem an0 : F_anew [.none] = some (.ret (.d .none)) := by kernel_rfl
theorem an1 : F_anew [.tuple []] = some (.ret (.d (.tuple []))) := by kernel_rfl
theorem an2 : F_anew [.tuple [.int 0, .int 0]] = some (.ret (.d (.tuple [.int 0, .int 0]))) := by kernel_rfl
theorem an3 (m : Int) : F_anew [.tuple [.int m]] = some (.ret (.d (.tuple [.int m]))) := by kernel_rfl
theorem an4 : F_anew [.list [.int 0]] = some (.ret (.fr [.int 0])) := by kernel_rfl
theorem an5 : F_anew [.tuple [.bool true]] = some (.ret (.d (.tuple [.bool true]))) := by kernel_rfl
theorem an6 : F_anew [.tuple [.int (-1)]] = some (.ret (.d (.tuple [.int (-1)]))) := by kernel_rfl
theorem an7 : F_anew [.int 0] = some (.ret (.d (.int 0))) := by kernel_rfl
theorem an8 : F_anew [.str "0"] = some (.ret (.d (.str "0"))) := by kernel_rfl
def frz : Vl → PyData
  | .d x => x
  | .fr xs => .list xs
  | .pk _ => .none
theorem v_anew (m : Nat) : ∀ d ∈ badsL m, ∃ v, F_anew [d] = some (.ret v) ∧ (v = .d d ∨ ∃ xs, v = .fr xs ∧ d = .list xs) := by
  intro d hd
  simp only [badsL, List.mem_cons, List.not_mem_nil, or_false] at hd
  rcases hd with rfl | rfl | rfl | rfl | rfl | rfl | rfl | rfl | rfl
  · exact ⟨_, an0, .inl rfl⟩
  · exact ⟨_, an1, .inl rfl⟩
  · exact ⟨_, an2, .inl rfl⟩
  · exact ⟨_, an3 _, .inl rfl⟩
  · exact ⟨_, an4, .inr ⟨_, rfl, rfl⟩⟩
  · exact ⟨_, an5, .inl rfl⟩
  · exact ⟨_, an6, .inl rfl⟩
  · exact ⟨_, an7, .inl rfl⟩
  · exact ⟨_, an8, .inl rfl⟩
theorem len_tab {rs : List (List Int)} {m w : Nat} (T : Tb rs m w) : lenF [tabD rs] = some (.d (.int (m : Int))) := by
  show some (Vl.d (.int (((rs.map rowD).length : Nat) : Int))) = _
  rw [List.length_map, T.len]
theorem v_halving_bad {rs : List (List Int)} {m w : Nat} (T : Tb rs m w) {d : PyData} (hd : d ∈ badsL m) : F_halving [tabD rs, d] = some (.exc "InvalidPart" d) := by
  have m4 := T.m4
  have e1 := v_need_table T
  have el := len_tab T
  have e2 := v_are_indexes d (m : Int) (by omega)
  rw [bads_no m (in14 T.m1 m4) d hd] at e2
  obtain ⟨v, e3, hv⟩ := v_anew m d hd
  have key : Exc m_halving [.d (tabD rs), .d d] "InvalidPart" d := by
    unfold m_halving sSeq
    refine exc2 ?_
    unfold m_halving_1
    simp only [↓u_callFE e1, ↓l_addI, ↓l_subI, ↓l_ltI, ↓l_leI, ↓l_gtI, ↓l_geI, ↓l_eqI, ↓l_neI, ↓l_negI, ↓l_notB, ↓l_lenT, ↓l_lenL, ↓l_tupL, ↓l_tupT, ↓l_lstL, ↓l_lstT, ↓l_at20, ↓l_at21, ↓l_seqL, ↓l_seqT, ↓l_isN, ↓u_bTup, ↓u_bAll0, ↓u_bAll1, ↓u_eSl, ↓u_partN, ↓u_partS, ↓u_eC, ↓u_eBin, ↓u_eUn, ↓u_aNil, ↓u_aCons, ↓u_peeks0, ↓u_peeks1, ↓u_freezes0, ↓u_freezes1, ↓u_eTup, ↓u_eLst, ↓u_eCall, ↓u_eFn, ↓u_cV, ↓u_cAnd, ↓u_cOr, ↓u_cNot, ↓u_cYes, ↓u_eIf, ↓u_eAnd, ↓u_eOr, ↓u_sSet, ↓u_sSeq, ↓u_sNx, ↓u_sIf, ↓u_sExpr, ↓u_sRet, ↓u_iSeq, ↓u_iRng, ↓u_iZips, ↓u_sFor, ↓u_eLc, ↓u_eMut, ↓u_eExt, ↓u_eFnM, ↓u_sSets, ↓u_stores0, ↓u_stores1, ↓u_sAsg, ↓u_bSub, ↓run_peek, ↓run_freeze, ↓run_var, ↓run_store, ↓run_bName, ↓run_isOwn, ↓run_extM, ↓run_bnd, ↓run_ret, ↓reduceIte, List.map_cons, List.map_nil, List.replicate, List.cons_append, List.nil_append, List.append_nil, List.getElem?_cons_zero, List.getElem?_cons_succ, List.set_cons_zero, List.set_cons_succ, List.length_cons, List.length_nil, Nat.zero_add, Nat.reduceAdd, Bool.not_true, Bool.not_false, Bool.false_eq_true, Option.map_some, wipeE, ↓u_callM2, asRet_d, asRet_fr, asRet_nx, asRetM_d, asRetM_nx, ↓u_liftE (isi_int _), ↓u_liftE (isi_bool _), ↓u_liftE (isi_tuple _), ↓u_liftE (isi_str _), ↓u_liftE (isi_list _)]
    refine exc1 ?_
    unfold m_halving_3 sIf
    refine exc2 ?_
    simp only [↓u_callFE e2, ↓u_liftE el, ↓l_addI, ↓l_subI, ↓l_ltI, ↓l_leI, ↓l_gtI, ↓l_geI, ↓l_eqI, ↓l_neI, ↓l_negI, ↓l_notB, ↓l_lenT, ↓l_lenL, ↓l_tupL, ↓l_tupT, ↓l_lstL, ↓l_lstT, ↓l_at20, ↓l_at21, ↓l_seqL, ↓l_seqT, ↓l_isN, ↓u_bTup, ↓u_bAll0, ↓u_bAll1, ↓u_eSl, ↓u_partN, ↓u_partS, ↓u_eC, ↓u_eBin, ↓u_eUn, ↓u_aNil, ↓u_aCons, ↓u_peeks0, ↓u_peeks1, ↓u_freezes0, ↓u_freezes1, ↓u_eTup, ↓u_eLst, ↓u_eCall, ↓u_eFn, ↓u_cV, ↓u_cAnd, ↓u_cOr, ↓u_cNot, ↓u_cYes, ↓u_eIf, ↓u_eAnd, ↓u_eOr, ↓u_sSet, ↓u_sSeq, ↓u_sNx, ↓u_sIf, ↓u_sExpr, ↓u_sRet, ↓u_iSeq, ↓u_iRng, ↓u_iZips, ↓u_sFor, ↓u_eLc, ↓u_eMut, ↓u_eExt, ↓u_eFnM, ↓u_sSets, ↓u_stores0, ↓u_stores1, ↓u_sAsg, ↓u_bSub, ↓run_peek, ↓run_freeze, ↓run_var, ↓run_store, ↓run_bName, ↓run_isOwn, ↓run_extM, ↓run_bnd, ↓run_ret, ↓reduceIte, List.map_cons, List.map_nil, List.replicate, List.cons_append, List.nil_append, List.append_nil, List.getElem?_cons_zero, List.getElem?_cons_succ, List.set_cons_zero, List.set_cons_succ, List.length_cons, List.length_nil, Nat.zero_add, Nat.reduceAdd, Bool.not_true, Bool.not_false, Bool.false_eq_true, Option.map_some, wipeE, ↓u_callM2, asRet_d, asRet_fr, asRet_nx, asRetM_d, asRetM_nx, ↓u_liftE (isi_int _), ↓u_liftE (isi_bool _), ↓u_liftE (isi_tuple _), ↓u_liftE (isi_str _), ↓u_liftE (isi_list _)]
    unfold m_halving_2 sRaise
    refine exc2 ?_
    simp only [↓u_callFE e3, ↓l_addI, ↓l_subI, ↓l_ltI, ↓l_leI, ↓l_gtI, ↓l_geI, ↓l_eqI, ↓l_neI, ↓l_negI, ↓l_notB, ↓l_lenT, ↓l_lenL, ↓l_tupL, ↓l_tupT, ↓l_lstL, ↓l_lstT, ↓l_at20, ↓l_at21, ↓l_seqL, ↓l_seqT, ↓l_isN, ↓u_bTup, ↓u_bAll0, ↓u_bAll1, ↓u_eSl, ↓u_partN, ↓u_partS, ↓u_eC, ↓u_eBin, ↓u_eUn, ↓u_aNil, ↓u_aCons, ↓u_peeks0, ↓u_peeks1, ↓u_freezes0, ↓u_freezes1, ↓u_eTup, ↓u_eLst, ↓u_eCall, ↓u_eFn, ↓u_cV, ↓u_cAnd, ↓u_cOr, ↓u_cNot, ↓u_cYes, ↓u_eIf, ↓u_eAnd, ↓u_eOr, ↓u_sSet, ↓u_sSeq, ↓u_sNx, ↓u_sIf, ↓u_sExpr, ↓u_sRet, ↓u_iSeq, ↓u_iRng, ↓u_iZips, ↓u_sFor, ↓u_eLc, ↓u_eMut, ↓u_eExt, ↓u_eFnM, ↓u_sSets, ↓u_stores0, ↓u_stores1, ↓u_sAsg, ↓u_bSub, ↓run_peek, ↓run_freeze, ↓run_var, ↓run_store, ↓run_bName, ↓run_isOwn, ↓run_extM, ↓run_bnd, ↓run_ret, ↓reduceIte, List.map_cons, List.map_nil, List.replicate, List.cons_append, List.nil_append, List.append_nil, List.getElem?_cons_zero, List.getElem?_cons_succ, List.set_cons_zero, List.set_cons_succ, List.length_cons, List.length_nil, Nat.zero_add, Nat.reduceAdd, Bool.not_true, Bool.not_false, Bool.false_eq_true, Option.map_some, wipeE, ↓u_callM2, asRet_d, asRet_fr, asRet_nx, asRetM_d, asRetM_nx, ↓u_liftE (isi_int _), ↓u_liftE (isi_bool _), ↓u_liftE (isi_tuple _), ↓u_liftE (isi_str _), ↓u_liftE (isi_list _)]
    refine exc2 ?_
    rcases hv with rfl | ⟨xs, rfl, rfl⟩
    · simp only [↓l_addI, ↓l_subI, ↓l_ltI, ↓l_leI, ↓l_gtI, ↓l_geI, ↓l_eqI, ↓l_neI, ↓l_negI, ↓l_notB, ↓l_lenT, ↓l_lenL, ↓l_tupL, ↓l_tupT, ↓l_lstL, ↓l_lstT, ↓l_at20, ↓l_at21, ↓l_seqL, ↓l_seqT, ↓l_isN, ↓u_bTup, ↓u_bAll0, ↓u_bAll1, ↓u_eSl, ↓u_partN, ↓u_partS, ↓u_eC, ↓u_eBin, ↓u_eUn, ↓u_aNil, ↓u_aCons, ↓u_peeks0, ↓u_peeks1, ↓u_freezes0, ↓u_freezes1, ↓u_eTup, ↓u_eLst, ↓u_eCall, ↓u_eFn, ↓u_cV, ↓u_cAnd, ↓u_cOr, ↓u_cNot, ↓u_cYes, ↓u_eIf, ↓u_eAnd, ↓u_eOr, ↓u_sSet, ↓u_sSeq, ↓u_sNx, ↓u_sIf, ↓u_sExpr, ↓u_sRet, ↓u_iSeq, ↓u_iRng, ↓u_iZips, ↓u_sFor, ↓u_eLc, ↓u_eMut, ↓u_eExt, ↓u_eFnM, ↓u_sSets, ↓u_stores0, ↓u_stores1, ↓u_sAsg, ↓u_bSub, ↓run_peek, ↓run_freeze, ↓run_var, ↓run_store, ↓run_bName, ↓run_isOwn, ↓run_extM, ↓run_bnd, ↓run_ret, ↓reduceIte, List.map_cons, List.map_nil, List.replicate, List.cons_append, List.nil_append, List.append_nil, List.getElem?_cons_zero, List.getElem?_cons_succ, List.set_cons_zero, List.set_cons_succ, List.length_cons, List.length_nil, Nat.zero_add, Nat.reduceAdd, Bool.not_true, Bool.not_false, Bool.false_eq_true, Option.map_some, wipeE, ↓u_callM2, asRet_d, asRet_fr, asRet_nx, asRetM_d, asRetM_nx, ↓u_liftE (isi_int _), ↓u_liftE (isi_bool _), ↓u_liftE (isi_tuple _), ↓u_liftE (isi_str _), ↓u_liftE (isi_list _)]
      exact ⟨_, rfl⟩
    · simp only [↓l_addI, ↓l_subI, ↓l_ltI, ↓l_leI, ↓l_gtI, ↓l_geI, ↓l_eqI, ↓l_neI, ↓l_negI, ↓l_notB, ↓l_lenT, ↓l_lenL, ↓l_tupL, ↓l_tupT, ↓l_lstL, ↓l_lstT, ↓l_at20, ↓l_at21, ↓l_seqL, ↓l_seqT, ↓l_isN, ↓u_bTup, ↓u_bAll0, ↓u_bAll1, ↓u_eSl, ↓u_partN, ↓u_partS, ↓u_eC, ↓u_eBin, ↓u_eUn, ↓u_aNil, ↓u_aCons, ↓u_peeks0, ↓u_peeks1, ↓u_freezes0, ↓u_freezes1, ↓u_eTup, ↓u_eLst, ↓u_eCall, ↓u_eFn, ↓u_cV, ↓u_cAnd, ↓u_cOr, ↓u_cNot, ↓u_cYes, ↓u_eIf, ↓u_eAnd, ↓u_eOr, ↓u_sSet, ↓u_sSeq, ↓u_sNx, ↓u_sIf, ↓u_sExpr, ↓u_sRet, ↓u_iSeq, ↓u_iRng, ↓u_iZips, ↓u_sFor, ↓u_eLc, ↓u_eMut, ↓u_eExt, ↓u_eFnM, ↓u_sSets, ↓u_stores0, ↓u_stores1, ↓u_sAsg, ↓u_bSub, ↓run_peek, ↓run_freeze, ↓run_var, ↓run_store, ↓run_bName, ↓run_isOwn, ↓run_extM, ↓run_bnd, ↓run_ret, ↓reduceIte, List.map_cons, List.map_nil, List.replicate, List.cons_append, List.nil_append, List.append_nil, List.getElem?_cons_zero, List.getElem?_cons_succ, List.set_cons_zero, List.set_cons_succ, List.length_cons, List.length_nil, Nat.zero_add, Nat.reduceAdd, Bool.not_true, Bool.not_false, Bool.false_eq_true, Option.map_some, wipeE, ↓u_callM2, asRet_d, asRet_fr, asRet_nx, asRetM_d, asRetM_nx, ↓u_liftE (isi_int _), ↓u_liftE (isi_bool _), ↓u_liftE (isi_tuple _), ↓u_liftE (isi_str _), ↓u_liftE (isi_list _)]
      exact ⟨_, rfl⟩
  obtain ⟨e', h⟩ := key
  show asRet (m_halving [.d (tabD rs), .d d]) = _
  rw [h]
  rfl
theorem v_caught {rs : List (List Int)} {m w : Nat} (T : Tb rs m w) {d : PyData} (hd : d ∈ badsL m) (hr : okRepr d = true) : F__law_caught [tabD rs, d] = some (.ret (.d (.tuple [.bool true, .str d.shown]))) := by
  have e1 := v_halving_bad T hd
  have key : Exc m__law_caught [.d (tabD rs), .d d, .d .none, .un] "InvalidPart" d := by
    unfold m__law_caught m__law_caught_1 sExpr
    refine exc1 ?_
    unfold eFnK
    refine exc2 ?_
    simp only [↓l_addI, ↓l_subI, ↓l_ltI, ↓l_leI, ↓l_gtI, ↓l_geI, ↓l_eqI, ↓l_neI, ↓l_negI, ↓l_notB, ↓l_lenT, ↓l_lenL, ↓l_tupL, ↓l_tupT, ↓l_lstL, ↓l_lstT, ↓l_at20, ↓l_at21, ↓l_seqL, ↓l_seqT, ↓l_isN, ↓u_bTup, ↓u_bAll0, ↓u_bAll1, ↓u_eSl, ↓u_partN, ↓u_partS, ↓u_eC, ↓u_eBin, ↓u_eUn, ↓u_aNil, ↓u_aCons, ↓u_peeks0, ↓u_peeks1, ↓u_freezes0, ↓u_freezes1, ↓u_eTup, ↓u_eLst, ↓u_eCall, ↓u_eFn, ↓u_cV, ↓u_cAnd, ↓u_cOr, ↓u_cNot, ↓u_cYes, ↓u_eIf, ↓u_eAnd, ↓u_eOr, ↓u_sSet, ↓u_sSeq, ↓u_sNx, ↓u_sIf, ↓u_sExpr, ↓u_sRet, ↓u_iSeq, ↓u_iRng, ↓u_iZips, ↓u_sFor, ↓u_eLc, ↓u_eMut, ↓u_eExt, ↓u_eFnM, ↓u_sSets, ↓u_stores0, ↓u_stores1, ↓u_sAsg, ↓u_bSub, ↓run_peek, ↓run_freeze, ↓run_var, ↓run_store, ↓run_bName, ↓run_isOwn, ↓run_extM, ↓run_bnd, ↓run_ret, ↓reduceIte, List.map_cons, List.map_nil, List.replicate, List.cons_append, List.nil_append, List.append_nil, List.getElem?_cons_zero, List.getElem?_cons_succ, List.set_cons_zero, List.set_cons_succ, List.length_cons, List.length_nil, Nat.zero_add, Nat.reduceAdd, Bool.not_true, Bool.not_false, Bool.false_eq_true, Option.map_some, wipeE, ↓u_callM2, asRet_d, asRet_fr, asRet_nx, asRetM_d, asRetM_nx, ↓u_liftE (isi_int _), ↓u_liftE (isi_bool _), ↓u_liftE (isi_tuple _), ↓u_liftE (isi_str _), ↓u_liftE (isi_list _)]
    refine exc2 ?_
    simp only [↓l_addI, ↓l_subI, ↓l_ltI, ↓l_leI, ↓l_gtI, ↓l_geI, ↓l_eqI, ↓l_neI, ↓l_negI, ↓l_notB, ↓l_lenT, ↓l_lenL, ↓l_tupL, ↓l_tupT, ↓l_lstL, ↓l_lstT, ↓l_at20, ↓l_at21, ↓l_seqL, ↓l_seqT, ↓l_isN, ↓u_bTup, ↓u_bAll0, ↓u_bAll1, ↓u_eSl, ↓u_partN, ↓u_partS, ↓u_eC, ↓u_eBin, ↓u_eUn, ↓u_aNil, ↓u_aCons, ↓u_peeks0, ↓u_peeks1, ↓u_freezes0, ↓u_freezes1, ↓u_eTup, ↓u_eLst, ↓u_eCall, ↓u_eFn, ↓u_cV, ↓u_cAnd, ↓u_cOr, ↓u_cNot, ↓u_cYes, ↓u_eIf, ↓u_eAnd, ↓u_eOr, ↓u_sSet, ↓u_sSeq, ↓u_sNx, ↓u_sIf, ↓u_sExpr, ↓u_sRet, ↓u_iSeq, ↓u_iRng, ↓u_iZips, ↓u_sFor, ↓u_eLc, ↓u_eMut, ↓u_eExt, ↓u_eFnM, ↓u_sSets, ↓u_stores0, ↓u_stores1, ↓u_sAsg, ↓u_bSub, ↓run_peek, ↓run_freeze, ↓run_var, ↓run_store, ↓run_bName, ↓run_isOwn, ↓run_extM, ↓run_bnd, ↓run_ret, ↓reduceIte, List.map_cons, List.map_nil, List.replicate, List.cons_append, List.nil_append, List.append_nil, List.getElem?_cons_zero, List.getElem?_cons_succ, List.set_cons_zero, List.set_cons_succ, List.length_cons, List.length_nil, Nat.zero_add, Nat.reduceAdd, Bool.not_true, Bool.not_false, Bool.false_eq_true, Option.map_some, wipeE, ↓u_callM2, asRet_d, asRet_fr, asRet_nx, asRetM_d, asRetM_nx, ↓u_liftE (isi_int _), ↓u_liftE (isi_bool _), ↓u_liftE (isi_tuple _), ↓u_liftE (isi_str _), ↓u_liftE (isi_list _)]
    refine exc2 ?_
    simp only [↓l_addI, ↓l_subI, ↓l_ltI, ↓l_leI, ↓l_gtI, ↓l_geI, ↓l_eqI, ↓l_neI, ↓l_negI, ↓l_notB, ↓l_lenT, ↓l_lenL, ↓l_tupL, ↓l_tupT, ↓l_lstL, ↓l_lstT, ↓l_at20, ↓l_at21, ↓l_seqL, ↓l_seqT, ↓l_isN, ↓u_bTup, ↓u_bAll0, ↓u_bAll1, ↓u_eSl, ↓u_partN, ↓u_partS, ↓u_eC, ↓u_eBin, ↓u_eUn, ↓u_aNil, ↓u_aCons, ↓u_peeks0, ↓u_peeks1, ↓u_freezes0, ↓u_freezes1, ↓u_eTup, ↓u_eLst, ↓u_eCall, ↓u_eFn, ↓u_cV, ↓u_cAnd, ↓u_cOr, ↓u_cNot, ↓u_cYes, ↓u_eIf, ↓u_eAnd, ↓u_eOr, ↓u_sSet, ↓u_sSeq, ↓u_sNx, ↓u_sIf, ↓u_sExpr, ↓u_sRet, ↓u_iSeq, ↓u_iRng, ↓u_iZips, ↓u_sFor, ↓u_eLc, ↓u_eMut, ↓u_eExt, ↓u_eFnM, ↓u_sSets, ↓u_stores0, ↓u_stores1, ↓u_sAsg, ↓u_bSub, ↓run_peek, ↓run_freeze, ↓run_var, ↓run_store, ↓run_bName, ↓run_isOwn, ↓run_extM, ↓run_bnd, ↓run_ret, ↓reduceIte, List.map_cons, List.map_nil, List.replicate, List.cons_append, List.nil_append, List.append_nil, List.getElem?_cons_zero, List.getElem?_cons_succ, List.set_cons_zero, List.set_cons_succ, List.length_cons, List.length_nil, Nat.zero_add, Nat.reduceAdd, Bool.not_true, Bool.not_false, Bool.false_eq_true, Option.map_some, wipeE, ↓u_callM2, asRet_d, asRet_fr, asRet_nx, asRetM_d, asRetM_nx, ↓u_liftE (isi_int _), ↓u_liftE (isi_bool _), ↓u_liftE (isi_tuple _), ↓u_liftE (isi_str _), ↓u_liftE (isi_list _)]
    refine exc2 ?_
    simp only [↓l_addI, ↓l_subI, ↓l_ltI, ↓l_leI, ↓l_gtI, ↓l_geI, ↓l_eqI, ↓l_neI, ↓l_negI, ↓l_notB, ↓l_lenT, ↓l_lenL, ↓l_tupL, ↓l_tupT, ↓l_lstL, ↓l_lstT, ↓l_at20, ↓l_at21, ↓l_seqL, ↓l_seqT, ↓l_isN, ↓u_bTup, ↓u_bAll0, ↓u_bAll1, ↓u_eSl, ↓u_partN, ↓u_partS, ↓u_eC, ↓u_eBin, ↓u_eUn, ↓u_aNil, ↓u_aCons, ↓u_peeks0, ↓u_peeks1, ↓u_freezes0, ↓u_freezes1, ↓u_eTup, ↓u_eLst, ↓u_eCall, ↓u_eFn, ↓u_cV, ↓u_cAnd, ↓u_cOr, ↓u_cNot, ↓u_cYes, ↓u_eIf, ↓u_eAnd, ↓u_eOr, ↓u_sSet, ↓u_sSeq, ↓u_sNx, ↓u_sIf, ↓u_sExpr, ↓u_sRet, ↓u_iSeq, ↓u_iRng, ↓u_iZips, ↓u_sFor, ↓u_eLc, ↓u_eMut, ↓u_eExt, ↓u_eFnM, ↓u_sSets, ↓u_stores0, ↓u_stores1, ↓u_sAsg, ↓u_bSub, ↓run_peek, ↓run_freeze, ↓run_var, ↓run_store, ↓run_bName, ↓run_isOwn, ↓run_extM, ↓run_bnd, ↓run_ret, ↓reduceIte, List.map_cons, List.map_nil, List.replicate, List.cons_append, List.nil_append, List.append_nil, List.getElem?_cons_zero, List.getElem?_cons_succ, List.set_cons_zero, List.set_cons_succ, List.length_cons, List.length_nil, Nat.zero_add, Nat.reduceAdd, Bool.not_true, Bool.not_false, Bool.false_eq_true, Option.map_some, wipeE, ↓u_callM2, asRet_d, asRet_fr, asRet_nx, asRetM_d, asRetM_nx, ↓u_liftE (isi_int _), ↓u_liftE (isi_bool _), ↓u_liftE (isi_tuple _), ↓u_liftE (isi_str _), ↓u_liftE (isi_list _)]
    refine exc2 ?_
    simp only [↓l_addI, ↓l_subI, ↓l_ltI, ↓l_leI, ↓l_gtI, ↓l_geI, ↓l_eqI, ↓l_neI, ↓l_negI, ↓l_notB, ↓l_lenT, ↓l_lenL, ↓l_tupL, ↓l_tupT, ↓l_lstL, ↓l_lstT, ↓l_at20, ↓l_at21, ↓l_seqL, ↓l_seqT, ↓l_isN, ↓u_bTup, ↓u_bAll0, ↓u_bAll1, ↓u_eSl, ↓u_partN, ↓u_partS, ↓u_eC, ↓u_eBin, ↓u_eUn, ↓u_aNil, ↓u_aCons, ↓u_peeks0, ↓u_peeks1, ↓u_freezes0, ↓u_freezes1, ↓u_eTup, ↓u_eLst, ↓u_eCall, ↓u_eFn, ↓u_cV, ↓u_cAnd, ↓u_cOr, ↓u_cNot, ↓u_cYes, ↓u_eIf, ↓u_eAnd, ↓u_eOr, ↓u_sSet, ↓u_sSeq, ↓u_sNx, ↓u_sIf, ↓u_sExpr, ↓u_sRet, ↓u_iSeq, ↓u_iRng, ↓u_iZips, ↓u_sFor, ↓u_eLc, ↓u_eMut, ↓u_eExt, ↓u_eFnM, ↓u_sSets, ↓u_stores0, ↓u_stores1, ↓u_sAsg, ↓u_bSub, ↓run_peek, ↓run_freeze, ↓run_var, ↓run_store, ↓run_bName, ↓run_isOwn, ↓run_extM, ↓run_bnd, ↓run_ret, ↓reduceIte, List.map_cons, List.map_nil, List.replicate, List.cons_append, List.nil_append, List.append_nil, List.getElem?_cons_zero, List.getElem?_cons_succ, List.set_cons_zero, List.set_cons_succ, List.length_cons, List.length_nil, Nat.zero_add, Nat.reduceAdd, Bool.not_true, Bool.not_false, Bool.false_eq_true, Option.map_some, wipeE, ↓u_callM2, asRet_d, asRet_fr, asRet_nx, asRetM_d, asRetM_nx, ↓u_liftE (isi_int _), ↓u_liftE (isi_bool _), ↓u_liftE (isi_tuple _), ↓u_liftE (isi_str _), ↓u_liftE (isi_list _), g_halving_0_rows_table, Nat.reduceAdd]
    exact (u_liftE rfl).mpr (exc_call e1)
  obtain ⟨e', h⟩ := key
  show (match m__law_caught [.d (tabD rs), .d d, .d .none, .un] with
  | some (.exc c x _) => tail__law_caught c x
  | _ => none) = _
  rw [h]
  show tail__law_caught "InvalidPart" d = _
  unfold tail__law_caught
  rw [if_pos ⟨rfl, hr⟩]
theorem v_halving {rs : List (List Int)} {m w : Nat} (T : Tb rs m w) {l : List Nat} (h : l ∈ chL m) : F_halving [tabD rs, natT l] = some (.ret (.d (optD (fh rs w l)))) := by
  have m4 := T.m4
  have e1 := v_need_table T
  have el := len_tab T
  have e2 := v_are_indexes (natT l) (m : Int) (by omega)
  rw [idx_nat m T.m1 m4 l h] at e2
  have e3 := v_first_halving T (chL_ok m T.m1 m4 l h)
  refine runP_ok ?_
  unfold m_halving m_halving_1 m_halving_3 m_halving_4
  simp only [↓u_callFE e1, ↓u_callFE e2, ↓u_callFE e3, ↓u_liftE el, ↓l_addI, ↓l_subI, ↓l_ltI, ↓l_leI, ↓l_gtI, ↓l_geI, ↓l_eqI, ↓l_neI, ↓l_negI, ↓l_notB, ↓l_lenT, ↓l_lenL, ↓l_tupL, ↓l_tupT, ↓l_lstL, ↓l_lstT, ↓l_at20, ↓l_at21, ↓l_seqL, ↓l_seqT, ↓l_isN, ↓u_bTup, ↓u_bAll0, ↓u_bAll1, ↓u_eSl, ↓u_partN, ↓u_partS, ↓u_eC, ↓u_eBin, ↓u_eUn, ↓u_aNil, ↓u_aCons, ↓u_peeks0, ↓u_peeks1, ↓u_freezes0, ↓u_freezes1, ↓u_eTup, ↓u_eLst, ↓u_eCall, ↓u_eFn, ↓u_cV, ↓u_cAnd, ↓u_cOr, ↓u_cNot, ↓u_cYes, ↓u_eIf, ↓u_eAnd, ↓u_eOr, ↓u_sSet, ↓u_sSeq, ↓u_sNx, ↓u_sIf, ↓u_sExpr, ↓u_sRet, ↓u_iSeq, ↓u_iRng, ↓u_iZips, ↓u_sFor, ↓u_eLc, ↓u_eMut, ↓u_eExt, ↓u_eFnM, ↓u_sSets, ↓u_stores0, ↓u_stores1, ↓u_sAsg, ↓u_bSub, ↓run_peek, ↓run_freeze, ↓run_var, ↓run_store, ↓run_bName, ↓run_isOwn, ↓run_extM, ↓run_bnd, ↓run_ret, ↓reduceIte, List.map_cons, List.map_nil, List.replicate, List.cons_append, List.nil_append, List.append_nil, List.getElem?_cons_zero, List.getElem?_cons_succ, List.set_cons_zero, List.set_cons_succ, List.length_cons, List.length_nil, Nat.zero_add, Nat.reduceAdd, Bool.not_true, Bool.not_false, Bool.false_eq_true, Option.map_some, wipeE, ↓u_callM2, asRet_d, asRet_fr, asRet_nx, asRetM_d, asRetM_nx, ↓u_liftE (isi_int _), ↓u_liftE (isi_bool _), ↓u_liftE (isi_tuple _), ↓u_liftE (isi_str _), ↓u_liftE (isi_list _)]
end L2.K72

namespace L2.K72
open PySem PySem.Spec PyProof.Rows L2.DL
/-! ### halvings, told exactly -/
def noneL (rs : List (List Int)) (m w : Nat) : List (List Nat) := (chL m).filter fun l => (fh rs w l).isNone
def gF (rs : List (List Int)) (w : Nat) (l : List Nat) : List Int := (fh rs w l).getD []
def halvV (rs : List (List Int)) (m w : Nat) : PyData := match noneL rs m w with
  | l :: _ => .tuple [.str "none", natT l]
  | [] => .tuple [.str "all", .tuple ((soL m).map fun l => prD (l, gF rs w l))]
theorem isort1 (g : List Nat → List Int) : isort dLe ((chL 1).map fun l => prD (l, g l)) = (soL 1).map fun l => prD (l, g l) := by kernel_rfl
theorem isort2 (g : List Nat → List Int) : isort dLe ((chL 2).map fun l => prD (l, g l)) = (soL 2).map fun l => prD (l, g l) := by kernel_rfl
theorem isort3 (g : List Nat → List Int) : isort dLe ((chL 3).map fun l => prD (l, g l)) = (soL 3).map fun l => prD (l, g l) := by kernel_rfl
theorem isort4 (g : List Nat → List Int) : isort dLe ((chL 4).map fun l => prD (l, g l)) = (soL 4).map fun l => prD (l, g l) := by kernel_rfl
theorem v_sort_g (m : Nat) (h1 : 1 ≤ m) (h4 : m ≤ 4) (g : List Nat → List Int) : sortF [.list (((chL m).map fun l => (l, g l)).map prD)] = some (.fr ((soL m).map fun l => prD (l, g l))) := by
  have hl := (so_len m h1 h4).2
  show (if okSort (((chL m).map fun l => (l, g l)).map prD) then some (Vl.fr (isort dLe (((chL m).map fun l => (l, g l)).map prD))) else none) = _
  rw [ok_sort_pr _ (by rw [List.length_map]; omega), if_pos rfl, List.map_map]
  congr 2
  have : m = 1 ∨ m = 2 ∨ m = 3 ∨ m = 4 := by omega
  rcases this with rfl | rfl | rfl | rfl
  · exact isort1 g
  · exact isort2 g
  · exact isort3 g
  · exact isort4 g
theorem filter_first {α : Type} {p : α → Bool} : ∀ {xs : List α} {i : Nat} {x : α}, xs[i]? = some x → p x = true → (∀ (j : Nat) y, j < i → xs[j]? = some y → p y = false) → ∃ r, xs.filter p = x :: r
  | [], i, _, h, _, _ => by cases i <;> cases h
  | y :: xs, 0, x, h, hp, _ => by
    cases h
    exact ⟨_, by rw [List.filter_cons, if_pos hp]⟩
  | y :: xs, i + 1, x, h, hp, hn => by
    rw [List.filter_cons, if_neg (by rw [hn 0 y (by omega) rfl]; exact Bool.false_ne_true)]
    exact filter_first (i := i) h hp fun j z hj hz => hn (j + 1) z (by omega) hz
theorem v_halvings2 {rs : List (List Int)} {m w : Nat} (T : Tb rs m w) : F_halvings [tabD rs] = some (.ret (.d (halvV rs m w))) := by
  have m1 := T.m1
  have m4 := T.m4
  refine runP_ok ?_
  unfold m_halvings m_halvings_1 m_halvings_2 m_halvings_7
  have e1 := v_need_table T
  have e2 : F_choices [tabD rs] = some (.ret (.fr ((chL m).map natT))) := by
    have := v_choices (rs.map rowD) (by rw [List.length_map, T.len]; exact T.m1) (by rw [List.length_map, T.len]; exact T.m4)
    rw [List.length_map, T.len] at this
    exact this
  have hlen : (chL m).length ≤ 15 := (so_len m m1 m4).2
  simp only [↓u_callFE e1, ↓u_callFE e2, ↓l_addI, ↓l_subI, ↓l_ltI, ↓l_leI, ↓l_gtI, ↓l_geI, ↓l_eqI, ↓l_neI, ↓l_negI, ↓l_notB, ↓l_lenT, ↓l_lenL, ↓l_tupL, ↓l_tupT, ↓l_lstL, ↓l_lstT, ↓l_at20, ↓l_at21, ↓l_seqL, ↓l_seqT, ↓l_isN, ↓u_bTup, ↓u_bAll0, ↓u_bAll1, ↓u_eSl, ↓u_partN, ↓u_partS, ↓u_eC, ↓u_eBin, ↓u_eUn, ↓u_aNil, ↓u_aCons, ↓u_peeks0, ↓u_peeks1, ↓u_freezes0, ↓u_freezes1, ↓u_eTup, ↓u_eLst, ↓u_eCall, ↓u_eFn, ↓u_cV, ↓u_cAnd, ↓u_cOr, ↓u_cNot, ↓u_cYes, ↓u_eIf, ↓u_eAnd, ↓u_eOr, ↓u_sSet, ↓u_sSeq, ↓u_sNx, ↓u_sIf, ↓u_sExpr, ↓u_sRet, ↓u_iSeq, ↓u_iRng, ↓u_iZips, ↓u_sFor, ↓u_eLc, ↓u_eMut, ↓u_eExt, ↓u_eFnM, ↓u_sSets, ↓u_stores0, ↓u_stores1, ↓u_sAsg, ↓u_bSub, ↓run_peek, ↓run_freeze, ↓run_var, ↓run_store, ↓run_bName, ↓run_isOwn, ↓run_extM, ↓run_bnd, ↓run_ret, ↓reduceIte, List.map_cons, List.map_nil, List.replicate, List.cons_append, List.nil_append, List.append_nil, List.getElem?_cons_zero, List.getElem?_cons_succ, List.set_cons_zero, List.set_cons_succ, List.length_cons, List.length_nil, Nat.zero_add, Nat.reduceAdd, Bool.not_true, Bool.not_false, Bool.false_eq_true, Option.map_some, wipeE, ↓u_callM2, asRet_d, asRet_fr, asRet_nx, asRetM_d, asRetM_nx, ↓u_liftE (isi_int _), ↓u_liftE (isi_bool _), ↓u_liftE (isi_tuple _), ↓u_liftE (isi_str _), ↓u_liftE (isi_list _), Nat.zero_le]
  refine run_for _ (fun i e => ∃ (x2 x3 : Md), (∀ (j : Nat) l, j < i → (chL m)[j]? = some l → (fh rs w l).isNone = false) ∧ e = [.d (tabD rs), .own ((((chL m).take i).map fun l => (l, gF rs w l)).map prD), x2, x3]) ⟨_, _, (fun j l h => absurd h (by omega)), rfl⟩ ?_ ?_
  · rintro i x e hx ⟨x2, x3, hb, rfl⟩
    rw [List.getElem?_map] at hx
    obtain ⟨l, hl, rfl⟩ := Option.map_eq_some_iff.mp hx
    have hi : i < 15 := by have := (List.getElem?_eq_some_iff.mp hl).1; omega
    have C := chL_ok m m1 m4 l (List.mem_of_getElem? hl)
    have e3 := v_first_halving T C
    unfold m_halvings_3 m_halvings_5
    simp only [↓u_callFE e3, ↓l_addI, ↓l_subI, ↓l_ltI, ↓l_leI, ↓l_gtI, ↓l_geI, ↓l_eqI, ↓l_neI, ↓l_negI, ↓l_notB, ↓l_lenT, ↓l_lenL, ↓l_tupL, ↓l_tupT, ↓l_lstL, ↓l_lstT, ↓l_at20, ↓l_at21, ↓l_seqL, ↓l_seqT, ↓l_isN, ↓u_bTup, ↓u_bAll0, ↓u_bAll1, ↓u_eSl, ↓u_partN, ↓u_partS, ↓u_eC, ↓u_eBin, ↓u_eUn, ↓u_aNil, ↓u_aCons, ↓u_peeks0, ↓u_peeks1, ↓u_freezes0, ↓u_freezes1, ↓u_eTup, ↓u_eLst, ↓u_eCall, ↓u_eFn, ↓u_cV, ↓u_cAnd, ↓u_cOr, ↓u_cNot, ↓u_cYes, ↓u_eIf, ↓u_eAnd, ↓u_eOr, ↓u_sSet, ↓u_sSeq, ↓u_sNx, ↓u_sIf, ↓u_sExpr, ↓u_sRet, ↓u_iSeq, ↓u_iRng, ↓u_iZips, ↓u_sFor, ↓u_eLc, ↓u_eMut, ↓u_eExt, ↓u_eFnM, ↓u_sSets, ↓u_stores0, ↓u_stores1, ↓u_sAsg, ↓u_bSub, ↓run_peek, ↓run_freeze, ↓run_var, ↓run_store, ↓run_bName, ↓run_isOwn, ↓run_extM, ↓run_bnd, ↓run_ret, ↓reduceIte, List.map_cons, List.map_nil, List.replicate, List.cons_append, List.nil_append, List.append_nil, List.getElem?_cons_zero, List.getElem?_cons_succ, List.set_cons_zero, List.set_cons_succ, List.length_cons, List.length_nil, Nat.zero_add, Nat.reduceAdd, Bool.not_true, Bool.not_false, Bool.false_eq_true, Option.map_some, wipeE, ↓u_callM2, asRet_d, asRet_fr, asRet_nx, asRetM_d, asRetM_nx, ↓u_liftE (isi_int _), ↓u_liftE (isi_bool _), ↓u_liftE (isi_tuple _), ↓u_liftE (isi_str _), ↓u_liftE (isi_list _)]
    cases hf : fh rs w l with
    | none =>
      unfold m_halvings_4
      simp only [optD, isF, isNonD, ↓l_addI, ↓l_subI, ↓l_ltI, ↓l_leI, ↓l_gtI, ↓l_geI, ↓l_eqI, ↓l_neI, ↓l_negI, ↓l_notB, ↓l_lenT, ↓l_lenL, ↓l_tupL, ↓l_tupT, ↓l_lstL, ↓l_lstT, ↓l_at20, ↓l_at21, ↓l_seqL, ↓l_seqT, ↓l_isN, ↓u_bTup, ↓u_bAll0, ↓u_bAll1, ↓u_eSl, ↓u_partN, ↓u_partS, ↓u_eC, ↓u_eBin, ↓u_eUn, ↓u_aNil, ↓u_aCons, ↓u_peeks0, ↓u_peeks1, ↓u_freezes0, ↓u_freezes1, ↓u_eTup, ↓u_eLst, ↓u_eCall, ↓u_eFn, ↓u_cV, ↓u_cAnd, ↓u_cOr, ↓u_cNot, ↓u_cYes, ↓u_eIf, ↓u_eAnd, ↓u_eOr, ↓u_sSet, ↓u_sSeq, ↓u_sNx, ↓u_sIf, ↓u_sExpr, ↓u_sRet, ↓u_iSeq, ↓u_iRng, ↓u_iZips, ↓u_sFor, ↓u_eLc, ↓u_eMut, ↓u_eExt, ↓u_eFnM, ↓u_sSets, ↓u_stores0, ↓u_stores1, ↓u_sAsg, ↓u_bSub, ↓run_peek, ↓run_freeze, ↓run_var, ↓run_store, ↓run_bName, ↓run_isOwn, ↓run_extM, ↓run_bnd, ↓run_ret, ↓reduceIte, List.map_cons, List.map_nil, List.replicate, List.cons_append, List.nil_append, List.append_nil, List.getElem?_cons_zero, List.getElem?_cons_succ, List.set_cons_zero, List.set_cons_succ, List.length_cons, List.length_nil, Nat.zero_add, Nat.reduceAdd, Bool.not_true, Bool.not_false, Bool.false_eq_true, Option.map_some, wipeE, ↓u_callM2, asRet_d, asRet_fr, asRet_nx, asRetM_d, asRetM_nx, ↓u_liftE (isi_int _), ↓u_liftE (isi_bool _), ↓u_liftE (isi_tuple _), ↓u_liftE (isi_str _), ↓u_liftE (isi_list _), Nat.reduceLeDiff, decide_true, if_true]
      obtain ⟨r, hr⟩ := filter_first hl (p := fun l => (fh rs w l).isNone) (by rw [hf]; rfl) hb
      unfold halvV noneL
      rw [hr]
    | some ss =>
      have ht : (chL m).take (i + 1) = (chL m).take i ++ [l] := by rw [List.take_add_one, hl]; rfl
      have hg : gF rs w l = ss := by unfold gF; rw [hf]; rfl
      have ea := app_pr (((chL m).take i).map fun l => (l, gF rs w l)) (l, ss) (by rw [List.length_map, List.length_take]; omega)
      unfold m_halvings_6
      have ei : isF (rowD ss) .none = some (.d (.bool false)) := rfl
      simp only [optD, ↓u_liftE ei, ↓l_addI, ↓l_subI, ↓l_ltI, ↓l_leI, ↓l_gtI, ↓l_geI, ↓l_eqI, ↓l_neI, ↓l_negI, ↓l_notB, ↓l_lenT, ↓l_lenL, ↓l_tupL, ↓l_tupT, ↓l_lstL, ↓l_lstT, ↓l_at20, ↓l_at21, ↓l_seqL, ↓l_seqT, ↓l_isN, ↓u_bTup, ↓u_bAll0, ↓u_bAll1, ↓u_eSl, ↓u_partN, ↓u_partS, ↓u_eC, ↓u_eBin, ↓u_eUn, ↓u_aNil, ↓u_aCons, ↓u_peeks0, ↓u_peeks1, ↓u_freezes0, ↓u_freezes1, ↓u_eTup, ↓u_eLst, ↓u_eCall, ↓u_eFn, ↓u_cV, ↓u_cAnd, ↓u_cOr, ↓u_cNot, ↓u_cYes, ↓u_eIf, ↓u_eAnd, ↓u_eOr, ↓u_sSet, ↓u_sSeq, ↓u_sNx, ↓u_sIf, ↓u_sExpr, ↓u_sRet, ↓u_iSeq, ↓u_iRng, ↓u_iZips, ↓u_sFor, ↓u_eLc, ↓u_eMut, ↓u_eExt, ↓u_eFnM, ↓u_sSets, ↓u_stores0, ↓u_stores1, ↓u_sAsg, ↓u_bSub, ↓run_peek, ↓run_freeze, ↓run_var, ↓run_store, ↓run_bName, ↓run_isOwn, ↓run_extM, ↓run_bnd, ↓run_ret, ↓reduceIte, List.map_cons, List.map_nil, List.replicate, List.cons_append, List.nil_append, List.append_nil, List.getElem?_cons_zero, List.getElem?_cons_succ, List.set_cons_zero, List.set_cons_succ, List.length_cons, List.length_nil, Nat.zero_add, Nat.reduceAdd, Bool.not_true, Bool.not_false, Bool.false_eq_true, Option.map_some, wipeE, ↓u_callM2, asRet_d, asRet_fr, asRet_nx, asRetM_d, asRetM_nx, ↓u_liftE (isi_int _), ↓u_liftE (isi_bool _), ↓u_liftE (isi_tuple _), ↓u_liftE (isi_str _), ↓u_liftE (isi_list _), ↓m_E ea, Nat.reduceLeDiff]
      refine ⟨.d (natT l), .d (rowD ss), fun j y hj hy => ?_, ?_⟩
      · by_cases hji : j = i
        · subst hji
          rw [hl] at hy
          cases hy
          rw [hf]
          rfl
        · exact hb j y (by omega) hy
      · rw [ht]
        simp only [List.map_append, List.map_cons, List.map_nil, hg]
  · rintro e ⟨x2, x3, hb, rfl⟩
    rw [List.length_map] at hb ⊢
    rw [List.take_length]
    have e4 := v_sort_g m m1 m4 (gF rs w)
    have hn : noneL rs m w = [] := by
      unfold noneL
      rw [List.filter_eq_nil_iff]
      intro l hl
      obtain ⟨j, hj⟩ := List.mem_iff_getElem?.mp hl
      rw [hb j l (List.getElem?_eq_some_iff.mp hj).1 hj]
      exact Bool.false_ne_true
    unfold m_halvings_8
    simp only [↓u_liftE e4, ↓l_addI, ↓l_subI, ↓l_ltI, ↓l_leI, ↓l_gtI, ↓l_geI, ↓l_eqI, ↓l_neI, ↓l_negI, ↓l_notB, ↓l_lenT, ↓l_lenL, ↓l_tupL, ↓l_tupT, ↓l_lstL, ↓l_lstT, ↓l_at20, ↓l_at21, ↓l_seqL, ↓l_seqT, ↓l_isN, ↓u_bTup, ↓u_bAll0, ↓u_bAll1, ↓u_eSl, ↓u_partN, ↓u_partS, ↓u_eC, ↓u_eBin, ↓u_eUn, ↓u_aNil, ↓u_aCons, ↓u_peeks0, ↓u_peeks1, ↓u_freezes0, ↓u_freezes1, ↓u_eTup, ↓u_eLst, ↓u_eCall, ↓u_eFn, ↓u_cV, ↓u_cAnd, ↓u_cOr, ↓u_cNot, ↓u_cYes, ↓u_eIf, ↓u_eAnd, ↓u_eOr, ↓u_sSet, ↓u_sSeq, ↓u_sNx, ↓u_sIf, ↓u_sExpr, ↓u_sRet, ↓u_iSeq, ↓u_iRng, ↓u_iZips, ↓u_sFor, ↓u_eLc, ↓u_eMut, ↓u_eExt, ↓u_eFnM, ↓u_sSets, ↓u_stores0, ↓u_stores1, ↓u_sAsg, ↓u_bSub, ↓run_peek, ↓run_freeze, ↓run_var, ↓run_store, ↓run_bName, ↓run_isOwn, ↓run_extM, ↓run_bnd, ↓run_ret, ↓reduceIte, List.map_cons, List.map_nil, List.replicate, List.cons_append, List.nil_append, List.append_nil, List.getElem?_cons_zero, List.getElem?_cons_succ, List.set_cons_zero, List.set_cons_succ, List.length_cons, List.length_nil, Nat.zero_add, Nat.reduceAdd, Bool.not_true, Bool.not_false, Bool.false_eq_true, Option.map_some, wipeE, ↓u_callM2, asRet_d, asRet_fr, asRet_nx, asRetM_d, asRetM_nx, ↓u_liftE (isi_int _), ↓u_liftE (isi_bool _), ↓u_liftE (isi_tuple _), ↓u_liftE (isi_str _), ↓u_liftE (isi_list _), Nat.reduceLeDiff]
    unfold halvV
    rw [hn]
theorem gF_ok {rs : List (List Int)} {m w : Nat} (hn : noneL rs m w = []) {l : List Nat} (hl : l ∈ chL m) : fh rs w l = some (gF rs w l) ∧ gF rs w l ∈ signsL l.length ∧ hvB rs w l (gF rs w l) = true := by
  unfold noneL at hn
  rw [List.filter_eq_nil_iff] at hn
  have := hn l hl
  cases hf : fh rs w l with
  | none => rw [hf] at this; exact absurd rfl this
  | some ss =>
    have hg : gF rs w l = ss := by unfold gF; rw [hf]; rfl
    rw [hg]
    exact ⟨rfl, List.mem_of_find?_eq_some hf, List.find?_some hf⟩
theorem ihB_row {rs : List (List Int)} {m w : Nat} {l : List Nat} (C : Ch l m) {ss : List Int} (hs : ss ∈ signsL l.length) (hv : hvB rs w l ss = true) : ihB rs w l (rowD ss) = true := by
  unfold ihB rowD
  simp only [intsOf_map]
  rw [hv]
  simp [hs]
theorem judge_halv {rs : List (List Int)} {m w : Nat} (T : Tb rs m w) : judgeB rs w m (halvV rs m w) = true := by
  have m1 := T.m1
  have m4 := T.m4
  unfold halvV
  cases hn : noneL rs m w with
  | cons l r =>
    dsimp only
    have hl : l ∈ noneL rs m w := by rw [hn]; exact List.mem_cons_self ..
    unfold noneL at hl
    obtain ⟨h1, h2⟩ := List.mem_filter.mp hl
    rw [judge_none, idx_nat m m1 m4 l h1, natsOf_nat, Option.getD_some, h2]
    rfl
  | nil =>
    dsimp only
    rw [judge_all]
    unfold allT
    dsimp only
    have e : ((soL m).map fun l => prD (l, gF rs w l)) = ((soL m).map fun l => (l, rowD (gF rs w l))).map mkP := by
      rw [List.map_map]
      rfl
    rw [e, allB_ps, List.map_map]
    have e2 : (soL m).map (Prod.fst ∘ fun l => (l, rowD (gF rs w l))) = soL m := List.map_id _
    rw [e2, beq_self_eq_true, Bool.true_and, List.all_eq_true]
    intro p hp
    obtain ⟨l, hl, rfl⟩ := List.mem_map.mp hp
    have hc := so_ch m m1 m4 l hl
    obtain ⟨g1, g2, g3⟩ := gF_ok hn hc
    exact ihB_row (chL_ok m m1 m4 l hc) g2 g3
theorem okW_halv {rs : List (List Int)} {m w : Nat} (T : Tb rs m w) : okW 4 (halvV rs m w) = true := by
  have m1 := T.m1
  have m4 := T.m4
  unfold halvV
  cases hn : noneL rs m w with
  | cons l r =>
    dsimp only
    have hl : l ∈ noneL rs m w := by rw [hn]; exact List.mem_cons_self ..
    unfold noneL at hl
    obtain ⟨h1, h2⟩ := List.mem_filter.mp hl
    refine tup_okW (by simp) fun x hx => ?_
    simp only [List.mem_cons, List.not_mem_nil, or_false] at hx
    rcases hx with rfl | rfl
    · rfl
    · exact okW_succ (okW_succ (okW_ch m1 m4 h1))
  | nil =>
    dsimp only
    refine tup_okW (by simp) fun x hx => ?_
    simp only [List.mem_cons, List.not_mem_nil, or_false] at hx
    rcases hx with rfl | rfl
    · rfl
    · have hso := so_len m m1 m4
      refine tup_okW (by rw [List.length_map]; omega) fun z hz => ?_
      obtain ⟨l, hl, rfl⟩ := List.mem_map.mp hz
      have hc := so_ch m m1 m4 l hl
      have C := chL_ok m m1 m4 l hc
      obtain ⟨g1, g2, g3⟩ := gF_ok hn hc
      have hs := signs_ok _ C.n1 C.n4 _ g2
      have n4 := C.n4
      unfold prD
      refine tup_okW (by simp) fun x hx => ?_
      simp only [List.mem_cons, List.not_mem_nil, or_false] at hx
      rcases hx with rfl | rfl
      · exact okW_ch m1 m4 hc
      · exact okW_row (by omega) fun i hi => by rcases hs.2 i hi with rfl | rfl <;> omega
theorem v_hold_halv {rs : List (List Int)} {m w : Nat} (T : Tb rs m w) : F_halvings_hold [tabD rs, halvV rs m w] = some (.ret (.d (.bool true))) := by
  rw [v_hold T (okW_halv T), judge_halv T]
end L2.K72

namespace L2.DL
open PySem PySem.Spec PyProof.Rows
theorem u_eFnK {n : Nat} {F : List PyData → Option FR} {gD : List PyData → List PyData → List PyData} {a b : Mo (List Vl)} {e : En} {Q : Vl → En → Prop} : Run (eFnK n F gD a b) e Q ↔ Run a e fun rs e1 => Run (freezes rs) e1 fun ds e2 => Run b e2 fun rs' e3 => Run (freezes rs') e3 fun es e4 => if (gD ds es).length = n then Run (callF F (gD ds es)) e4 Q else False := by
  simp only [eFnK, run_bnd, run_lift]
  constructor
  · exact fun h => h.imp fun rs e1 h => h.imp fun ds e2 h => h.imp fun rs' e3 h => h.imp fun es e4 ⟨w, h1, h2⟩ => by split at h1 <;> cases h1; simpa [*] using h2
  · exact fun h => h.imp fun rs e1 h => h.imp fun ds e2 h => h.imp fun rs' e3 h => h.imp fun es e4 h => by split at h; (· exact ⟨(), by simp [*], h⟩); exact h.elim
end L2.DL
namespace L2.K72
open PySem PySem.Spec PyProof.Rows L2.DL
def hasL (x : Md) (xs : List PyData) : Prop := x = .own xs ∨ x = .d (.list xs)
theorem okl2 {n : Nat} {a b : PyData} (h : okW n a = true) (h' : okW n b = true) : okW (n + 1) (.list [a, b]) = true := list_okW (by simp) fun x hx => by
  rcases List.mem_cons.mp hx with rfl | hx
  · exact h
  · rcases List.mem_cons.mp hx with rfl | hx
    · exact h'
    · cases hx
theorem ne_same {n : Nat} {a : PyData} (h : okW n a = true) : neF (.str a.shown) (.str a.shown) = some (.d (.bool false)) := by
  rw [ne_shown h h, beq_self_eq_true]
  rfl
section
variable {sc : PyData} {rs : List (List Int)} {m w : Nat}
def ST (sc : PyData) (rs : List (List Int)) (m : Nat) (e : En) : Prop := ∃ (ys : List PyData) (x2 x5 x6 x7 x8 x9 x10 x11 x12 : Md), Pl ys ∧ hasL x5 ((chL m).map natT) ∧ e = [.d sc, .own ys, x2, .d (tabD rs), .d (.str (tabD rs).shown), x5, x6, x7, x8, x9, x10, x11, x12]
theorem okW_tab (T : Tb rs m w) : okW 2 (tabD rs) = true := tup_okW (by rw [List.length_map, T.len]; have := T.m4; omega) fun x hx => by
  obtain ⟨r, hr, rfl⟩ := List.mem_map.mp hx
  have := T.row r hr
  exact okW_row (by have := T.w4; omega) fun i hi => by have := this.2 i hi; omega
theorem okW_opt {l : List Nat} (C : Ch l m) : okW 1 (optD (fh rs w l)) = true := by
  cases hf : fh rs w l with
  | none => rfl
  | some ss =>
    have hs := signs_ok _ C.n1 C.n4 _ (List.mem_of_find?_eq_some hf)
    have n4 := C.n4
    exact okW_row (by omega) fun i hi => by rcases hs.2 i hi with rfl | rfl <;> omega
theorem law_7 (T : Tb rs m w) {e : En} (h : ST sc rs m e) : Run m_law_7 e fun fl e' => fl = .nx ∧ ST sc rs m e' := by
  have m1 := T.m1
  have m4 := T.m4
  obtain ⟨ys, x2, x5, x6, x7, x8, x9, x10, x11, x12, p, hx, rfl⟩ := h
  have key : ∀ (x5 : Md), hasL x5 ((chL m).map natT) → Run (forM (bName 6) (sSeq m_law_4 m_law_6) ((chL m).map natT)) [.d sc, .own ys, x2, .d (tabD rs), .d (.str (tabD rs).shown), x5, x6, x7, x8, x9, x10, x11, x12] fun fl e' => fl = .nx ∧ ST sc rs m e' := by
    intro x5 hx
    refine run_for _ (fun i e => ST sc rs m e) ⟨ys, x2, x5, x6, x7, x8, x9, x10, x11, x12, p, hx, rfl⟩ ?_ ?_
    · rintro i x e hi ⟨ys, x2, x5, x6, x7, x8, x9, x10, x11, x12, p, hx, rfl⟩
      obtain ⟨l, hl, rfl⟩ := List.mem_map.mp (List.mem_of_getElem? hi)
      have C := chL_ok m m1 m4 l hl
      have e1 := v_law_halving T C
      have e2 := v_halving T hl
      have ok := okl2 (okW_opt (rs := rs) (w := w) C) (okW_opt (rs := rs) (w := w) C)
      have e3 := v_repr ok (by omega)
      have e4 := ne_same ok
      unfold m_law_4 m_law_6
      simp only [↓u_callFE e1, ↓u_callFE e2, ↓u_liftE e3, ↓u_liftE e4, ↓u_eFnK, ↓l_addI, ↓l_subI, ↓l_ltI, ↓l_leI, ↓l_gtI, ↓l_geI, ↓l_eqI, ↓l_neI, ↓l_negI, ↓l_notB, ↓l_lenT, ↓l_lenL, ↓l_tupL, ↓l_tupT, ↓l_lstL, ↓l_lstT, ↓l_at20, ↓l_at21, ↓l_seqL, ↓l_seqT, ↓l_isN, ↓u_bTup, ↓u_bAll0, ↓u_bAll1, ↓u_eSl, ↓u_partN, ↓u_partS, ↓u_eC, ↓u_eBin, ↓u_eUn, ↓u_aNil, ↓u_aCons, ↓u_peeks0, ↓u_peeks1, ↓u_freezes0, ↓u_freezes1, ↓u_eTup, ↓u_eLst, ↓u_eCall, ↓u_eFn, ↓u_cV, ↓u_cAnd, ↓u_cOr, ↓u_cNot, ↓u_cYes, ↓u_eIf, ↓u_eAnd, ↓u_eOr, ↓u_sSet, ↓u_sSeq, ↓u_sNx, ↓u_sIf, ↓u_sExpr, ↓u_sRet, ↓u_iSeq, ↓u_iRng, ↓u_iZips, ↓u_sFor, ↓u_eLc, ↓u_eMut, ↓u_eExt, ↓u_eFnM, ↓u_sSets, ↓u_stores0, ↓u_stores1, ↓u_sAsg, ↓u_bSub, ↓run_peek, ↓run_freeze, ↓run_var, ↓run_store, ↓run_bName, ↓run_isOwn, ↓run_extM, ↓run_bnd, ↓run_ret, ↓reduceIte, List.map_cons, List.map_nil, List.replicate, List.cons_append, List.nil_append, List.append_nil, List.getElem?_cons_zero, List.getElem?_cons_succ, List.set_cons_zero, List.set_cons_succ, List.length_cons, List.length_nil, Nat.zero_add, Nat.reduceAdd, Bool.not_true, Bool.not_false, Bool.false_eq_true, Option.map_some, wipeE, ↓u_callM2, asRet_d, asRet_fr, asRet_nx, asRetM_d, asRetM_nx, ↓u_liftE (isi_int _), ↓u_liftE (isi_bool _), ↓u_liftE (isi_tuple _), ↓u_liftE (isi_str _), ↓u_liftE (isi_list _), g_halving_0_rows_table, Nat.reduceLeDiff]
      exact ⟨ys, _, _, _, _, _, _, _, _, _, p, hx, rfl⟩
    · exact fun e h => ⟨rfl, h⟩
  unfold m_law_7
  rcases hx with rfl | rfl
  · simp only [↓l_addI, ↓l_subI, ↓l_ltI, ↓l_leI, ↓l_gtI, ↓l_geI, ↓l_eqI, ↓l_neI, ↓l_negI, ↓l_notB, ↓l_lenT, ↓l_lenL, ↓l_tupL, ↓l_tupT, ↓l_lstL, ↓l_lstT, ↓l_at20, ↓l_at21, ↓l_seqL, ↓l_seqT, ↓l_isN, ↓u_bTup, ↓u_bAll0, ↓u_bAll1, ↓u_eSl, ↓u_partN, ↓u_partS, ↓u_eC, ↓u_eBin, ↓u_eUn, ↓u_aNil, ↓u_aCons, ↓u_peeks0, ↓u_peeks1, ↓u_freezes0, ↓u_freezes1, ↓u_eTup, ↓u_eLst, ↓u_eCall, ↓u_eFn, ↓u_cV, ↓u_cAnd, ↓u_cOr, ↓u_cNot, ↓u_cYes, ↓u_eIf, ↓u_eAnd, ↓u_eOr, ↓u_sSet, ↓u_sSeq, ↓u_sNx, ↓u_sIf, ↓u_sExpr, ↓u_sRet, ↓u_iSeq, ↓u_iRng, ↓u_iZips, ↓u_sFor, ↓u_eLc, ↓u_eMut, ↓u_eExt, ↓u_eFnM, ↓u_sSets, ↓u_stores0, ↓u_stores1, ↓u_sAsg, ↓u_bSub, ↓run_peek, ↓run_freeze, ↓run_var, ↓run_store, ↓run_bName, ↓run_isOwn, ↓run_extM, ↓run_bnd, ↓run_ret, ↓reduceIte, List.map_cons, List.map_nil, List.replicate, List.cons_append, List.nil_append, List.append_nil, List.getElem?_cons_zero, List.getElem?_cons_succ, List.set_cons_zero, List.set_cons_succ, List.length_cons, List.length_nil, Nat.zero_add, Nat.reduceAdd, Bool.not_true, Bool.not_false, Bool.false_eq_true, Option.map_some, wipeE, ↓u_callM2, asRet_d, asRet_fr, asRet_nx, asRetM_d, asRetM_nx, ↓u_liftE (isi_int _), ↓u_liftE (isi_bool _), ↓u_liftE (isi_tuple _), ↓u_liftE (isi_str _), ↓u_liftE (isi_list _)]
    exact key _ (.inr rfl)
  · simp only [↓l_addI, ↓l_subI, ↓l_ltI, ↓l_leI, ↓l_gtI, ↓l_geI, ↓l_eqI, ↓l_neI, ↓l_negI, ↓l_notB, ↓l_lenT, ↓l_lenL, ↓l_tupL, ↓l_tupT, ↓l_lstL, ↓l_lstT, ↓l_at20, ↓l_at21, ↓l_seqL, ↓l_seqT, ↓l_isN, ↓u_bTup, ↓u_bAll0, ↓u_bAll1, ↓u_eSl, ↓u_partN, ↓u_partS, ↓u_eC, ↓u_eBin, ↓u_eUn, ↓u_aNil, ↓u_aCons, ↓u_peeks0, ↓u_peeks1, ↓u_freezes0, ↓u_freezes1, ↓u_eTup, ↓u_eLst, ↓u_eCall, ↓u_eFn, ↓u_cV, ↓u_cAnd, ↓u_cOr, ↓u_cNot, ↓u_cYes, ↓u_eIf, ↓u_eAnd, ↓u_eOr, ↓u_sSet, ↓u_sSeq, ↓u_sNx, ↓u_sIf, ↓u_sExpr, ↓u_sRet, ↓u_iSeq, ↓u_iRng, ↓u_iZips, ↓u_sFor, ↓u_eLc, ↓u_eMut, ↓u_eExt, ↓u_eFnM, ↓u_sSets, ↓u_stores0, ↓u_stores1, ↓u_sAsg, ↓u_bSub, ↓run_peek, ↓run_freeze, ↓run_var, ↓run_store, ↓run_bName, ↓run_isOwn, ↓run_extM, ↓run_bnd, ↓run_ret, ↓reduceIte, List.map_cons, List.map_nil, List.replicate, List.cons_append, List.nil_append, List.append_nil, List.getElem?_cons_zero, List.getElem?_cons_succ, List.set_cons_zero, List.set_cons_succ, List.length_cons, List.length_nil, Nat.zero_add, Nat.reduceAdd, Bool.not_true, Bool.not_false, Bool.false_eq_true, Option.map_some, wipeE, ↓u_callM2, asRet_d, asRet_fr, asRet_nx, asRetM_d, asRetM_nx, ↓u_liftE (isi_int _), ↓u_liftE (isi_bool _), ↓u_liftE (isi_tuple _), ↓u_liftE (isi_str _), ↓u_liftE (isi_list _)]
    exact key _ (.inr rfl)
/-- with the choices that have none -/
def SN (sc : PyData) (rs : List (List Int)) (m w : Nat) (e : En) : Prop := ∃ (ys : List PyData) (x2 x5 x6 x7 x8 x9 x10 x11 x12 : Md), Pl ys ∧ hasL x5 ((chL m).map natT) ∧ hasL x7 ((noneL rs m w).map natT) ∧ e = [.d sc, .own ys, x2, .d (tabD rs), .d (.str (tabD rs).shown), x5, x6, x7, x8, x9, x10, x11, x12]
def pN (rs : List (List Int)) (w : Nat) (x : PyData) : Bool := match natsOf x with
  | some l => (fh rs w l).isNone
  | none => false
theorem pN_nat (rs : List (List Int)) (w : Nat) (l : List Nat) : pN rs w (natT l) = (fh rs w l).isNone := by
  unfold pN
  rw [natsOf_nat]
theorem none_map : ((chL m).map natT).filter (pN rs w) = (noneL rs m w).map natT := by
  rw [List.filter_map]
  unfold noneL
  congr 1
  exact List.filter_congr fun l _ => pN_nat rs w l
theorem isNon_opt (o : Option (List Int)) : isNonD (optD o) = o.isNone := by cases o <;> rfl
theorem law_9 (T : Tb rs m w) {e : En} (h : ST sc rs m e) : Run m_law_9 e fun fl e' => fl = .nx ∧ SN sc rs m w e' := by
  have m1 := T.m1
  have m4 := T.m4
  have hlen := (so_len m m1 m4).2
  obtain ⟨ys, x2, x5, x6, x7, x8, x9, x10, x11, x12, p, hx, rfl⟩ := h
  unfold m_law_9 m_law_8
  rcases hx with rfl | rfl
  all_goals
    simp only [↓l_addI, ↓l_subI, ↓l_ltI, ↓l_leI, ↓l_gtI, ↓l_geI, ↓l_eqI, ↓l_neI, ↓l_negI, ↓l_notB, ↓l_lenT, ↓l_lenL, ↓l_tupL, ↓l_tupT, ↓l_lstL, ↓l_lstT, ↓l_at20, ↓l_at21, ↓l_seqL, ↓l_seqT, ↓l_isN, ↓u_bTup, ↓u_bAll0, ↓u_bAll1, ↓u_eSl, ↓u_partN, ↓u_partS, ↓u_eC, ↓u_eBin, ↓u_eUn, ↓u_aNil, ↓u_aCons, ↓u_peeks0, ↓u_peeks1, ↓u_freezes0, ↓u_freezes1, ↓u_eTup, ↓u_eLst, ↓u_eCall, ↓u_eFn, ↓u_cV, ↓u_cAnd, ↓u_cOr, ↓u_cNot, ↓u_cYes, ↓u_eIf, ↓u_eAnd, ↓u_eOr, ↓u_sSet, ↓u_sSeq, ↓u_sNx, ↓u_sIf, ↓u_sExpr, ↓u_sRet, ↓u_iSeq, ↓u_iRng, ↓u_iZips, ↓u_sFor, ↓u_eLc, ↓u_eMut, ↓u_eExt, ↓u_eFnM, ↓u_sSets, ↓u_stores0, ↓u_stores1, ↓u_sAsg, ↓u_bSub, ↓run_peek, ↓run_freeze, ↓run_var, ↓run_store, ↓run_bName, ↓run_isOwn, ↓run_extM, ↓run_bnd, ↓run_ret, ↓reduceIte, List.map_cons, List.map_nil, List.replicate, List.cons_append, List.nil_append, List.append_nil, List.getElem?_cons_zero, List.getElem?_cons_succ, List.set_cons_zero, List.set_cons_succ, List.length_cons, List.length_nil, Nat.zero_add, Nat.reduceAdd, Bool.not_true, Bool.not_false, Bool.false_eq_true, Option.map_some, wipeE, ↓u_callM2, asRet_d, asRet_fr, asRet_nx, asRetM_d, asRetM_nx, ↓u_liftE (isi_int _), ↓u_liftE (isi_bool _), ↓u_liftE (isi_tuple _), ↓u_liftE (isi_str _), ↓u_liftE (isi_list _), List.length_map]
    rw [if_pos (by omega)]
    refine run_filter _ (pN rs w) (fun x => x) rfl (fun x hx => ?_) ?_
    · obtain ⟨l, hl, rfl⟩ := List.mem_map.mp hx
      have e1 := v_law_halving T (chL_ok m m1 m4 l hl)
      simp only [↓u_callFE e1, ↓l_addI, ↓l_subI, ↓l_ltI, ↓l_leI, ↓l_gtI, ↓l_geI, ↓l_eqI, ↓l_neI, ↓l_negI, ↓l_notB, ↓l_lenT, ↓l_lenL, ↓l_tupL, ↓l_tupT, ↓l_lstL, ↓l_lstT, ↓l_at20, ↓l_at21, ↓l_seqL, ↓l_seqT, ↓l_isN, ↓u_bTup, ↓u_bAll0, ↓u_bAll1, ↓u_eSl, ↓u_partN, ↓u_partS, ↓u_eC, ↓u_eBin, ↓u_eUn, ↓u_aNil, ↓u_aCons, ↓u_peeks0, ↓u_peeks1, ↓u_freezes0, ↓u_freezes1, ↓u_eTup, ↓u_eLst, ↓u_eCall, ↓u_eFn, ↓u_cV, ↓u_cAnd, ↓u_cOr, ↓u_cNot, ↓u_cYes, ↓u_eIf, ↓u_eAnd, ↓u_eOr, ↓u_sSet, ↓u_sSeq, ↓u_sNx, ↓u_sIf, ↓u_sExpr, ↓u_sRet, ↓u_iSeq, ↓u_iRng, ↓u_iZips, ↓u_sFor, ↓u_eLc, ↓u_eMut, ↓u_eExt, ↓u_eFnM, ↓u_sSets, ↓u_stores0, ↓u_stores1, ↓u_sAsg, ↓u_bSub, ↓run_peek, ↓run_freeze, ↓run_var, ↓run_store, ↓run_bName, ↓run_isOwn, ↓run_extM, ↓run_bnd, ↓run_ret, ↓reduceIte, List.map_cons, List.map_nil, List.replicate, List.cons_append, List.nil_append, List.append_nil, List.getElem?_cons_zero, List.getElem?_cons_succ, List.set_cons_zero, List.set_cons_succ, List.length_cons, List.length_nil, Nat.zero_add, Nat.reduceAdd, Bool.not_true, Bool.not_false, Bool.false_eq_true, Option.map_some, wipeE, ↓u_callM2, asRet_d, asRet_fr, asRet_nx, asRetM_d, asRetM_nx, ↓u_liftE (isi_int _), ↓u_liftE (isi_bool _), ↓u_liftE (isi_tuple _), ↓u_liftE (isi_str _), ↓u_liftE (isi_list _), isNon_opt, pN_nat, implies_true, and_self]
    · rw [none_map, show (fun (x : PyData) => x) = id from rfl, List.map_id]
      simp only [↓l_addI, ↓l_subI, ↓l_ltI, ↓l_leI, ↓l_gtI, ↓l_geI, ↓l_eqI, ↓l_neI, ↓l_negI, ↓l_notB, ↓l_lenT, ↓l_lenL, ↓l_tupL, ↓l_tupT, ↓l_lstL, ↓l_lstT, ↓l_at20, ↓l_at21, ↓l_seqL, ↓l_seqT, ↓l_isN, ↓u_bTup, ↓u_bAll0, ↓u_bAll1, ↓u_eSl, ↓u_partN, ↓u_partS, ↓u_eC, ↓u_eBin, ↓u_eUn, ↓u_aNil, ↓u_aCons, ↓u_peeks0, ↓u_peeks1, ↓u_freezes0, ↓u_freezes1, ↓u_eTup, ↓u_eLst, ↓u_eCall, ↓u_eFn, ↓u_cV, ↓u_cAnd, ↓u_cOr, ↓u_cNot, ↓u_cYes, ↓u_eIf, ↓u_eAnd, ↓u_eOr, ↓u_sSet, ↓u_sSeq, ↓u_sNx, ↓u_sIf, ↓u_sExpr, ↓u_sRet, ↓u_iSeq, ↓u_iRng, ↓u_iZips, ↓u_sFor, ↓u_eLc, ↓u_eMut, ↓u_eExt, ↓u_eFnM, ↓u_sSets, ↓u_stores0, ↓u_stores1, ↓u_sAsg, ↓u_bSub, ↓run_peek, ↓run_freeze, ↓run_var, ↓run_store, ↓run_bName, ↓run_isOwn, ↓run_extM, ↓run_bnd, ↓run_ret, ↓reduceIte, List.map_cons, List.map_nil, List.replicate, List.cons_append, List.nil_append, List.append_nil, List.getElem?_cons_zero, List.getElem?_cons_succ, List.set_cons_zero, List.set_cons_succ, List.length_cons, List.length_nil, Nat.zero_add, Nat.reduceAdd, Bool.not_true, Bool.not_false, Bool.false_eq_true, Option.map_some, wipeE, ↓u_callM2, asRet_d, asRet_fr, asRet_nx, asRetM_d, asRetM_nx, ↓u_liftE (isi_int _), ↓u_liftE (isi_bool _), ↓u_liftE (isi_tuple _), ↓u_liftE (isi_str _), ↓u_liftE (isi_list _)]
      exact ⟨trivial, ys, _, _, _, _, _, _, _, _, _, p, .inr rfl, .inl rfl, rfl⟩
end
end L2.K72

namespace L2.K72
open PySem PySem.Spec PyProof.Rows L2.DL
section
variable {sc : PyData} {rs : List (List Int)} {m w : Nat}
def SB (sc : PyData) (rs : List (List Int)) (m w : Nat) (e : En) : Prop := ∃ (ys : List PyData) (x2 x5 x6 x7 x9 x10 x11 x12 : Md), Pl ys ∧ hasL x5 ((chL m).map natT) ∧ hasL x7 ((noneL rs m w).map natT) ∧ e = [.d sc, .own ys, x2, .d (tabD rs), .d (.str (tabD rs).shown), x5, x6, x7, .d (barD rs m w), x9, x10, x11, x12]
theorem law_10 (T : Tb rs m w) {e : En} (h : SN sc rs m w e) : Run m_law_10 e fun fl e' => fl = .nx ∧ SB sc rs m w e' := by
  obtain ⟨ys, x2, x5, x6, x7, x8, x9, x10, x11, x12, p, hx, hx7, rfl⟩ := h
  have e1 := v_bar T
  unfold m_law_10
  simp only [↓u_callFE e1, ↓l_addI, ↓l_subI, ↓l_ltI, ↓l_leI, ↓l_gtI, ↓l_geI, ↓l_eqI, ↓l_neI, ↓l_negI, ↓l_notB, ↓l_lenT, ↓l_lenL, ↓l_tupL, ↓l_tupT, ↓l_lstL, ↓l_lstT, ↓l_at20, ↓l_at21, ↓l_seqL, ↓l_seqT, ↓l_isN, ↓u_bTup, ↓u_bAll0, ↓u_bAll1, ↓u_eSl, ↓u_partN, ↓u_partS, ↓u_eC, ↓u_eBin, ↓u_eUn, ↓u_aNil, ↓u_aCons, ↓u_peeks0, ↓u_peeks1, ↓u_freezes0, ↓u_freezes1, ↓u_eTup, ↓u_eLst, ↓u_eCall, ↓u_eFn, ↓u_cV, ↓u_cAnd, ↓u_cOr, ↓u_cNot, ↓u_cYes, ↓u_eIf, ↓u_eAnd, ↓u_eOr, ↓u_sSet, ↓u_sSeq, ↓u_sNx, ↓u_sIf, ↓u_sExpr, ↓u_sRet, ↓u_iSeq, ↓u_iRng, ↓u_iZips, ↓u_sFor, ↓u_eLc, ↓u_eMut, ↓u_eExt, ↓u_eFnM, ↓u_sSets, ↓u_stores0, ↓u_stores1, ↓u_sAsg, ↓u_bSub, ↓run_peek, ↓run_freeze, ↓run_var, ↓run_store, ↓run_bName, ↓run_isOwn, ↓run_extM, ↓run_bnd, ↓run_ret, ↓reduceIte, List.map_cons, List.map_nil, List.replicate, List.cons_append, List.nil_append, List.append_nil, List.getElem?_cons_zero, List.getElem?_cons_succ, List.set_cons_zero, List.set_cons_succ, List.length_cons, List.length_nil, Nat.zero_add, Nat.reduceAdd, Bool.not_true, Bool.not_false, Bool.false_eq_true, Option.map_some, wipeE, ↓u_callM2, asRet_d, asRet_fr, asRet_nx, asRetM_d, asRetM_nx, ↓u_liftE (isi_int _), ↓u_liftE (isi_bool _), ↓u_liftE (isi_tuple _), ↓u_liftE (isi_str _), ↓u_liftE (isi_list _)]
  exact ⟨trivial, ys, _, _, _, _, _, _, _, _, p, hx, hx7, rfl⟩
theorem ne_none (L : List (List Nat)) : neF (.list (L.map natT)) (.list []) = some (.d (.bool (!L.isEmpty))) := by
  have h : (L.map natT).isEmpty = L.isEmpty := by cases L <;> rfl
  rw [neF, lay_nats, sh_nil, eqv_list_nil, h]
  rfl
theorem eq_none (L : List (List Nat)) : eqF (.list (L.map natT)) (.list []) = some (.d (.bool L.isEmpty)) := by
  have h : (L.map natT).isEmpty = L.isEmpty := by cases L <;> rfl
  rw [eqF, lay_nats, sh_nil, eqv_list_nil, h]
  rfl
theorem ne_aa : neF (.str "all") (.str "all") = some (.d (.bool false)) := by kernel_rfl
theorem ne_so (L : List (List Nat)) : neF (.list (L.map natT)) (.list (L.map natT)) = some (.d (.bool false)) := by
  rw [neF, lay_nats, eqv_nats, beq_self_eq_true]
  rfl
theorem ne_ee : neF (.list []) (.list []) = some (.d (.bool false)) := by kernel_rfl
theorem nin_rows (L : List (List Int)) (ss : List Int) (h : ss ∈ L) : ninF (rowD ss) (.list (L.map rowD)) = some (.d (.bool false)) := by
  have h0 := in_rows L ss
  have h1 : SeqAt.shaped (rowD ss) = true := lay_shaped (lay_row ss) (by omega)
  have h2 : SeqAt.shaped (.list (L.map rowD)) = true := lay_shaped (lay_list fun x hx => by obtain ⟨r, _, rfl⟩ := List.mem_map.mp hx; exact lay_row r) (by omega)
  show (if SeqAt.shaped (rowD ss) && SeqAt.shaped (.list (L.map rowD)) then some (Vl.d (.bool (!(L.map rowD).any fun z => PyData.eqv z (rowD ss)))) else none) = _
  rw [h1, h2]
  have : ((L.map rowD).any fun z => PyData.eqv z (rowD ss)) = true := by
    rw [List.any_eq_true]
    exact ⟨rowD ss, List.mem_map.mpr ⟨ss, h, rfl⟩, by rw [eqv_rows, beq_self_eq_true]⟩
  rw [this]
  rfl
theorem isnt_tt : isntF (.bool true) (.bool true) = some (.d (.bool false)) := rfl
theorem f_none {α : Type} (xs : List α) : xs.filter (fun _ => false) = [] := by rw [List.filter_eq_nil_iff]; exact fun _ _ h => by cases h
theorem law_22 (T : Tb rs m w) {e : En} (h : SB sc rs m w e) : Run m_law_22 (e.set 9 (.d (halvV rs m w))) fun fl e' => fl = .nx ∧ SB sc rs m w e' ∧ e'[9]? = some (.d (halvV rs m w)) := by
  have m1 := T.m1
  have m4 := T.m4
  obtain ⟨ys, x2, x5, x6, x7, x9, x10, x11, x12, p, hx, hx7, rfl⟩ := h
  have en := ne_none (noneL rs m w)
  have ok := okW_halv T
  have e3 := v_repr ok (by omega)
  have e4 := ne_same ok
  obtain ⟨N, hN⟩ : ∃ N, (noneL rs m w).map natT = N := ⟨_, rfl⟩
  rw [hN] at en hx7
  unfold m_law_22
  cases hn : noneL rs m w with
  | cons l r =>
    have hv : halvV rs m w = .tuple [.str "none", natT l] := by unfold halvV; rw [hn]
    rw [hn] at en
    have ei : ixF (.list N) (.int 0) = some (.d (natT l)) := by
      rw [← hN, hn]
      show (atI ((l :: r).map natT) ((0 : Nat) : Int)).map Vl.d = _
      rw [at_nat _ 0 (by simp)]
      rfl
    rw [hv] at e3 e4
    unfold m_law_12
    rcases hx7 with rfl | rfl
    all_goals
      simp only [↓u_liftE en, ↓u_liftE ei, ↓u_liftE e3, ↓u_liftE e4, ↓l_addI, ↓l_subI, ↓l_ltI, ↓l_leI, ↓l_gtI, ↓l_geI, ↓l_eqI, ↓l_neI, ↓l_negI, ↓l_notB, ↓l_lenT, ↓l_lenL, ↓l_tupL, ↓l_tupT, ↓l_lstL, ↓l_lstT, ↓l_at20, ↓l_at21, ↓l_seqL, ↓l_seqT, ↓l_isN, ↓u_bTup, ↓u_bAll0, ↓u_bAll1, ↓u_eSl, ↓u_partN, ↓u_partS, ↓u_eC, ↓u_eBin, ↓u_eUn, ↓u_aNil, ↓u_aCons, ↓u_peeks0, ↓u_peeks1, ↓u_freezes0, ↓u_freezes1, ↓u_eTup, ↓u_eLst, ↓u_eCall, ↓u_eFn, ↓u_cV, ↓u_cAnd, ↓u_cOr, ↓u_cNot, ↓u_cYes, ↓u_eIf, ↓u_eAnd, ↓u_eOr, ↓u_sSet, ↓u_sSeq, ↓u_sNx, ↓u_sIf, ↓u_sExpr, ↓u_sRet, ↓u_iSeq, ↓u_iRng, ↓u_iZips, ↓u_sFor, ↓u_eLc, ↓u_eMut, ↓u_eExt, ↓u_eFnM, ↓u_sSets, ↓u_stores0, ↓u_stores1, ↓u_sAsg, ↓u_bSub, ↓run_peek, ↓run_freeze, ↓run_var, ↓run_store, ↓run_bName, ↓run_isOwn, ↓run_extM, ↓run_bnd, ↓run_ret, ↓reduceIte, List.map_cons, List.map_nil, List.replicate, List.cons_append, List.nil_append, List.append_nil, List.getElem?_cons_zero, List.getElem?_cons_succ, List.set_cons_zero, List.set_cons_succ, List.length_cons, List.length_nil, Nat.zero_add, Nat.reduceAdd, Bool.not_true, Bool.not_false, Bool.false_eq_true, Option.map_some, wipeE, ↓u_callM2, asRet_d, asRet_fr, asRet_nx, asRetM_d, asRetM_nx, ↓u_liftE (isi_int _), ↓u_liftE (isi_bool _), ↓u_liftE (isi_tuple _), ↓u_liftE (isi_str _), ↓u_liftE (isi_list _), hv, List.isEmpty_cons, Nat.reduceLeDiff, Nat.zero_le]
      refine ⟨trivial, ⟨ys, _, _, _, _, _, _, _, _, p, hx, ?_, rfl⟩, by first | rfl | trivial⟩
      rw [hN]
      first | exact .inl rfl | exact .inr rfl
  | nil =>
    have hv : halvV rs m w = .tuple [.str "all", .tuple ((soL m).map fun l => prD (l, gF rs w l))] := by unfold halvV; rw [hn]
    rw [hn] at en
    have hso := so_len m m1 m4
    have es := v_sort_ch m m1 m4
    have e5 := ne_so (soL m)
    unfold m_law_21 m_law_13
    have step : ∀ (x5 x7 : Md), hasL x5 ((chL m).map natT) → hasL x7 N → Run m_law_20 [.d sc, .own ys, x2, .d (tabD rs), .d (.str (tabD rs).shown), x5, .un, x7, .d (barD rs m w), .d (.tuple [.str "all", .tuple ((soL m).map fun l => prD (l, gF rs w l))]), x10, x11, .un] fun fl e' => fl = .nx ∧ SB sc rs m w e' ∧ e'[9]? = some (.d (.tuple [.str "all", .tuple ((soL m).map fun l => prD (l, gF rs w l))])) := by
      intro x5 x7 hx hx7
      unfold m_law_20 m_law_15
      simp only [↓l_addI, ↓l_subI, ↓l_ltI, ↓l_leI, ↓l_gtI, ↓l_geI, ↓l_eqI, ↓l_neI, ↓l_negI, ↓l_notB, ↓l_lenT, ↓l_lenL, ↓l_tupL, ↓l_tupT, ↓l_lstL, ↓l_lstT, ↓l_at20, ↓l_at21, ↓l_seqL, ↓l_seqT, ↓l_isN, ↓u_bTup, ↓u_bAll0, ↓u_bAll1, ↓u_eSl, ↓u_partN, ↓u_partS, ↓u_eC, ↓u_eBin, ↓u_eUn, ↓u_aNil, ↓u_aCons, ↓u_peeks0, ↓u_peeks1, ↓u_freezes0, ↓u_freezes1, ↓u_eTup, ↓u_eLst, ↓u_eCall, ↓u_eFn, ↓u_cV, ↓u_cAnd, ↓u_cOr, ↓u_cNot, ↓u_cYes, ↓u_eIf, ↓u_eAnd, ↓u_eOr, ↓u_sSet, ↓u_sSeq, ↓u_sNx, ↓u_sIf, ↓u_sExpr, ↓u_sRet, ↓u_iSeq, ↓u_iRng, ↓u_iZips, ↓u_sFor, ↓u_eLc, ↓u_eMut, ↓u_eExt, ↓u_eFnM, ↓u_sSets, ↓u_stores0, ↓u_stores1, ↓u_sAsg, ↓u_bSub, ↓run_peek, ↓run_freeze, ↓run_var, ↓run_store, ↓run_bName, ↓run_isOwn, ↓run_extM, ↓run_bnd, ↓run_ret, ↓reduceIte, List.map_cons, List.map_nil, List.replicate, List.cons_append, List.nil_append, List.append_nil, List.getElem?_cons_zero, List.getElem?_cons_succ, List.set_cons_zero, List.set_cons_succ, List.length_cons, List.length_nil, Nat.zero_add, Nat.reduceAdd, Bool.not_true, Bool.not_false, Bool.false_eq_true, Option.map_some, wipeE, ↓u_callM2, asRet_d, asRet_fr, asRet_nx, asRetM_d, asRetM_nx, ↓u_liftE (isi_int _), ↓u_liftE (isi_bool _), ↓u_liftE (isi_tuple _), ↓u_liftE (isi_str _), ↓u_liftE (isi_list _), List.length_map, Nat.reduceLeDiff]
      rw [if_pos (by omega)]
      refine run_filter _ (fun _ => false) (fun x => x) rfl (fun x hx => ?_) ?_
      · obtain ⟨l, hl, rfl⟩ := List.mem_map.mp hx
        have hc := so_ch m m1 m4 l hl
        have C := chL_ok m m1 m4 l hc
        obtain ⟨g1, g2, g3⟩ := gF_ok hn hc
        have e1 := v_law_signs l.length C.n1 C.n4
        have el : lenF [natT l] = some (.d (.int (l.length : Int))) := by
          show some (Vl.d (.int (((l.map fun (i : Nat) => PyData.int (i : Int)).length : Nat) : Int))) = _
          rw [List.length_map]
        have e2 := nin_rows _ _ g2
        unfold prD
        simp only [↓u_callFE e1, ↓u_liftE el, ↓u_liftE e2, ↓l_addI, ↓l_subI, ↓l_ltI, ↓l_leI, ↓l_gtI, ↓l_geI, ↓l_eqI, ↓l_neI, ↓l_negI, ↓l_notB, ↓l_lenT, ↓l_lenL, ↓l_tupL, ↓l_tupT, ↓l_lstL, ↓l_lstT, ↓l_at20, ↓l_at21, ↓l_seqL, ↓l_seqT, ↓l_isN, ↓u_bTup, ↓u_bAll0, ↓u_bAll1, ↓u_eSl, ↓u_partN, ↓u_partS, ↓u_eC, ↓u_eBin, ↓u_eUn, ↓u_aNil, ↓u_aCons, ↓u_peeks0, ↓u_peeks1, ↓u_freezes0, ↓u_freezes1, ↓u_eTup, ↓u_eLst, ↓u_eCall, ↓u_eFn, ↓u_cV, ↓u_cAnd, ↓u_cOr, ↓u_cNot, ↓u_cYes, ↓u_eIf, ↓u_eAnd, ↓u_eOr, ↓u_sSet, ↓u_sSeq, ↓u_sNx, ↓u_sIf, ↓u_sExpr, ↓u_sRet, ↓u_iSeq, ↓u_iRng, ↓u_iZips, ↓u_sFor, ↓u_eLc, ↓u_eMut, ↓u_eExt, ↓u_eFnM, ↓u_sSets, ↓u_stores0, ↓u_stores1, ↓u_sAsg, ↓u_bSub, ↓run_peek, ↓run_freeze, ↓run_var, ↓run_store, ↓run_bName, ↓run_isOwn, ↓run_extM, ↓run_bnd, ↓run_ret, ↓reduceIte, List.map_cons, List.map_nil, List.replicate, List.cons_append, List.nil_append, List.append_nil, List.getElem?_cons_zero, List.getElem?_cons_succ, List.set_cons_zero, List.set_cons_succ, List.length_cons, List.length_nil, Nat.zero_add, Nat.reduceAdd, Bool.not_true, Bool.not_false, Bool.false_eq_true, Option.map_some, wipeE, ↓u_callM2, asRet_d, asRet_fr, asRet_nx, asRetM_d, asRetM_nx, ↓u_liftE (isi_int _), ↓u_liftE (isi_bool _), ↓u_liftE (isi_tuple _), ↓u_liftE (isi_str _), ↓u_liftE (isi_list _)]
        exact ⟨trivial, fun h => h.elim, fun _ => trivial⟩
      · rw [f_none, List.map_nil]
        unfold m_law_19 m_law_17
        simp only [↓u_liftE ne_ee, ↓l_addI, ↓l_subI, ↓l_ltI, ↓l_leI, ↓l_gtI, ↓l_geI, ↓l_eqI, ↓l_neI, ↓l_negI, ↓l_notB, ↓l_lenT, ↓l_lenL, ↓l_tupL, ↓l_tupT, ↓l_lstL, ↓l_lstT, ↓l_at20, ↓l_at21, ↓l_seqL, ↓l_seqT, ↓l_isN, ↓u_bTup, ↓u_bAll0, ↓u_bAll1, ↓u_eSl, ↓u_partN, ↓u_partS, ↓u_eC, ↓u_eBin, ↓u_eUn, ↓u_aNil, ↓u_aCons, ↓u_peeks0, ↓u_peeks1, ↓u_freezes0, ↓u_freezes1, ↓u_eTup, ↓u_eLst, ↓u_eCall, ↓u_eFn, ↓u_cV, ↓u_cAnd, ↓u_cOr, ↓u_cNot, ↓u_cYes, ↓u_eIf, ↓u_eAnd, ↓u_eOr, ↓u_sSet, ↓u_sSeq, ↓u_sNx, ↓u_sIf, ↓u_sExpr, ↓u_sRet, ↓u_iSeq, ↓u_iRng, ↓u_iZips, ↓u_sFor, ↓u_eLc, ↓u_eMut, ↓u_eExt, ↓u_eFnM, ↓u_sSets, ↓u_stores0, ↓u_stores1, ↓u_sAsg, ↓u_bSub, ↓run_peek, ↓run_freeze, ↓run_var, ↓run_store, ↓run_bName, ↓run_isOwn, ↓run_extM, ↓run_bnd, ↓run_ret, ↓reduceIte, List.map_cons, List.map_nil, List.replicate, List.cons_append, List.nil_append, List.append_nil, List.getElem?_cons_zero, List.getElem?_cons_succ, List.set_cons_zero, List.set_cons_succ, List.length_cons, List.length_nil, Nat.zero_add, Nat.reduceAdd, Bool.not_true, Bool.not_false, Bool.false_eq_true, Option.map_some, wipeE, ↓u_callM2, asRet_d, asRet_fr, asRet_nx, asRetM_d, asRetM_nx, ↓u_liftE (isi_int _), ↓u_liftE (isi_bool _), ↓u_liftE (isi_tuple _), ↓u_liftE (isi_str _), ↓u_liftE (isi_list _), List.length_map, Nat.reduceLeDiff]
        rw [if_pos (by omega)]
        refine run_filter _ (fun _ => false) (fun x => x) rfl (fun x hx => ?_) ?_
        · obtain ⟨l, hl, rfl⟩ := List.mem_map.mp hx
          have hc := so_ch m m1 m4 l hl
          have C := chL_ok m m1 m4 l hc
          obtain ⟨g1, g2, g3⟩ := gF_ok hn hc
          have e1 : F__law_halves [tabD rs, natT l, rowD (gF rs w l)] = some (.ret (.d (.bool (hvB rs w l (gF rs w l))))) := v_hv T C g2
          rw [g3] at e1
          unfold prD
          simp only [↓u_callFE e1, ↓l_addI, ↓l_subI, ↓l_ltI, ↓l_leI, ↓l_gtI, ↓l_geI, ↓l_eqI, ↓l_neI, ↓l_negI, ↓l_notB, ↓l_lenT, ↓l_lenL, ↓l_tupL, ↓l_tupT, ↓l_lstL, ↓l_lstT, ↓l_at20, ↓l_at21, ↓l_seqL, ↓l_seqT, ↓l_isN, ↓u_bTup, ↓u_bAll0, ↓u_bAll1, ↓u_eSl, ↓u_partN, ↓u_partS, ↓u_eC, ↓u_eBin, ↓u_eUn, ↓u_aNil, ↓u_aCons, ↓u_peeks0, ↓u_peeks1, ↓u_freezes0, ↓u_freezes1, ↓u_eTup, ↓u_eLst, ↓u_eCall, ↓u_eFn, ↓u_cV, ↓u_cAnd, ↓u_cOr, ↓u_cNot, ↓u_cYes, ↓u_eIf, ↓u_eAnd, ↓u_eOr, ↓u_sSet, ↓u_sSeq, ↓u_sNx, ↓u_sIf, ↓u_sExpr, ↓u_sRet, ↓u_iSeq, ↓u_iRng, ↓u_iZips, ↓u_sFor, ↓u_eLc, ↓u_eMut, ↓u_eExt, ↓u_eFnM, ↓u_sSets, ↓u_stores0, ↓u_stores1, ↓u_sAsg, ↓u_bSub, ↓run_peek, ↓run_freeze, ↓run_var, ↓run_store, ↓run_bName, ↓run_isOwn, ↓run_extM, ↓run_bnd, ↓run_ret, ↓reduceIte, List.map_cons, List.map_nil, List.replicate, List.cons_append, List.nil_append, List.append_nil, List.getElem?_cons_zero, List.getElem?_cons_succ, List.set_cons_zero, List.set_cons_succ, List.length_cons, List.length_nil, Nat.zero_add, Nat.reduceAdd, Bool.not_true, Bool.not_false, Bool.false_eq_true, Option.map_some, wipeE, ↓u_callM2, asRet_d, asRet_fr, asRet_nx, asRetM_d, asRetM_nx, ↓u_liftE (isi_int _), ↓u_liftE (isi_bool _), ↓u_liftE (isi_tuple _), ↓u_liftE (isi_str _), ↓u_liftE (isi_list _)]
          exact ⟨trivial, fun h => h.elim, fun _ => trivial⟩
        · rw [f_none, List.map_nil]
          simp only [↓u_liftE ne_ee, ↓l_addI, ↓l_subI, ↓l_ltI, ↓l_leI, ↓l_gtI, ↓l_geI, ↓l_eqI, ↓l_neI, ↓l_negI, ↓l_notB, ↓l_lenT, ↓l_lenL, ↓l_tupL, ↓l_tupT, ↓l_lstL, ↓l_lstT, ↓l_at20, ↓l_at21, ↓l_seqL, ↓l_seqT, ↓l_isN, ↓u_bTup, ↓u_bAll0, ↓u_bAll1, ↓u_eSl, ↓u_partN, ↓u_partS, ↓u_eC, ↓u_eBin, ↓u_eUn, ↓u_aNil, ↓u_aCons, ↓u_peeks0, ↓u_peeks1, ↓u_freezes0, ↓u_freezes1, ↓u_eTup, ↓u_eLst, ↓u_eCall, ↓u_eFn, ↓u_cV, ↓u_cAnd, ↓u_cOr, ↓u_cNot, ↓u_cYes, ↓u_eIf, ↓u_eAnd, ↓u_eOr, ↓u_sSet, ↓u_sSeq, ↓u_sNx, ↓u_sIf, ↓u_sExpr, ↓u_sRet, ↓u_iSeq, ↓u_iRng, ↓u_iZips, ↓u_sFor, ↓u_eLc, ↓u_eMut, ↓u_eExt, ↓u_eFnM, ↓u_sSets, ↓u_stores0, ↓u_stores1, ↓u_sAsg, ↓u_bSub, ↓run_peek, ↓run_freeze, ↓run_var, ↓run_store, ↓run_bName, ↓run_isOwn, ↓run_extM, ↓run_bnd, ↓run_ret, ↓reduceIte, List.map_cons, List.map_nil, List.replicate, List.cons_append, List.nil_append, List.append_nil, List.getElem?_cons_zero, List.getElem?_cons_succ, List.set_cons_zero, List.set_cons_succ, List.length_cons, List.length_nil, Nat.zero_add, Nat.reduceAdd, Bool.not_true, Bool.not_false, Bool.false_eq_true, Option.map_some, wipeE, ↓u_callM2, asRet_d, asRet_fr, asRet_nx, asRetM_d, asRetM_nx, ↓u_liftE (isi_int _), ↓u_liftE (isi_bool _), ↓u_liftE (isi_tuple _), ↓u_liftE (isi_str _), ↓u_liftE (isi_list _), Nat.zero_le]
          exact ⟨trivial, ⟨ys, _, _, _, _, _, _, _, _, p, hx, by rw [hN]; exact hx7, rfl⟩, by first | rfl | trivial⟩
    rcases hx7 with rfl | rfl
    all_goals rcases hx with rfl | rfl
    all_goals
      simp only [↓u_liftE en, ↓l_addI, ↓l_subI, ↓l_ltI, ↓l_leI, ↓l_gtI, ↓l_geI, ↓l_eqI, ↓l_neI, ↓l_negI, ↓l_notB, ↓l_lenT, ↓l_lenL, ↓l_tupL, ↓l_tupT, ↓l_lstL, ↓l_lstT, ↓l_at20, ↓l_at21, ↓l_seqL, ↓l_seqT, ↓l_isN, ↓u_bTup, ↓u_bAll0, ↓u_bAll1, ↓u_eSl, ↓u_partN, ↓u_partS, ↓u_eC, ↓u_eBin, ↓u_eUn, ↓u_aNil, ↓u_aCons, ↓u_peeks0, ↓u_peeks1, ↓u_freezes0, ↓u_freezes1, ↓u_eTup, ↓u_eLst, ↓u_eCall, ↓u_eFn, ↓u_cV, ↓u_cAnd, ↓u_cOr, ↓u_cNot, ↓u_cYes, ↓u_eIf, ↓u_eAnd, ↓u_eOr, ↓u_sSet, ↓u_sSeq, ↓u_sNx, ↓u_sIf, ↓u_sExpr, ↓u_sRet, ↓u_iSeq, ↓u_iRng, ↓u_iZips, ↓u_sFor, ↓u_eLc, ↓u_eMut, ↓u_eExt, ↓u_eFnM, ↓u_sSets, ↓u_stores0, ↓u_stores1, ↓u_sAsg, ↓u_bSub, ↓run_peek, ↓run_freeze, ↓run_var, ↓run_store, ↓run_bName, ↓run_isOwn, ↓run_extM, ↓run_bnd, ↓run_ret, ↓reduceIte, List.map_cons, List.map_nil, List.replicate, List.cons_append, List.nil_append, List.append_nil, List.getElem?_cons_zero, List.getElem?_cons_succ, List.set_cons_zero, List.set_cons_succ, List.length_cons, List.length_nil, Nat.zero_add, Nat.reduceAdd, Bool.not_true, Bool.not_false, Bool.false_eq_true, Option.map_some, wipeE, ↓u_callM2, asRet_d, asRet_fr, asRet_nx, asRetM_d, asRetM_nx, ↓u_liftE (isi_int _), ↓u_liftE (isi_bool _), ↓u_liftE (isi_tuple _), ↓u_liftE (isi_str _), ↓u_liftE (isi_list _), hv, List.isEmpty_nil, Nat.zero_le, ↓u_liftE ne_aa, List.length_map, List.map_nil, Nat.reduceLeDiff]
      rw [if_pos (by omega)]
      refine run_map _ pr1 rfl (fun o ho => ?_) ?_
      · obtain ⟨l, _, rfl⟩ := List.mem_map.mp ho
        unfold prD
        simp only [↓l_addI, ↓l_subI, ↓l_ltI, ↓l_leI, ↓l_gtI, ↓l_geI, ↓l_eqI, ↓l_neI, ↓l_negI, ↓l_notB, ↓l_lenT, ↓l_lenL, ↓l_tupL, ↓l_tupT, ↓l_lstL, ↓l_lstT, ↓l_at20, ↓l_at21, ↓l_seqL, ↓l_seqT, ↓l_isN, ↓u_bTup, ↓u_bAll0, ↓u_bAll1, ↓u_eSl, ↓u_partN, ↓u_partS, ↓u_eC, ↓u_eBin, ↓u_eUn, ↓u_aNil, ↓u_aCons, ↓u_peeks0, ↓u_peeks1, ↓u_freezes0, ↓u_freezes1, ↓u_eTup, ↓u_eLst, ↓u_eCall, ↓u_eFn, ↓u_cV, ↓u_cAnd, ↓u_cOr, ↓u_cNot, ↓u_cYes, ↓u_eIf, ↓u_eAnd, ↓u_eOr, ↓u_sSet, ↓u_sSeq, ↓u_sNx, ↓u_sIf, ↓u_sExpr, ↓u_sRet, ↓u_iSeq, ↓u_iRng, ↓u_iZips, ↓u_sFor, ↓u_eLc, ↓u_eMut, ↓u_eExt, ↓u_eFnM, ↓u_sSets, ↓u_stores0, ↓u_stores1, ↓u_sAsg, ↓u_bSub, ↓run_peek, ↓run_freeze, ↓run_var, ↓run_store, ↓run_bName, ↓run_isOwn, ↓run_extM, ↓run_bnd, ↓run_ret, ↓reduceIte, List.map_cons, List.map_nil, List.replicate, List.cons_append, List.nil_append, List.append_nil, List.getElem?_cons_zero, List.getElem?_cons_succ, List.set_cons_zero, List.set_cons_succ, List.length_cons, List.length_nil, Nat.zero_add, Nat.reduceAdd, Bool.not_true, Bool.not_false, Bool.false_eq_true, Option.map_some, wipeE, ↓u_callM2, asRet_d, asRet_fr, asRet_nx, asRetM_d, asRetM_nx, ↓u_liftE (isi_int _), ↓u_liftE (isi_bool _), ↓u_liftE (isi_tuple _), ↓u_liftE (isi_str _), ↓u_liftE (isi_list _), and_self, pr1]
      · have e1 : ((soL m).map fun l => prD (l, gF rs w l)).map pr1 = (soL m).map natT := by
          rw [List.map_map]
          rfl
        rw [e1]
        simp only [↓u_liftE es, ↓u_liftE e5, ↓l_addI, ↓l_subI, ↓l_ltI, ↓l_leI, ↓l_gtI, ↓l_geI, ↓l_eqI, ↓l_neI, ↓l_negI, ↓l_notB, ↓l_lenT, ↓l_lenL, ↓l_tupL, ↓l_tupT, ↓l_lstL, ↓l_lstT, ↓l_at20, ↓l_at21, ↓l_seqL, ↓l_seqT, ↓l_isN, ↓u_bTup, ↓u_bAll0, ↓u_bAll1, ↓u_eSl, ↓u_partN, ↓u_partS, ↓u_eC, ↓u_eBin, ↓u_eUn, ↓u_aNil, ↓u_aCons, ↓u_peeks0, ↓u_peeks1, ↓u_freezes0, ↓u_freezes1, ↓u_eTup, ↓u_eLst, ↓u_eCall, ↓u_eFn, ↓u_cV, ↓u_cAnd, ↓u_cOr, ↓u_cNot, ↓u_cYes, ↓u_eIf, ↓u_eAnd, ↓u_eOr, ↓u_sSet, ↓u_sSeq, ↓u_sNx, ↓u_sIf, ↓u_sExpr, ↓u_sRet, ↓u_iSeq, ↓u_iRng, ↓u_iZips, ↓u_sFor, ↓u_eLc, ↓u_eMut, ↓u_eExt, ↓u_eFnM, ↓u_sSets, ↓u_stores0, ↓u_stores1, ↓u_sAsg, ↓u_bSub, ↓run_peek, ↓run_freeze, ↓run_var, ↓run_store, ↓run_bName, ↓run_isOwn, ↓run_extM, ↓run_bnd, ↓run_ret, ↓reduceIte, List.map_cons, List.map_nil, List.replicate, List.cons_append, List.nil_append, List.append_nil, List.getElem?_cons_zero, List.getElem?_cons_succ, List.set_cons_zero, List.set_cons_succ, List.length_cons, List.length_nil, Nat.zero_add, Nat.reduceAdd, Bool.not_true, Bool.not_false, Bool.false_eq_true, Option.map_some, wipeE, ↓u_callM2, asRet_d, asRet_fr, asRet_nx, asRetM_d, asRetM_nx, ↓u_liftE (isi_int _), ↓u_liftE (isi_bool _), ↓u_liftE (isi_tuple _), ↓u_liftE (isi_str _), ↓u_liftE (isi_list _)]
        exact step _ _ (by first | exact .inl rfl | exact .inr rfl) (by first | exact .inl rfl | exact .inr rfl)
end
end L2.K72

namespace L2.K72
open PySem PySem.Spec PyProof.Rows L2.DL
section
variable {sc : PyData} {rs : List (List Int)} {m w : Nat}
theorem law_25 (T : Tb rs m w) {e : En} (h : SB sc rs m w e) : Run m_law_25 e fun fl e' => fl = .nx ∧ SB sc rs m w e' := by
  have e1 := v_halvings2 T
  have e2 := v_hold_halv T
  have start := h
  obtain ⟨ys, x2, x5, x6, x7, x9, x10, x11, x12, p, hx, hx7, rfl⟩ := h
  unfold m_law_25
  simp only [↓u_callFE e1, ↓u_eFnK, ↓l_addI, ↓l_subI, ↓l_ltI, ↓l_leI, ↓l_gtI, ↓l_geI, ↓l_eqI, ↓l_neI, ↓l_negI, ↓l_notB, ↓l_lenT, ↓l_lenL, ↓l_tupL, ↓l_tupT, ↓l_lstL, ↓l_lstT, ↓l_at20, ↓l_at21, ↓l_seqL, ↓l_seqT, ↓l_isN, ↓u_bTup, ↓u_bAll0, ↓u_bAll1, ↓u_eSl, ↓u_partN, ↓u_partS, ↓u_eC, ↓u_eBin, ↓u_eUn, ↓u_aNil, ↓u_aCons, ↓u_peeks0, ↓u_peeks1, ↓u_freezes0, ↓u_freezes1, ↓u_eTup, ↓u_eLst, ↓u_eCall, ↓u_eFn, ↓u_cV, ↓u_cAnd, ↓u_cOr, ↓u_cNot, ↓u_cYes, ↓u_eIf, ↓u_eAnd, ↓u_eOr, ↓u_sSet, ↓u_sSeq, ↓u_sNx, ↓u_sIf, ↓u_sExpr, ↓u_sRet, ↓u_iSeq, ↓u_iRng, ↓u_iZips, ↓u_sFor, ↓u_eLc, ↓u_eMut, ↓u_eExt, ↓u_eFnM, ↓u_sSets, ↓u_stores0, ↓u_stores1, ↓u_sAsg, ↓u_bSub, ↓run_peek, ↓run_freeze, ↓run_var, ↓run_store, ↓run_bName, ↓run_isOwn, ↓run_extM, ↓run_bnd, ↓run_ret, ↓reduceIte, List.map_cons, List.map_nil, List.replicate, List.cons_append, List.nil_append, List.append_nil, List.getElem?_cons_zero, List.getElem?_cons_succ, List.set_cons_zero, List.set_cons_succ, List.length_cons, List.length_nil, Nat.zero_add, Nat.reduceAdd, Bool.not_true, Bool.not_false, Bool.false_eq_true, Option.map_some, wipeE, ↓u_callM2, asRet_d, asRet_fr, asRet_nx, asRetM_d, asRetM_nx, ↓u_liftE (isi_int _), ↓u_liftE (isi_bool _), ↓u_liftE (isi_tuple _), ↓u_liftE (isi_str _), ↓u_liftE (isi_list _), g_halvings_0_table, Nat.reduceLeDiff]
  refine run_for _ (fun i e => SB sc rs m w e) start ?_ ?_
  · intro i x e hi h
    have hxx : x = halvV rs m w := by
      have := List.mem_of_getElem? hi
      simpa using this
    subst hxx
    simp only [↓run_bName]
    rw [u_sSeq]
    refine (law_22 T h).imp fun fl e1 ⟨hf, h, h9⟩ => ?_
    subst hf
    obtain ⟨ys, x2, x5, x6, x7, x9, x10, x11, x12, p, hx, hx7, rfl⟩ := h
    cases h9
    unfold m_law_24
    simp only [↓u_callFE e2, ↓u_liftE isnt_tt, ↓l_addI, ↓l_subI, ↓l_ltI, ↓l_leI, ↓l_gtI, ↓l_geI, ↓l_eqI, ↓l_neI, ↓l_negI, ↓l_notB, ↓l_lenT, ↓l_lenL, ↓l_tupL, ↓l_tupT, ↓l_lstL, ↓l_lstT, ↓l_at20, ↓l_at21, ↓l_seqL, ↓l_seqT, ↓l_isN, ↓u_bTup, ↓u_bAll0, ↓u_bAll1, ↓u_eSl, ↓u_partN, ↓u_partS, ↓u_eC, ↓u_eBin, ↓u_eUn, ↓u_aNil, ↓u_aCons, ↓u_peeks0, ↓u_peeks1, ↓u_freezes0, ↓u_freezes1, ↓u_eTup, ↓u_eLst, ↓u_eCall, ↓u_eFn, ↓u_cV, ↓u_cAnd, ↓u_cOr, ↓u_cNot, ↓u_cYes, ↓u_eIf, ↓u_eAnd, ↓u_eOr, ↓u_sSet, ↓u_sSeq, ↓u_sNx, ↓u_sIf, ↓u_sExpr, ↓u_sRet, ↓u_iSeq, ↓u_iRng, ↓u_iZips, ↓u_sFor, ↓u_eLc, ↓u_eMut, ↓u_eExt, ↓u_eFnM, ↓u_sSets, ↓u_stores0, ↓u_stores1, ↓u_sAsg, ↓u_bSub, ↓run_peek, ↓run_freeze, ↓run_var, ↓run_store, ↓run_bName, ↓run_isOwn, ↓run_extM, ↓run_bnd, ↓run_ret, ↓reduceIte, List.map_cons, List.map_nil, List.replicate, List.cons_append, List.nil_append, List.append_nil, List.getElem?_cons_zero, List.getElem?_cons_succ, List.set_cons_zero, List.set_cons_succ, List.length_cons, List.length_nil, Nat.zero_add, Nat.reduceAdd, Bool.not_true, Bool.not_false, Bool.false_eq_true, Option.map_some, wipeE, ↓u_callM2, asRet_d, asRet_fr, asRet_nx, asRetM_d, asRetM_nx, ↓u_liftE (isi_int _), ↓u_liftE (isi_bool _), ↓u_liftE (isi_tuple _), ↓u_liftE (isi_str _), ↓u_liftE (isi_list _)]
    exact ⟨ys, _, _, _, _, _, _, _, _, p, hx, hx7, rfl⟩
  · exact fun e h => ⟨rfl, h⟩
/-! ### the two clauses -/
theorem dot_col (l : List Nat) (ss : List Int) (j : Nat) : dotL l ss (colI rs j) = colS rs l ss j := by
  unfold dotL colS
  congr 1
  refine List.map_congr_left fun p _ => ?_
  have := ent_at rs p.1 j
  unfold at0 entR at this
  rw [this]
theorem good_far (l : List Nat) (ss : List Int) (j : Nat) : goodJ rs l ss j = !far (dotL l ss (colI rs j)) := by
  rw [dot_col]
  unfold goodJ absI far
  generalize colS rs l ss j = a
  rw [Bool.eq_iff_iff, decide_eq_true_eq, Bool.not_eq_true', Bool.or_eq_false_iff, decide_eq_false_iff_not, decide_eq_false_iff_not]
  split <;> omega
theorem none_iff {l : List Nat} : (fh rs w l).isNone = true ↔ NoHv rs w l := by
  unfold fh NoHv
  rw [Option.isNone_iff_eq_none, List.find?_eq_none]
  refine ⟨fun h ss hs => ?_, fun h ss hs => ?_⟩
  · have := h ss hs
    unfold hvB at this
    rw [List.all_eq_true] at this
    refine Classical.byContradiction fun z => this fun j hj => ?_
    rw [good_far]
    cases e : far (dotL l ss (colI rs j)) with
    | false => rfl
    | true => exact absurd ⟨j, List.mem_range.mp hj, e⟩ z
  · obtain ⟨j, hj, hf⟩ := h ss hs
    unfold hvB
    rw [List.all_eq_true]
    intro z
    have := z j (List.mem_range.mpr hj)
    rw [good_far, hf] at this
    cases this
theorem clauses2 (T : Tb rs m w) : (noneL rs m w = [] ↔ barL rs m w = none) ∧ ∀ q, barL rs m w = some q → ∃ l rest, noneL rs m w = l :: rest ∧ l.length ≤ q.1.length :=
  clauses T.len T.m1 T.m4 T.w1 T.w4 List.filter_sublist fun l hl => by
    unfold noneL
    rw [List.mem_filter, ← none_iff]
    exact ⟨fun h => h.2, fun h => ⟨hl, h⟩⟩
theorem ne_bb (b : Bool) : neF (.bool b) (.bool b) = some (.d (.bool false)) := by cases b <;> kernel_rfl
theorem law_27 (T : Tb rs m w) {e : En} (h : SB sc rs m w e) : Run m_law_27 e fun fl e' => fl = .nx ∧ SB sc rs m w e' := by
  obtain ⟨c1, c2⟩ := clauses2 T
  have start := h
  obtain ⟨ys, x2, x5, x6, x7, x9, x10, x11, x12, p, hx, hx7, rfl⟩ := h
  have en := eq_none (noneL rs m w)
  obtain ⟨N, hN⟩ : ∃ N, (noneL rs m w).map natT = N := ⟨_, rfl⟩
  rw [hN] at en hx7
  have en1 : isntF .none .none = some (.d (.bool false)) := rfl
  unfold m_law_27
  cases hb : barL rs m w with
  | none =>
    have hn := c1.mpr hb
    have hbd : barD rs m w = .none := by unfold barD; rw [hb]
    rw [hn] at en
    rcases hx7 with rfl | rfl
    all_goals
      simp only [↓u_liftE en, ↓u_liftE (ne_bb _), ↓u_liftE en1, ↓l_addI, ↓l_subI, ↓l_ltI, ↓l_leI, ↓l_gtI, ↓l_geI, ↓l_eqI, ↓l_neI, ↓l_negI, ↓l_notB, ↓l_lenT, ↓l_lenL, ↓l_tupL, ↓l_tupT, ↓l_lstL, ↓l_lstT, ↓l_at20, ↓l_at21, ↓l_seqL, ↓l_seqT, ↓l_isN, ↓u_bTup, ↓u_bAll0, ↓u_bAll1, ↓u_eSl, ↓u_partN, ↓u_partS, ↓u_eC, ↓u_eBin, ↓u_eUn, ↓u_aNil, ↓u_aCons, ↓u_peeks0, ↓u_peeks1, ↓u_freezes0, ↓u_freezes1, ↓u_eTup, ↓u_eLst, ↓u_eCall, ↓u_eFn, ↓u_cV, ↓u_cAnd, ↓u_cOr, ↓u_cNot, ↓u_cYes, ↓u_eIf, ↓u_eAnd, ↓u_eOr, ↓u_sSet, ↓u_sSeq, ↓u_sNx, ↓u_sIf, ↓u_sExpr, ↓u_sRet, ↓u_iSeq, ↓u_iRng, ↓u_iZips, ↓u_sFor, ↓u_eLc, ↓u_eMut, ↓u_eExt, ↓u_eFnM, ↓u_sSets, ↓u_stores0, ↓u_stores1, ↓u_sAsg, ↓u_bSub, ↓run_peek, ↓run_freeze, ↓run_var, ↓run_store, ↓run_bName, ↓run_isOwn, ↓run_extM, ↓run_bnd, ↓run_ret, ↓reduceIte, List.map_cons, List.map_nil, List.replicate, List.cons_append, List.nil_append, List.append_nil, List.getElem?_cons_zero, List.getElem?_cons_succ, List.set_cons_zero, List.set_cons_succ, List.length_cons, List.length_nil, Nat.zero_add, Nat.reduceAdd, Bool.not_true, Bool.not_false, Bool.false_eq_true, Option.map_some, wipeE, ↓u_callM2, asRet_d, asRet_fr, asRet_nx, asRetM_d, asRetM_nx, ↓u_liftE (isi_int _), ↓u_liftE (isi_bool _), ↓u_liftE (isi_tuple _), ↓u_liftE (isi_str _), ↓u_liftE (isi_list _), hbd, isNonD, List.isEmpty_nil, Nat.zero_le]
      refine ⟨trivial, ys, _, _, _, _, _, _, _, _, p, hx, ?_, by rw [hbd]⟩
      rw [hN]
      first | exact .inl rfl | exact .inr rfl
  | some q =>
    obtain ⟨l, r, hn, hle⟩ := c2 q hb
    have hbd : barD rs m w = .tuple [natT q.1, natT q.2, .int (detP rs q.1 q.2)] := by unfold barD; rw [hb]; rfl
    rw [hn] at en
    have ei : ixF (.list N) (.int 0) = some (.d (natT l)) := by
      rw [← hN, hn]
      show (atI ((l :: r).map natT) ((0 : Nat) : Int)).map Vl.d = _
      rw [at_nat _ 0 (by simp)]
      rfl
    have ej : ixF (.tuple [natT q.1, natT q.2, .int (detP rs q.1 q.2)]) (.int 0) = some (.d (natT q.1)) := rfl
    have en2 : isntF (.tuple [natT q.1, natT q.2, .int (detP rs q.1 q.2)]) .none = some (.d (.bool true)) := rfl
    have el : ∀ l : List Nat, lenF [natT l] = some (.d (.int (l.length : Int))) := fun l => by
      show some (Vl.d (.int (((l.map fun (i : Nat) => PyData.int (i : Int)).length : Nat) : Int))) = _
      rw [List.length_map]
    have eg : gtF (.int (l.length : Int)) (.int (q.1.length : Int)) = some (.d (.bool false)) := by
      show some (Vl.d (.bool (decide ((q.1.length : Int) < (l.length : Int))))) = _
      rw [decide_eq_false (by omega)]
    rcases hx7 with rfl | rfl
    all_goals
      simp only [↓u_liftE en, ↓u_liftE (ne_bb _), ↓u_liftE en2, ↓u_liftE ei, ↓u_liftE ej, ↓u_liftE (el _), ↓u_liftE eg, ↓l_addI, ↓l_subI, ↓l_ltI, ↓l_leI, ↓l_gtI, ↓l_geI, ↓l_eqI, ↓l_neI, ↓l_negI, ↓l_notB, ↓l_lenT, ↓l_lenL, ↓l_tupL, ↓l_tupT, ↓l_lstL, ↓l_lstT, ↓l_at20, ↓l_at21, ↓l_seqL, ↓l_seqT, ↓l_isN, ↓u_bTup, ↓u_bAll0, ↓u_bAll1, ↓u_eSl, ↓u_partN, ↓u_partS, ↓u_eC, ↓u_eBin, ↓u_eUn, ↓u_aNil, ↓u_aCons, ↓u_peeks0, ↓u_peeks1, ↓u_freezes0, ↓u_freezes1, ↓u_eTup, ↓u_eLst, ↓u_eCall, ↓u_eFn, ↓u_cV, ↓u_cAnd, ↓u_cOr, ↓u_cNot, ↓u_cYes, ↓u_eIf, ↓u_eAnd, ↓u_eOr, ↓u_sSet, ↓u_sSeq, ↓u_sNx, ↓u_sIf, ↓u_sExpr, ↓u_sRet, ↓u_iSeq, ↓u_iRng, ↓u_iZips, ↓u_sFor, ↓u_eLc, ↓u_eMut, ↓u_eExt, ↓u_eFnM, ↓u_sSets, ↓u_stores0, ↓u_stores1, ↓u_sAsg, ↓u_bSub, ↓run_peek, ↓run_freeze, ↓run_var, ↓run_store, ↓run_bName, ↓run_isOwn, ↓run_extM, ↓run_bnd, ↓run_ret, ↓reduceIte, List.map_cons, List.map_nil, List.replicate, List.cons_append, List.nil_append, List.append_nil, List.getElem?_cons_zero, List.getElem?_cons_succ, List.set_cons_zero, List.set_cons_succ, List.length_cons, List.length_nil, Nat.zero_add, Nat.reduceAdd, Bool.not_true, Bool.not_false, Bool.false_eq_true, Option.map_some, wipeE, ↓u_callM2, asRet_d, asRet_fr, asRet_nx, asRetM_d, asRetM_nx, ↓u_liftE (isi_int _), ↓u_liftE (isi_bool _), ↓u_liftE (isi_tuple _), ↓u_liftE (isi_str _), ↓u_liftE (isi_list _), hbd, isNonD, List.isEmpty_cons, Nat.zero_le]
      refine ⟨trivial, ys, _, _, _, _, _, _, _, _, p, hx, ?_, by rw [hbd]⟩
      rw [hN]
      first | exact .inl rfl | exact .inr rfl
end
end L2.K72

namespace L2.K72
open PySem PySem.Spec PyProof.Rows L2.DL
section
variable {sc : PyData} {rs : List (List Int)} {m w : Nat}
def SD (sc : PyData) (rs : List (List Int)) (m : Nat) (d : PyData) (e : En) : Prop := ∃ (ys : List PyData) (x2 x5 x6 x7 x8 x9 x11 x12 : Md), Pl ys ∧ e = [.d sc, .own ys, x2, .d (tabD rs), .d (.str (tabD rs).shown), x5, x6, x7, x8, x9, .d d, x11, x12]
theorem pick9 (m r : Nat) (h : r < 9) : ∃ d ∈ badsL m, ixF (.list (badsL m)) (.int (r : Int)) = some (.d d) := by
  have hl : (badsL m).length = 9 := rfl
  refine ⟨(badsL m)[r], List.getElem_mem _, ?_⟩
  show (atI (badsL m) (r : Int)).map Vl.d = _
  rw [at_nat _ r (by omega), List.getElem?_eq_getElem (by omega)]
  rfl
theorem law_28 (T : Tb rs m w) {e : En} (h : SB sc rs m w e) : Run m_law_28 e fun fl e' => fl = .nx ∧ ∃ d ∈ badsL m, SD sc rs m d e' := by
  obtain ⟨ys, x2, x5, x6, x7, x9, x10, x11, x12, p, hx, hx7, rfl⟩ := h
  obtain ⟨r, hr, zs, p', q⟩ := v_take p 9 (by decide)
  have q' : F__law_take ys [.int 9] = some (.int (r : Int), zs) := q
  obtain ⟨d, hd, ed⟩ := pick9 m r hr
  have ed' : ixF (.list [.none, .tuple [], .tuple [.int 0, .int 0], .tuple [.int (m : Int)], .list [.int 0], .tuple [.bool true], .tuple [.int (-1)], .int 0, .str "0"]) (.int (r : Int)) = some (.d d) := ed
  have el := len_tab T
  unfold m_law_28
  simp only [↓u_liftE el, ↓m_E q', ↓u_liftE ed', ↓l_addI, ↓l_subI, ↓l_ltI, ↓l_leI, ↓l_gtI, ↓l_geI, ↓l_eqI, ↓l_neI, ↓l_negI, ↓l_notB, ↓l_lenT, ↓l_lenL, ↓l_tupL, ↓l_tupT, ↓l_lstL, ↓l_lstT, ↓l_at20, ↓l_at21, ↓l_seqL, ↓l_seqT, ↓l_isN, ↓u_bTup, ↓u_bAll0, ↓u_bAll1, ↓u_eSl, ↓u_partN, ↓u_partS, ↓u_eC, ↓u_eBin, ↓u_eUn, ↓u_aNil, ↓u_aCons, ↓u_peeks0, ↓u_peeks1, ↓u_freezes0, ↓u_freezes1, ↓u_eTup, ↓u_eLst, ↓u_eCall, ↓u_eFn, ↓u_cV, ↓u_cAnd, ↓u_cOr, ↓u_cNot, ↓u_cYes, ↓u_eIf, ↓u_eAnd, ↓u_eOr, ↓u_sSet, ↓u_sSeq, ↓u_sNx, ↓u_sIf, ↓u_sExpr, ↓u_sRet, ↓u_iSeq, ↓u_iRng, ↓u_iZips, ↓u_sFor, ↓u_eLc, ↓u_eMut, ↓u_eExt, ↓u_eFnM, ↓u_sSets, ↓u_stores0, ↓u_stores1, ↓u_sAsg, ↓u_bSub, ↓run_peek, ↓run_freeze, ↓run_var, ↓run_store, ↓run_bName, ↓run_isOwn, ↓run_extM, ↓run_bnd, ↓run_ret, ↓reduceIte, List.map_cons, List.map_nil, List.replicate, List.cons_append, List.nil_append, List.append_nil, List.getElem?_cons_zero, List.getElem?_cons_succ, List.set_cons_zero, List.set_cons_succ, List.length_cons, List.length_nil, Nat.zero_add, Nat.reduceAdd, Bool.not_true, Bool.not_false, Bool.false_eq_true, Option.map_some, wipeE, ↓u_callM2, asRet_d, asRet_fr, asRet_nx, asRetM_d, asRetM_nx, ↓u_liftE (isi_int _), ↓u_liftE (isi_bool _), ↓u_liftE (isi_tuple _), ↓u_liftE (isi_str _), ↓u_liftE (isi_list _), Nat.reduceLeDiff, Nat.zero_le]
  exact ⟨trivial, d, hd, zs, _, _, _, _, _, _, _, _, p', rfl⟩
theorem bads_ok : ∀ m ∈ [1, 2, 3, 4], ∀ d ∈ badsL m, okRepr d = true ∧ SeqAt.shaped (.tuple [.bool true, .str d.shown]) = true ∧ PyData.eqv (.tuple [.bool true, .str d.shown]) (.tuple [.bool true, .str d.shown]) = true := by decide +kernel
def LT (sc : PyData) (e : En) : Prop := ∃ (ys : List PyData) (x2 x3 x4 x5 x6 x7 x8 x9 x10 x11 x12 : Md), Pl ys ∧ e = [.d sc, .own ys, x2, x3, x4, x5, x6, x7, x8, x9, x10, x11, x12]
theorem law_30 (T : Tb rs m w) {d : PyData} (hd : d ∈ badsL m) {e : En} (h : SD sc rs m d e) : Run m_law_30 e fun fl e' => fl = .nx ∧ LT sc e' := by
  obtain ⟨ys, x2, x5, x6, x7, x8, x9, x11, x12, p, rfl⟩ := h
  obtain ⟨b1, b2, b3⟩ := bads_ok m (in14 T.m1 T.m4) d hd
  have e1 := v_caught T hd b1
  have e2 : reprF [d] = some (.d (.str d.shown)) := by
    show (if okRepr d then some (Vl.d (.str d.shown)) else none) = _
    rw [b1]
    rfl
  have e3 : neF (.tuple [.bool true, .str d.shown]) (.tuple [.bool true, .str d.shown]) = some (.d (.bool false)) := by
    rw [neF, b2, b3]
    rfl
  have e4 := v_repr (okW_tab T) (by omega)
  have e5 := ne_same (okW_tab T)
  unfold m_law_30
  simp only [↓u_callFE e1, ↓u_liftE e2, ↓u_liftE e3, ↓u_liftE e4, ↓u_liftE e5, ↓l_addI, ↓l_subI, ↓l_ltI, ↓l_leI, ↓l_gtI, ↓l_geI, ↓l_eqI, ↓l_neI, ↓l_negI, ↓l_notB, ↓l_lenT, ↓l_lenL, ↓l_tupL, ↓l_tupT, ↓l_lstL, ↓l_lstT, ↓l_at20, ↓l_at21, ↓l_seqL, ↓l_seqT, ↓l_isN, ↓u_bTup, ↓u_bAll0, ↓u_bAll1, ↓u_eSl, ↓u_partN, ↓u_partS, ↓u_eC, ↓u_eBin, ↓u_eUn, ↓u_aNil, ↓u_aCons, ↓u_peeks0, ↓u_peeks1, ↓u_freezes0, ↓u_freezes1, ↓u_eTup, ↓u_eLst, ↓u_eCall, ↓u_eFn, ↓u_cV, ↓u_cAnd, ↓u_cOr, ↓u_cNot, ↓u_cYes, ↓u_eIf, ↓u_eAnd, ↓u_eOr, ↓u_sSet, ↓u_sSeq, ↓u_sNx, ↓u_sIf, ↓u_sExpr, ↓u_sRet, ↓u_iSeq, ↓u_iRng, ↓u_iZips, ↓u_sFor, ↓u_eLc, ↓u_eMut, ↓u_eExt, ↓u_eFnM, ↓u_sSets, ↓u_stores0, ↓u_stores1, ↓u_sAsg, ↓u_bSub, ↓run_peek, ↓run_freeze, ↓run_var, ↓run_store, ↓run_bName, ↓run_isOwn, ↓run_extM, ↓run_bnd, ↓run_ret, ↓reduceIte, List.map_cons, List.map_nil, List.replicate, List.cons_append, List.nil_append, List.append_nil, List.getElem?_cons_zero, List.getElem?_cons_succ, List.set_cons_zero, List.set_cons_succ, List.length_cons, List.length_nil, Nat.zero_add, Nat.reduceAdd, Bool.not_true, Bool.not_false, Bool.false_eq_true, Option.map_some, wipeE, ↓u_callM2, asRet_d, asRet_fr, asRet_nx, asRetM_d, asRetM_nx, ↓u_liftE (isi_int _), ↓u_liftE (isi_bool _), ↓u_liftE (isi_tuple _), ↓u_liftE (isi_str _), ↓u_liftE (isi_list _), Nat.reduceLeDiff]
  exact ⟨trivial, ys, _, _, _, _, _, _, _, _, _, _, _, p, rfl⟩
theorem rng_lit4 : rng1 [.int 4] = some ((List.range 4).map fun (i : Nat) => PyData.int (i : Int)) := rng_nat 4 (by omega)
theorem law_turn {e : En} (h : LT sc e) (i : Int) : Run (sSeq m_law_2 (sSeq m_law_3 (sSeq m_law_7 (sSeq m_law_9 (sSeq m_law_10 (sSeq m_law_25 (sSeq m_law_27 (sSeq m_law_28 m_law_30)))))))) (e.set 2 (.d (.int i))) fun fl e' => fl = .nx ∧ LT sc e' := by
  obtain ⟨ys, x2, x3, x4, x5, x6, x7, x8, x9, x10, x11, x12, p, rfl⟩ := h
  obtain ⟨zs, rs, m, w, p', T, q⟩ := v_table p
  have e1 := v_law_choices m T.m1 T.m4
  have el := len_tab T
  have e4 := v_repr (okW_tab T) (by omega)
  have first : Run (sSeq m_law_2 m_law_3) [.d sc, .own ys, .d (.int i), x3, x4, x5, x6, x7, x8, x9, x10, x11, x12] fun fl e' => fl = .nx ∧ ST sc rs m e' := by
    unfold m_law_2 m_law_3
    simp only [↓m_E q, ↓u_liftE el, ↓u_callFE e1, ↓u_liftE e4, ↓l_addI, ↓l_subI, ↓l_ltI, ↓l_leI, ↓l_gtI, ↓l_geI, ↓l_eqI, ↓l_neI, ↓l_negI, ↓l_notB, ↓l_lenT, ↓l_lenL, ↓l_tupL, ↓l_tupT, ↓l_lstL, ↓l_lstT, ↓l_at20, ↓l_at21, ↓l_seqL, ↓l_seqT, ↓l_isN, ↓u_bTup, ↓u_bAll0, ↓u_bAll1, ↓u_eSl, ↓u_partN, ↓u_partS, ↓u_eC, ↓u_eBin, ↓u_eUn, ↓u_aNil, ↓u_aCons, ↓u_peeks0, ↓u_peeks1, ↓u_freezes0, ↓u_freezes1, ↓u_eTup, ↓u_eLst, ↓u_eCall, ↓u_eFn, ↓u_cV, ↓u_cAnd, ↓u_cOr, ↓u_cNot, ↓u_cYes, ↓u_eIf, ↓u_eAnd, ↓u_eOr, ↓u_sSet, ↓u_sSeq, ↓u_sNx, ↓u_sIf, ↓u_sExpr, ↓u_sRet, ↓u_iSeq, ↓u_iRng, ↓u_iZips, ↓u_sFor, ↓u_eLc, ↓u_eMut, ↓u_eExt, ↓u_eFnM, ↓u_sSets, ↓u_stores0, ↓u_stores1, ↓u_sAsg, ↓u_bSub, ↓run_peek, ↓run_freeze, ↓run_var, ↓run_store, ↓run_bName, ↓run_isOwn, ↓run_extM, ↓run_bnd, ↓run_ret, ↓reduceIte, List.map_cons, List.map_nil, List.replicate, List.cons_append, List.nil_append, List.append_nil, List.getElem?_cons_zero, List.getElem?_cons_succ, List.set_cons_zero, List.set_cons_succ, List.length_cons, List.length_nil, Nat.zero_add, Nat.reduceAdd, Bool.not_true, Bool.not_false, Bool.false_eq_true, Option.map_some, wipeE, ↓u_callM2, asRet_d, asRet_fr, asRet_nx, asRetM_d, asRetM_nx, ↓u_liftE (isi_int _), ↓u_liftE (isi_bool _), ↓u_liftE (isi_tuple _), ↓u_liftE (isi_str _), ↓u_liftE (isi_list _), Nat.zero_le]
    exact ⟨trivial, zs, _, _, _, _, _, _, _, _, _, p', .inl rfl, rfl⟩
  simp only [List.set_cons_succ, List.set_cons_zero]
  rw [u_sSeq] at first ⊢
  refine Run.imp first fun fl e1 h => ?_
  cases fl with
  | nx =>
    simp only [u_sSeq]
    refine Run.imp h fun fl e1 ⟨hf, h⟩ => ?_
    subst hf
    refine (law_7 T h).imp fun fl e1 ⟨hf, h⟩ => ?_
    subst hf
    refine (law_9 T h).imp fun fl e1 ⟨hf, h⟩ => ?_
    subst hf
    refine (law_10 T h).imp fun fl e1 ⟨hf, h⟩ => ?_
    subst hf
    refine (law_25 T h).imp fun fl e1 ⟨hf, h⟩ => ?_
    subst hf
    refine (law_27 T h).imp fun fl e1 ⟨hf, h⟩ => ?_
    subst hf
    refine (law_28 T h).imp fun fl e1 ⟨hf, d, hd, h⟩ => ?_
    subst hf
    exact law_30 T hd h
  | _ => cases h.1
end
theorem law_true (ns : List Int) (hn : ns.length ≤ 63) : F_law [.list (ns.map PyData.int)] = some (.ret (.d (.bool true))) := by
  obtain ⟨xs, p, e1⟩ := v_pool ns hn
  refine runP_ok ?_
  unfold m_law m_law_1 m_law_31
  simp only [↓u_callFE e1, ↓u_liftE rng_lit4, ↓l_addI, ↓l_subI, ↓l_ltI, ↓l_leI, ↓l_gtI, ↓l_geI, ↓l_eqI, ↓l_neI, ↓l_negI, ↓l_notB, ↓l_lenT, ↓l_lenL, ↓l_tupL, ↓l_tupT, ↓l_lstL, ↓l_lstT, ↓l_at20, ↓l_at21, ↓l_seqL, ↓l_seqT, ↓l_isN, ↓u_bTup, ↓u_bAll0, ↓u_bAll1, ↓u_eSl, ↓u_partN, ↓u_partS, ↓u_eC, ↓u_eBin, ↓u_eUn, ↓u_aNil, ↓u_aCons, ↓u_peeks0, ↓u_peeks1, ↓u_freezes0, ↓u_freezes1, ↓u_eTup, ↓u_eLst, ↓u_eCall, ↓u_eFn, ↓u_cV, ↓u_cAnd, ↓u_cOr, ↓u_cNot, ↓u_cYes, ↓u_eIf, ↓u_eAnd, ↓u_eOr, ↓u_sSet, ↓u_sSeq, ↓u_sNx, ↓u_sIf, ↓u_sExpr, ↓u_sRet, ↓u_iSeq, ↓u_iRng, ↓u_iZips, ↓u_sFor, ↓u_eLc, ↓u_eMut, ↓u_eExt, ↓u_eFnM, ↓u_sSets, ↓u_stores0, ↓u_stores1, ↓u_sAsg, ↓u_bSub, ↓run_peek, ↓run_freeze, ↓run_var, ↓run_store, ↓run_bName, ↓run_isOwn, ↓run_extM, ↓run_bnd, ↓run_ret, ↓reduceIte, List.map_cons, List.map_nil, List.replicate, List.cons_append, List.nil_append, List.append_nil, List.getElem?_cons_zero, List.getElem?_cons_succ, List.set_cons_zero, List.set_cons_succ, List.length_cons, List.length_nil, Nat.zero_add, Nat.reduceAdd, Bool.not_true, Bool.not_false, Bool.false_eq_true, Option.map_some, wipeE, ↓u_callM2, asRet_d, asRet_fr, asRet_nx, asRetM_d, asRetM_nx, ↓u_liftE (isi_int _), ↓u_liftE (isi_bool _), ↓u_liftE (isi_tuple _), ↓u_liftE (isi_str _), ↓u_liftE (isi_list _)]
  refine run_for _ (fun i e => LT (.list (ns.map PyData.int)) e) ⟨xs, _, _, _, _, _, _, _, _, _, _, _, p, rfl⟩ ?_ ?_
  · intro i x e hi h
    obtain ⟨j, _, rfl⟩ := List.mem_map.mp (List.mem_of_getElem? hi)
    simp only [↓run_bName]
    refine (law_turn h (j : Int)).imp fun fl e1 ⟨hf, h⟩ => ?_
    subst hf
    exact h
  · intro e h
    unfold m_law_32
    simp only [↓l_addI, ↓l_subI, ↓l_ltI, ↓l_leI, ↓l_gtI, ↓l_geI, ↓l_eqI, ↓l_neI, ↓l_negI, ↓l_notB, ↓l_lenT, ↓l_lenL, ↓l_tupL, ↓l_tupT, ↓l_lstL, ↓l_lstT, ↓l_at20, ↓l_at21, ↓l_seqL, ↓l_seqT, ↓l_isN, ↓u_bTup, ↓u_bAll0, ↓u_bAll1, ↓u_eSl, ↓u_partN, ↓u_partS, ↓u_eC, ↓u_eBin, ↓u_eUn, ↓u_aNil, ↓u_aCons, ↓u_peeks0, ↓u_peeks1, ↓u_freezes0, ↓u_freezes1, ↓u_eTup, ↓u_eLst, ↓u_eCall, ↓u_eFn, ↓u_cV, ↓u_cAnd, ↓u_cOr, ↓u_cNot, ↓u_cYes, ↓u_eIf, ↓u_eAnd, ↓u_eOr, ↓u_sSet, ↓u_sSeq, ↓u_sNx, ↓u_sIf, ↓u_sExpr, ↓u_sRet, ↓u_iSeq, ↓u_iRng, ↓u_iZips, ↓u_sFor, ↓u_eLc, ↓u_eMut, ↓u_eExt, ↓u_eFnM, ↓u_sSets, ↓u_stores0, ↓u_stores1, ↓u_sAsg, ↓u_bSub, ↓run_peek, ↓run_freeze, ↓run_var, ↓run_store, ↓run_bName, ↓run_isOwn, ↓run_extM, ↓run_bnd, ↓run_ret, ↓reduceIte, List.map_cons, List.map_nil, List.replicate, List.cons_append, List.nil_append, List.append_nil, List.getElem?_cons_zero, List.getElem?_cons_succ, List.set_cons_zero, List.set_cons_succ, List.length_cons, List.length_nil, Nat.zero_add, Nat.reduceAdd, Bool.not_true, Bool.not_false, Bool.false_eq_true, Option.map_some, wipeE, ↓u_callM2, asRet_d, asRet_fr, asRet_nx, asRetM_d, asRetM_nx, ↓u_liftE (isi_int _), ↓u_liftE (isi_bool _), ↓u_liftE (isi_tuple _), ↓u_liftE (isi_str _), ↓u_liftE (isi_list _)]
end L2.K72

namespace L2.K72
open PySem PySem.Spec PyProof.Rows RZ L2.DL
theorem fun_one {K : PySem.W.Frag} {x qual : Str} {st : Stmt} {f : Addr} {fd fd' : FuncData} (h : Fun K x qual st f fd) (h' : Fun K x qual st f fd') : fd = fd' := by
  obtain ⟨_, _, _, _, _, _, _, _, _, _, l, _⟩ := h.ex
  obtain ⟨_, _, _, _, _, _, _, _, _, _, l', _⟩ := h'.ex
  cases l.symm.trans l'
  rfl
abbrev noX (K : PySem.W.Frag) : XCl := fun c C => c = "InvalidPart" ∧ PySem.W.nsIn K mainGlobals "InvalidPart" = some (some (.ref C))
theorem all_mk {P : Program} {w : World} {K : PySem.W.Frag} {h : Heap} {mg : Str → Option Value} {f0 f1 f2 f3 f4 f5 f6 f7 f8 f9 f10 f11 f12 f13 f14 f15 f16 f17 f18 f19 f20 f21 f22 f23 f24 f25 f26 f27 f28 f29 f30 f31 f32 fa : Addr} {od0 an0 od1 an1 od2 an2 od3 an3 od4 an4 od5 an5 od6 an6 od7 an7 od8 an8 od9 an9 od10 an10 od11 an11 od12 an12 od13 an13 od14 an14 od15 an15 od16 an16 od17 an17 od18 an18 od19 an19 od20 an20 od21 an21 od22 an22 od23 an23 od24 an24 od25 an25 od26 an26 od27 an27 od28 an28 od29 an29 od30 an30 od31 an31 od32 an32 : Option Addr} {sl0 sl1 sl2 sl3 sl4 sl5 sl6 sl7 sl8 sl9 sl10 sl11 sl12 sl13 sl14 sl15 sl16 sl17 sl18 sl19 sl20 sl21 sl22 sl23 sl24 sl25 sl26 sl27 sl28 sl29 sl30 sl31 sl32 : Array (Option Value)} {oc0 kV0 dc0 pm0 cd0 ct0 oc1 kV1 dc1 pm1 cd1 ct1 oc2 kV2 dc2 pm2 cd2 ct2 oc3 kV3 dc3 pm3 cd3 ct3 oc4 kV4 dc4 pm4 cd4 ct4 oc5 kV5 dc5 pm5 cd5 ct5 oc6 kV6 dc6 pm6 cd6 ct6 oc7 kV7 dc7 pm7 cd7 ct7 oc8 kV8 dc8 pm8 cd8 ct8 oc9 kV9 dc9 pm9 cd9 ct9 oc10 kV10 dc10 pm10 cd10 ct10 oc11 kV11 dc11 pm11 cd11 ct11 oc12 kV12 dc12 pm12 cd12 ct12 oc13 kV13 dc13 pm13 cd13 ct13 oc14 kV14 dc14 pm14 cd14 ct14 oc15 kV15 dc15 pm15 cd15 ct15 oc16 kV16 dc16 pm16 cd16 ct16 oc17 kV17 dc17 pm17 cd17 ct17 oc18 kV18 dc18 pm18 cd18 ct18 oc19 kV19 dc19 pm19 cd19 ct19 oc20 kV20 dc20 pm20 cd20 ct20 oc21 kV21 dc21 pm21 cd21 ct21 oc22 kV22 dc22 pm22 cd22 ct22 oc23 kV23 dc23 pm23 cd23 ct23 oc24 kV24 dc24 pm24 cd24 ct24 oc25 kV25 dc25 pm25 cd25 ct25 oc26 kV26 dc26 pm26 cd26 ct26 oc27 kV27 dc27 pm27 cd27 ct27 oc28 kV28 dc28 pm28 cd28 ct28 oc29 kV29 dc29 pm29 cd29 ct29 oc30 kV30 dc30 pm30 cd30 ct30 oc31 kV31 dc31 pm31 cd31 ct31 oc32 kV32 dc32 pm32 cd32 ct32 : Value} {CE CIP fI cc cda xN : Addr} {xnm xq : Str} {xbs xbm xsub : List Value} {xsn : List Str} {xab : Bool} {xcol : Option Bool} {xdd : Option Addr} {xk0 xk1 xk2 xk3 xk5 : Option Value} {yoc ydoc ypm yct : Value} {yod yan : Option Addr} {yosl : Array (Option Value)} {yp1 yp2 ya1 ya2 ya3 ya4 ya5 ya6 yq1 yq2 yq3 yq4 : Pos} {zccl : Value} {zcdd : Option Addr} {zvs : Array Value} {zccs : Array (Option Value)} {zfile : Str} {ztf : Tok} {wcl : Value} {wcld : Option Addr} {wcsl : Array (Option Value)} {ucd : ClassData} {t_MOST_ITEM t_MOST_SIDE : Tok} (X : K.In h) (G : h.Ns mainGlobals mg) (hfa : mg "law" = some (.ref fa))
    (a0 : PySem.W.nsIn K mainGlobals "is_integer" = some (some (.ref f0)))
    (l0 : K.lookup f0 = some ⟨oc0, od0, .func (PySem.W.fnOf "is_integer" "is_integer" (defArgs s_is_integer) (defBody s_is_integer) (defScope s_is_integer) .none kV0 dc0 pm0 an0 cd0 ct0), sl0⟩)
    (c0 : PySem.W.codeIn K cd0 "is_integer" = true)
    (k0 : PySem.W.keepIn K (.ref f0) = true)
    (a1 : PySem.W.nsIn K mainGlobals "is_between" = some (some (.ref f1)))
    (l1 : K.lookup f1 = some ⟨oc1, od1, .func (PySem.W.fnOf "is_between" "is_between" (defArgs s_is_between) (defBody s_is_between) (defScope s_is_between) .none kV1 dc1 pm1 an1 cd1 ct1), sl1⟩)
    (c1 : PySem.W.codeIn K cd1 "is_between" = true)
    (k1 : PySem.W.keepIn K (.ref f1) = true)
    (a2 : PySem.W.nsIn K mainGlobals "is_tuple" = some (some (.ref f2)))
    (l2 : K.lookup f2 = some ⟨oc2, od2, .func (PySem.W.fnOf "is_tuple" "is_tuple" (defArgs s_is_tuple) (defBody s_is_tuple) (defScope s_is_tuple) .none kV2 dc2 pm2 an2 cd2 ct2), sl2⟩)
    (c2 : PySem.W.codeIn K cd2 "is_tuple" = true)
    (k2 : PySem.W.keepIn K (.ref f2) = true)
    (a3 : PySem.W.nsIn K mainGlobals "is_word" = some (some (.ref f3)))
    (l3 : K.lookup f3 = some ⟨oc3, od3, .func (PySem.W.fnOf "is_word" "is_word" (defArgs s_is_word) (defBody s_is_word) (defScope s_is_word) .none kV3 dc3 pm3 an3 cd3 ct3), sl3⟩)
    (c3 : PySem.W.codeIn K cd3 "is_word" = true)
    (k3 : PySem.W.keepIn K (.ref f3) = true)
    (a4 : PySem.W.nsIn K mainGlobals "are_rising" = some (some (.ref f4)))
    (l4 : K.lookup f4 = some ⟨oc4, od4, .func (PySem.W.fnOf "are_rising" "are_rising" (defArgs s_are_rising) (defBody s_are_rising) (defScope s_are_rising) .none kV4 dc4 pm4 an4 cd4 ct4), sl4⟩)
    (c4 : PySem.W.codeIn K cd4 "are_rising" = true)
    (k4 : PySem.W.keepIn K (.ref f4) = true)
    (a5 : PySem.W.nsIn K mainGlobals "are_integers" = some (some (.ref f5)))
    (l5 : K.lookup f5 = some ⟨oc5, od5, .func (PySem.W.fnOf "are_integers" "are_integers" (defArgs s_are_integers) (defBody s_are_integers) (defScope s_are_integers) .none kV5 dc5 pm5 an5 cd5 ct5), sl5⟩)
    (c5 : PySem.W.codeIn K cd5 "are_integers" = true)
    (k5 : PySem.W.keepIn K (.ref f5) = true)
    (a6 : PySem.W.nsIn K mainGlobals "is_rising" = some (some (.ref f6)))
    (l6 : K.lookup f6 = some ⟨oc6, od6, .func (PySem.W.fnOf "is_rising" "is_rising" (defArgs s_is_rising) (defBody s_is_rising) (defScope s_is_rising) .none kV6 dc6 pm6 an6 cd6 ct6), sl6⟩)
    (c6 : PySem.W.codeIn K cd6 "is_rising" = true)
    (k6 : PySem.W.keepIn K (.ref f6) = true)
    (a7 : PySem.W.nsIn K mainGlobals "anew" = some (some (.ref f7)))
    (l7 : K.lookup f7 = some ⟨oc7, od7, .func (PySem.W.fnOf "anew" "anew" (defArgs s_anew) (defBody s_anew) (defScope s_anew) .none kV7 dc7 pm7 an7 cd7 ct7), sl7⟩)
    (c7 : PySem.W.codeIn K cd7 "anew" = true)
    (k7 : PySem.W.keepIn K (.ref f7) = true)
    (a8 : PySem.W.nsIn K mainGlobals "is_a_table" = some (some (.ref f8)))
    (l8 : K.lookup f8 = some ⟨oc8, od8, .func (PySem.W.fnOf "is_a_table" "is_a_table" (defArgs s_is_a_table) (defBody s_is_a_table) (defScope s_is_a_table) .none kV8 dc8 pm8 an8 cd8 ct8), sl8⟩)
    (c8 : PySem.W.codeIn K cd8 "is_a_table" = true)
    (k8 : PySem.W.keepIn K (.ref f8) = true)
    (a9 : PySem.W.nsIn K mainGlobals "need_table" = some (some (.ref f9)))
    (l9 : K.lookup f9 = some ⟨oc9, od9, .func (PySem.W.fnOf "need_table" "need_table" (defArgs s_need_table) (defBody s_need_table) (defScope s_need_table) .none kV9 dc9 pm9 an9 cd9 ct9), sl9⟩)
    (c9 : PySem.W.codeIn K cd9 "need_table" = true)
    (k9 : PySem.W.keepIn K (.ref f9) = true)
    (a10 : PySem.W.nsIn K mainGlobals "are_indexes" = some (some (.ref f10)))
    (l10 : K.lookup f10 = some ⟨oc10, od10, .func (PySem.W.fnOf "are_indexes" "are_indexes" (defArgs s_are_indexes) (defBody s_are_indexes) (defScope s_are_indexes) .none kV10 dc10 pm10 an10 cd10 ct10), sl10⟩)
    (c10 : PySem.W.codeIn K cd10 "are_indexes" = true)
    (k10 : PySem.W.keepIn K (.ref f10) = true)
    (a11 : PySem.W.nsIn K mainGlobals "halves" = some (some (.ref f11)))
    (l11 : K.lookup f11 = some ⟨oc11, od11, .func (PySem.W.fnOf "halves" "halves" (defArgs s_halves) (defBody s_halves) (defScope s_halves) .none kV11 dc11 pm11 an11 cd11 ct11), sl11⟩)
    (c11 : PySem.W.codeIn K cd11 "halves" = true)
    (k11 : PySem.W.keepIn K (.ref f11) = true)
    (a12 : PySem.W.nsIn K mainGlobals "sign_rows" = some (some (.ref f12)))
    (l12 : K.lookup f12 = some ⟨oc12, od12, .func (PySem.W.fnOf "sign_rows" "sign_rows" (defArgs s_sign_rows) (defBody s_sign_rows) (defScope s_sign_rows) .none kV12 dc12 pm12 an12 cd12 ct12), sl12⟩)
    (c12 : PySem.W.codeIn K cd12 "sign_rows" = true)
    (k12 : PySem.W.keepIn K (.ref f12) = true)
    (a13 : PySem.W.nsIn K mainGlobals "first_halving" = some (some (.ref f13)))
    (l13 : K.lookup f13 = some ⟨oc13, od13, .func (PySem.W.fnOf "first_halving" "first_halving" (defArgs s_first_halving) (defBody s_first_halving) (defScope s_first_halving) .none kV13 dc13 pm13 an13 cd13 ct13), sl13⟩)
    (c13 : PySem.W.codeIn K cd13 "first_halving" = true)
    (k13 : PySem.W.keepIn K (.ref f13) = true)
    (a14 : PySem.W.nsIn K mainGlobals "choices" = some (some (.ref f14)))
    (l14 : K.lookup f14 = some ⟨oc14, od14, .func (PySem.W.fnOf "choices" "choices" (defArgs s_choices) (defBody s_choices) (defScope s_choices) .none kV14 dc14 pm14 an14 cd14 ct14), sl14⟩)
    (c14 : PySem.W.codeIn K cd14 "choices" = true)
    (k14 : PySem.W.keepIn K (.ref f14) = true)
    (a15 : PySem.W.nsIn K mainGlobals "halving" = some (some (.ref f15)))
    (l15 : K.lookup f15 = some ⟨oc15, od15, .func (PySem.W.fnOf "halving" "halving" (defArgs s_halving) (defBody s_halving) (defScope s_halving) .none kV15 dc15 pm15 an15 cd15 ct15), sl15⟩)
    (c15 : PySem.W.codeIn K cd15 "halving" = true)
    (k15 : PySem.W.keepIn K (.ref f15) = true)
    (a16 : PySem.W.nsIn K mainGlobals "halvings" = some (some (.ref f16)))
    (l16 : K.lookup f16 = some ⟨oc16, od16, .func (PySem.W.fnOf "halvings" "halvings" (defArgs s_halvings) (defBody s_halvings) (defScope s_halvings) .none kV16 dc16 pm16 an16 cd16 ct16), sl16⟩)
    (c16 : PySem.W.codeIn K cd16 "halvings" = true)
    (k16 : PySem.W.keepIn K (.ref f16) = true)
    (a17 : PySem.W.nsIn K mainGlobals "is_halving" = some (some (.ref f17)))
    (l17 : K.lookup f17 = some ⟨oc17, od17, .func (PySem.W.fnOf "is_halving" "is_halving" (defArgs s_is_halving) (defBody s_is_halving) (defScope s_is_halving) .none kV17 dc17 pm17 an17 cd17 ct17), sl17⟩)
    (c17 : PySem.W.codeIn K cd17 "is_halving" = true)
    (k17 : PySem.W.keepIn K (.ref f17) = true)
    (a18 : PySem.W.nsIn K mainGlobals "halvings_hold" = some (some (.ref f18)))
    (l18 : K.lookup f18 = some ⟨oc18, od18, .func (PySem.W.fnOf "halvings_hold" "halvings_hold" (defArgs s_halvings_hold) (defBody s_halvings_hold) (defScope s_halvings_hold) .none kV18 dc18 pm18 an18 cd18 ct18), sl18⟩)
    (c18 : PySem.W.codeIn K cd18 "halvings_hold" = true)
    (k18 : PySem.W.keepIn K (.ref f18) = true)
    (a19 : PySem.W.nsIn K mainGlobals "_law_pool" = some (some (.ref f19)))
    (l19 : K.lookup f19 = some ⟨oc19, od19, .func (PySem.W.fnOf "_law_pool" "_law_pool" (defArgs s__law_pool) (defBody s__law_pool) (defScope s__law_pool) .none kV19 dc19 pm19 an19 cd19 ct19), sl19⟩)
    (c19 : PySem.W.codeIn K cd19 "_law_pool" = true)
    (k19 : PySem.W.keepIn K (.ref f19) = true)
    (a20 : PySem.W.nsIn K mainGlobals "_law_take" = some (some (.ref f20)))
    (l20 : K.lookup f20 = some ⟨oc20, od20, .func (PySem.W.fnOf "_law_take" "_law_take" (defArgs s__law_take) (defBody s__law_take) (defScope s__law_take) .none kV20 dc20 pm20 an20 cd20 ct20), sl20⟩)
    (c20 : PySem.W.codeIn K cd20 "_law_take" = true)
    (k20 : PySem.W.keepIn K (.ref f20) = true)
    (a21 : PySem.W.nsIn K mainGlobals "_law_table" = some (some (.ref f21)))
    (l21 : K.lookup f21 = some ⟨oc21, od21, .func (PySem.W.fnOf "_law_table" "_law_table" (defArgs s__law_table) (defBody s__law_table) (defScope s__law_table) .none kV21 dc21 pm21 an21 cd21 ct21), sl21⟩)
    (c21 : PySem.W.codeIn K cd21 "_law_table" = true)
    (k21 : PySem.W.keepIn K (.ref f21) = true)
    (a22 : PySem.W.nsIn K mainGlobals "_law_signed" = some (some (.ref f22)))
    (l22 : K.lookup f22 = some ⟨oc22, od22, .func (PySem.W.fnOf "_law_signed" "_law_signed" (defArgs s__law_signed) (defBody s__law_signed) (defScope s__law_signed) .none kV22 dc22 pm22 an22 cd22 ct22), sl22⟩)
    (c22 : PySem.W.codeIn K cd22 "_law_signed" = true)
    (k22 : PySem.W.keepIn K (.ref f22) = true)
    (a23 : PySem.W.nsIn K mainGlobals "_law_det" = some (some (.ref f23)))
    (l23 : K.lookup f23 = some ⟨oc23, od23, .func (PySem.W.fnOf "_law_det" "_law_det" (defArgs s__law_det) (defBody s__law_det) (defScope s__law_det) .none kV23 dc23 pm23 an23 cd23 ct23), sl23⟩)
    (c23 : PySem.W.codeIn K cd23 "_law_det" = true)
    (k23 : PySem.W.keepIn K (.ref f23) = true)
    (a24 : PySem.W.nsIn K mainGlobals "_law_lots" = some (some (.ref f24)))
    (l24 : K.lookup f24 = some ⟨oc24, od24, .func (PySem.W.fnOf "_law_lots" "_law_lots" (defArgs s__law_lots) (defBody s__law_lots) (defScope s__law_lots) .none kV24 dc24 pm24 an24 cd24 ct24), sl24⟩)
    (c24 : PySem.W.codeIn K cd24 "_law_lots" = true)
    (k24 : PySem.W.keepIn K (.ref f24) = true)
    (a25 : PySem.W.nsIn K mainGlobals "_law_part" = some (some (.ref f25)))
    (l25 : K.lookup f25 = some ⟨oc25, od25, .func (PySem.W.fnOf "_law_part" "_law_part" (defArgs s__law_part) (defBody s__law_part) (defScope s__law_part) .none kV25 dc25 pm25 an25 cd25 ct25), sl25⟩)
    (c25 : PySem.W.codeIn K cd25 "_law_part" = true)
    (k25 : PySem.W.keepIn K (.ref f25) = true)
    (a26 : PySem.W.nsIn K mainGlobals "_law_bar" = some (some (.ref f26)))
    (l26 : K.lookup f26 = some ⟨oc26, od26, .func (PySem.W.fnOf "_law_bar" "_law_bar" (defArgs s__law_bar) (defBody s__law_bar) (defScope s__law_bar) .none kV26 dc26 pm26 an26 cd26 ct26), sl26⟩)
    (c26 : PySem.W.codeIn K cd26 "_law_bar" = true)
    (k26 : PySem.W.keepIn K (.ref f26) = true)
    (a27 : PySem.W.nsIn K mainGlobals "_law_signs" = some (some (.ref f27)))
    (l27 : K.lookup f27 = some ⟨oc27, od27, .func (PySem.W.fnOf "_law_signs" "_law_signs" (defArgs s__law_signs) (defBody s__law_signs) (defScope s__law_signs) .none kV27 dc27 pm27 an27 cd27 ct27), sl27⟩)
    (c27 : PySem.W.codeIn K cd27 "_law_signs" = true)
    (k27 : PySem.W.keepIn K (.ref f27) = true)
    (a28 : PySem.W.nsIn K mainGlobals "_law_halves" = some (some (.ref f28)))
    (l28 : K.lookup f28 = some ⟨oc28, od28, .func (PySem.W.fnOf "_law_halves" "_law_halves" (defArgs s__law_halves) (defBody s__law_halves) (defScope s__law_halves) .none kV28 dc28 pm28 an28 cd28 ct28), sl28⟩)
    (c28 : PySem.W.codeIn K cd28 "_law_halves" = true)
    (k28 : PySem.W.keepIn K (.ref f28) = true)
    (a29 : PySem.W.nsIn K mainGlobals "_law_halving" = some (some (.ref f29)))
    (l29 : K.lookup f29 = some ⟨oc29, od29, .func (PySem.W.fnOf "_law_halving" "_law_halving" (defArgs s__law_halving) (defBody s__law_halving) (defScope s__law_halving) .none kV29 dc29 pm29 an29 cd29 ct29), sl29⟩)
    (c29 : PySem.W.codeIn K cd29 "_law_halving" = true)
    (k29 : PySem.W.keepIn K (.ref f29) = true)
    (a30 : PySem.W.nsIn K mainGlobals "_law_choices" = some (some (.ref f30)))
    (l30 : K.lookup f30 = some ⟨oc30, od30, .func (PySem.W.fnOf "_law_choices" "_law_choices" (defArgs s__law_choices) (defBody s__law_choices) (defScope s__law_choices) .none kV30 dc30 pm30 an30 cd30 ct30), sl30⟩)
    (c30 : PySem.W.codeIn K cd30 "_law_choices" = true)
    (k30 : PySem.W.keepIn K (.ref f30) = true)
    (a31 : PySem.W.nsIn K mainGlobals "_law_caught" = some (some (.ref f31)))
    (l31 : K.lookup f31 = some ⟨oc31, od31, .func (PySem.W.fnOf "_law_caught" "_law_caught" (defArgs s__law_caught) (defBody s__law_caught) (defScope s__law_caught) .none kV31 dc31 pm31 an31 cd31 ct31), sl31⟩)
    (c31 : PySem.W.codeIn K cd31 "_law_caught" = true)
    (k31 : PySem.W.keepIn K (.ref f31) = true)
    (a32 : PySem.W.nsIn K mainGlobals "law" = some (some (.ref f32)))
    (l32 : K.lookup f32 = some ⟨oc32, od32, .func (PySem.W.fnOf "law" "law" (defArgs s_law) (defBody s_law) (defScope s_law) .none kV32 dc32 pm32 an32 cd32 ct32), sl32⟩)
    (c32 : PySem.W.codeIn K cd32 "law" = true)
    (k32 : PySem.W.keepIn K (.ref f32) = true)
    (z_abs : PySem.W.nsIn K mainGlobals "abs" = some none)
    (z_all : PySem.W.nsIn K mainGlobals "all" = some none)
    (z_bool : PySem.W.nsIn K mainGlobals "bool" = some none)
    (z_enumerate : PySem.W.nsIn K mainGlobals "enumerate" = some none)
    (z_int : PySem.W.nsIn K mainGlobals "int" = some none)
    (z_isinstance : PySem.W.nsIn K mainGlobals "isinstance" = some none)
    (z_len : PySem.W.nsIn K mainGlobals "len" = some none)
    (z_list : PySem.W.nsIn K mainGlobals "list" = some none)
    (z_min : PySem.W.nsIn K mainGlobals "min" = some none)
    (z_range : PySem.W.nsIn K mainGlobals "range" = some none)
    (z_repr : PySem.W.nsIn K mainGlobals "repr" = some none)
    (z_sorted : PySem.W.nsIn K mainGlobals "sorted" = some none)
    (z_str : PySem.W.nsIn K mainGlobals "str" = some none)
    (z_sum : PySem.W.nsIn K mainGlobals "sum" = some none)
    (z_tuple : PySem.W.nsIn K mainGlobals "tuple" = some none)
    (z_zip : PySem.W.nsIn K mainGlobals "zip" = some none)
    (n_MOST_ITEM : PySem.W.nsIn K mainGlobals "MOST_ITEM" = some (some (.int 9 t_MOST_ITEM)))
    (n_MOST_SIDE : PySem.W.nsIn K mainGlobals "MOST_SIDE" = some (some (.int 6 t_MOST_SIDE)))
    (n_comb : PySem.W.nsIn K mainGlobals "combinations" = some (some (.type "itertools.combinations")))
    (x_ce : PySem.W.nsIn K mainGlobals "CutError" = some (some (.ref CE)))
    (x_ip : PySem.W.nsIn K mainGlobals "InvalidPart" = some (some (.ref CIP)))
    (x_cls : K.lookup CIP = some (excClassObj xnm xq CIP xN xbs xbm true xsn xsub xab xcol xdd xk0 xk1 xk2 xk3 xk5 "ValueError.__new__"))
    (x_bm : PySem.HandSPX.refsVE xbm = true)
    (x_sa : PySem.W.findIn K (.ref CIP) "__setattr__" = some (some (.builtin "object.__setattr__")))
    (x_no : PySem.W.findIn K (.ref CIP) "value" = some none)
    (x_ic : PySem.W.findIn K (.ref CIP) "__init__" = some (some (.ref fI)))
    (x_tc : PySem.W.typeIn K (.ref fI) = some (.type "function"))
    (x_fn : K.lookup fI = some ⟨yoc, yod, .func (PySem.W.fnX "__init__" ("CutError.__init__" : Str) (PySem.OwnX.iA yp1 yp2) (PySem.OwnX.iB ("cutswhole" : Str) ya1 ya2 ya3 ya4 ya5 ya6 yq1 yq2 yq3 yq4) PySem.OwnX.iS [("__class__", cc)] .none .none ydoc ypm yan (.ref cda) yct), yosl⟩)
    (x_cd : PySem.W.codeIn K (.ref cda) ("CutError.__init__" : Str) = true)
    (x_pos : (ya3.endLine == ya5.line) = true)
    (x_code : K.lookup cda = some ⟨zccl, zcdd, .fields zvs, zccs⟩)
    (x_vs : zvs[2]? = some (.str zfile ztf))
    (x_file : ((P.main.file : Str) == zfile) = true)
    (x_cell : K.lookup cc = some ⟨wcl, wcld, .cell (some (.ref CE)), wcsl⟩)
    (x_D : PySem.W.clsIn K CE = some ucd)
    (x_sub : PySem.W.mroIn K CIP (.ref CE) = some true)
    (x_top : (P.main.scope.names.lookup ("super" : Str)).isSome = false)
    (x_tp : PySem.W.nsIn K PySem.cStatics "thirdparty.any" = some none)
    (x_sup : PySem.W.ks_superIn K CIP CE "__init__" = some (some (.builtin "ValueError.__init__")))
    (x_ve : PySem.W.subIn K (.ref CIP) (.type "ValueError") = some true)
    (x_k : PySem.W.keepIn K (.ref CIP) = true)
    (x_ex : PySem.W.subIn K (.ref CIP) (.type "BaseException") = some true)
    (x_ty : PySem.W.typeIn K (.ref CIP) = some (.type "type"))
    (x_sm : PySem.W.nsIn K mainGlobals "super" = some none)
    (x_hg : PySem.W.findIn K (.ref CIP) "__getattribute__" = some (some (.builtin "BaseException.__getattribute__")))
    (x_hk : PySem.W.findIn K (.ref CIP) "__getattr__" = some none)
    (x_ha : PySem.W.findIn K (.ref CIP) "__class__" = some (some (.builtin "object.__class__")))
    (x_hn : PySem.W.specialIn K (.builtin "object.__class__") "__get__" = some (some (.builtin "getset_descriptor.__get__")))
    (x_ht : PySem.W.takesIn K (.builtin "object.__class__") = some true)
    (x_hm : PySem.W.mroIn K CIP (.type "object") = some true)
    (x_hd : PySem.W.hasDictIn K CIP = true)
    (x_e1 : PySem.W.subIn K (.ref CE) (.type "BaseException") = some true)
    (x_e2 : PySem.W.hasDictIn K CE = true)
    (x_e3 : PySem.W.typeIn K (.ref CE) = some (.type "type"))
    (x_e4 : PySem.W.subIn K (.ref CIP) (.ref CE) = some true)
    (x_kit : PySem.W.kitOne K (.ref CIP) (.ref CIP) = some true) :
    ∃ fd : FuncData, (∀ (s : Shared) (v : Value), BindsTo s fd ⟨[v], []⟩ [("script", v)]) ∧ ∀ base : Heap, K.In base → base.Ns mainGlobals mg → FnG P w K mg base (L2.CX P w) 7 fa fd ["script"] (spP K (noX K) 1 F_law) := by
  have e := hfa.symm.trans (PySem.W.mg_of X G a32)
  cases e
  have T : Bts mg := ⟨PySem.W.mg_none_of X G z_abs, PySem.W.mg_none_of X G z_all, PySem.W.mg_none_of X G z_bool, PySem.W.mg_none_of X G z_enumerate, PySem.W.mg_none_of X G z_int, PySem.W.mg_none_of X G z_isinstance, PySem.W.mg_none_of X G z_len, PySem.W.mg_none_of X G z_list, PySem.W.mg_none_of X G z_min, PySem.W.mg_none_of X G z_range, PySem.W.mg_none_of X G z_repr, PySem.W.mg_none_of X G z_sorted, PySem.W.mg_none_of X G z_str, PySem.W.mg_none_of X G z_sum, PySem.W.mg_none_of X G z_tuple, PySem.W.mg_none_of X G z_zip⟩
  have n0 := fun_mk (st := s_is_integer) l0 c0 k0
  have n1 := fun_mk (st := s_is_between) l1 c1 k1
  have n2 := fun_mk (st := s_is_tuple) l2 c2 k2
  have n3 := fun_mk (st := s_is_word) l3 c3 k3
  have n4 := fun_mk (st := s_are_rising) l4 c4 k4
  have n5 := fun_mk (st := s_are_integers) l5 c5 k5
  have n6 := fun_mk (st := s_is_rising) l6 c6 k6
  have n7 := fun_mk (st := s_anew) l7 c7 k7
  have n8 := fun_mk (st := s_is_a_table) l8 c8 k8
  have n9 := fun_mk (st := s_need_table) l9 c9 k9
  have n10 := fun_mk (st := s_are_indexes) l10 c10 k10
  have n11 := fun_mk (st := s_halves) l11 c11 k11
  have n12 := fun_mk (st := s_sign_rows) l12 c12 k12
  have n13 := fun_mk (st := s_first_halving) l13 c13 k13
  have n14 := fun_mk (st := s_choices) l14 c14 k14
  have n15 := fun_mk (st := s_halving) l15 c15 k15
  have n16 := fun_mk (st := s_halvings) l16 c16 k16
  have n17 := fun_mk (st := s_is_halving) l17 c17 k17
  have n18 := fun_mk (st := s_halvings_hold) l18 c18 k18
  have n19 := fun_mk (st := s__law_pool) l19 c19 k19
  have n20 := fun_mk (st := s__law_take) l20 c20 k20
  have n21 := fun_mk (st := s__law_table) l21 c21 k21
  have n22 := fun_mk (st := s__law_signed) l22 c22 k22
  have n23 := fun_mk (st := s__law_det) l23 c23 k23
  have n24 := fun_mk (st := s__law_lots) l24 c24 k24
  have n25 := fun_mk (st := s__law_part) l25 c25 k25
  have n26 := fun_mk (st := s__law_bar) l26 c26 k26
  have n27 := fun_mk (st := s__law_signs) l27 c27 k27
  have n28 := fun_mk (st := s__law_halves) l28 c28 k28
  have n29 := fun_mk (st := s__law_halving) l29 c29 k29
  have n30 := fun_mk (st := s__law_choices) l30 c30 k30
  have n31 := fun_mk (st := s__law_caught) l31 c31 k31
  have n32 := fun_mk (st := s_law) l32 c32 k32
  refine ⟨PySem.W.fnOf "law" "law" (defArgs s_law) (defBody s_law) (defScope s_law) .none kV32 dc32 pm32 an32 cd32 ct32, fun s v => .of_eq rfl, fun base _ _ => ?_⟩
  have hXP : ∀ c C, noX K c C → c = "InvalidPart" ∧ C = CIP := fun c C h => ⟨h.1, by have := x_ip.symm.trans h.2; cases this; rfl⟩
  have TX : PySem.OwnX.OwnTxt P K CIP CE fI cc cda "CutError.__init__" "cutswhole" := { cls := ⟨_, _, _, _, _, _, _, _, _, _, _, _, _, _, _, x_cls, x_bm⟩, sa := x_sa, noN := x_no, iC := x_ic, tC := x_tc, fn := ⟨_, _, _, _, _, _, _, _, _, _, _, _, _, _, _, _, _, _, _, x_fn, x_cd, x_pos⟩, code := ⟨_, _, _, _, _, _, x_code, x_vs, x_file⟩, cell := ⟨_, _, _, x_cell⟩, hD := ⟨_, x_D⟩, hsub := x_sub, htop := x_top, tp := x_tp, sup := x_sup, sVE := x_ve }
  have XI : ExCls P K mg "InvalidPart" CIP := ⟨PySem.W.mg_of X G x_ip, x_k, x_ex, x_ty, PySem.W.mg_none_of X G x_sm, ⟨_, _, _, _, _, _, TX⟩⟩
  have XK : ExcK K CIP := ⟨by rw [show PySem.W.clsIn K CIP = _ from by unfold PySem.W.clsIn; rw [x_cls] <;> rfl]; rfl, x_hg, x_hk, x_ex, x_ha, x_hn, x_ht, x_hm, x_hd, x_no⟩
  have hXC : ∀ c C, noX K c C → ExcK K C ∧ PySem.W.exmOne K (.ref C) (.ref CE) = some true := fun c C h => by
    obtain ⟨_, rfl⟩ := hXP c C h
    exact ⟨XK, PySem.W.exm_ref x_e1 x_e2 x_e3 x_e4⟩
  have C_is_integer : Cal_is_integer P w K mg base (noX K) := ok_is_integer T n0 (PySem.W.mg_of X G a0) 
  have C_is_between : Cal_is_between P w K mg base (noX K) := ok_is_between T n1 (PySem.W.mg_of X G a1) C_is_integer
  have C_is_tuple : Cal_is_tuple P w K mg base (noX K) := ok_is_tuple T n2 (PySem.W.mg_of X G a2) 
  have C_is_word : Cal_is_word P w K mg base (noX K) := ok_is_word T n3 (PySem.W.mg_of X G a3) 
  have C_are_rising : Cal_are_rising P w K mg base (noX K) := ok_are_rising T n4 (PySem.W.mg_of X G a4) 
  have C_are_integers : Cal_are_integers P w K mg base (noX K) := ok_are_integers T n5 (PySem.W.mg_of X G a5) C_is_integer
  have C_is_rising : Cal_is_rising P w K mg base (noX K) := ok_is_rising T n6 (PySem.W.mg_of X G a6) C_are_integers C_are_rising
  have C_anew : Cal_anew P w K mg base (noX K) := ok_anew T n7 (PySem.W.mg_of X G a7) 
  have C_is_a_table : Cal_is_a_table P w K mg base (noX K) := ok_is_a_table T n8 (PySem.W.mg_of X G a8) C_is_between C_is_tuple (PySem.W.mg_of X G n_MOST_ITEM) (PySem.W.mg_of X G n_MOST_SIDE)
  have C_need_table : Cal_need_table P w K mg base (noX K) := ok_need_table T n9 (PySem.W.mg_of X G a9) C_is_a_table
  have C_are_indexes : Cal_are_indexes P w K mg base (noX K) := ok_are_indexes T n10 (PySem.W.mg_of X G a10) C_is_between C_is_rising C_is_tuple
  have C_halves : Cal_halves P w K mg base (noX K) := ok_halves T n11 (PySem.W.mg_of X G a11) 
  have C_sign_rows : Cal_sign_rows P w K mg base (noX K) := ok_sign_rows T n12 (PySem.W.mg_of X G a12) 
  have C_first_halving : Cal_first_halving P w K mg base (noX K) := ok_first_halving T n13 (PySem.W.mg_of X G a13) C_halves C_sign_rows
  have C_choices : Cal_choices P w K mg base (noX K) := ok_choices T n14 (PySem.W.mg_of X G a14) (PySem.W.mg_of X G n_comb)
  have C_halving : Cal_halving P w K mg base (noX K) := ok_halving T n15 (PySem.W.mg_of X G a15) C_anew C_are_indexes C_first_halving C_need_table XI ⟨rfl, x_ip⟩
  have C_halvings : Cal_halvings P w K mg base (noX K) := ok_halvings T n16 (PySem.W.mg_of X G a16) C_choices C_first_halving C_need_table
  have C_is_halving : Cal_is_halving P w K mg base (noX K) := ok_is_halving T n17 (PySem.W.mg_of X G a17) C_halves C_is_between C_is_tuple
  have C_halvings_hold : Cal_halvings_hold P w K mg base (noX K) := ok_halvings_hold T n18 (PySem.W.mg_of X G a18) C_are_indexes C_choices C_first_halving C_is_halving C_is_tuple C_is_word C_need_table
  have C__law_pool : Cal__law_pool P w K mg base (noX K) := ok__law_pool T n19 (PySem.W.mg_of X G a19) 
  have C__law_take : Cal__law_take P w K mg base (noX K) := ok__law_take T n20 (PySem.W.mg_of X G a20) 
  have C__law_table : Cal__law_table P w K mg base (noX K) := ok__law_table T n21 (PySem.W.mg_of X G a21) C__law_take
  have C__law_signed : Cal__law_signed P w K mg base (noX K) := ok__law_signed T n22 (PySem.W.mg_of X G a22) 
  have C__law_det : Cal__law_det P w K mg base (noX K) := ok__law_det T n23 (PySem.W.mg_of X G a23) C__law_signed
  have C__law_lots : Cal__law_lots P w K mg base (noX K) := ok__law_lots T n24 (PySem.W.mg_of X G a24) 
  have C__law_part : Cal__law_part P w K mg base (noX K) := ok__law_part T n25 (PySem.W.mg_of X G a25) 
  have C__law_bar : Cal__law_bar P w K mg base (noX K) := ok__law_bar T n26 (PySem.W.mg_of X G a26) C__law_det C__law_lots C__law_part
  have C__law_signs : Cal__law_signs P w K mg base (noX K) := ok__law_signs T n27 (PySem.W.mg_of X G a27) 
  have C__law_halves : Cal__law_halves P w K mg base (noX K) := ok__law_halves T n28 (PySem.W.mg_of X G a28) 
  have C__law_halving : Cal__law_halving P w K mg base (noX K) := ok__law_halving T n29 (PySem.W.mg_of X G a29) C__law_halves C__law_signs
  have C__law_choices : Cal__law_choices P w K mg base (noX K) := ok__law_choices T n30 (PySem.W.mg_of X G a30) C__law_lots
  have C__law_caught : Cal__law_caught P w K mg base (noX K) := ok__law_caught T n31 (PySem.W.mg_of X G a31) (PySem.W.mg_of X G x_ce) (PySem.W.mg_of X G x_ip) hXC hXP x_kit C_halving
  have C_law : Cal_law P w K mg base (noX K) := ok_law T n32 (PySem.W.mg_of X G a32) C__law_bar C__law_caught C__law_choices C__law_halves C__law_halving C__law_pool C__law_signs C__law_table C__law_take C_halving C_halvings C_halvings_hold
  obtain ⟨f', fd', Ff, Gf, hm, _⟩ := C_law.ex
  cases hm.symm.trans (PySem.W.mg_of X G a32)
  cases fun_one Ff n32
  exact Gf
end L2.K72
open PySem PySem.W PyProof.Rows in
set_option maxRecDepth 100000 in
set_option maxHeartbeats 0 in
theorem PySem.Challenge.cw_cutswhole_k72_halvings_of_rows_holds : PySem.Challenge.rw_cutswhole_k72_halvings_of_rows.Holds := by
  w_on; o_law; k_head; (case hw => w_witness2)
  k_fill
  refine L2.DL.walkG (l := PySem.Challenge.rw_cutswhole_k72_halvings_of_rows) (n := 63) (k := 7) (x := "script") (XC := fun K => L2.K72.noX K) (F := L2.K72.F_law) rfl (by decide) rfl ⟨rfl, by decide, by decide⟩ (fun w h Y => PySem.W.kIn_of Y) ?F L2.K72.law_true
  case F =>
    intro w mg fa h KX G hmg
    refine' L2.K72.all_mk KX G hmg ?a0 ?l0 ?c0 ?k0 ?a1 ?l1 ?c1 ?k1 ?a2 ?l2 ?c2 ?k2 ?a3 ?l3 ?c3 ?k3 ?a4 ?l4 ?c4 ?k4 ?a5 ?l5 ?c5 ?k5 ?a6 ?l6 ?c6 ?k6 ?a7 ?l7 ?c7 ?k7 ?a8 ?l8 ?c8 ?k8 ?a9 ?l9 ?c9 ?k9 ?a10 ?l10 ?c10 ?k10 ?a11 ?l11 ?c11 ?k11 ?a12 ?l12 ?c12 ?k12 ?a13 ?l13 ?c13 ?k13 ?a14 ?l14 ?c14 ?k14 ?a15 ?l15 ?c15 ?k15 ?a16 ?l16 ?c16 ?k16 ?a17 ?l17 ?c17 ?k17 ?a18 ?l18 ?c18 ?k18 ?a19 ?l19 ?c19 ?k19 ?a20 ?l20 ?c20 ?k20 ?a21 ?l21 ?c21 ?k21 ?a22 ?l22 ?c22 ?k22 ?a23 ?l23 ?c23 ?k23 ?a24 ?l24 ?c24 ?k24 ?a25 ?l25 ?c25 ?k25 ?a26 ?l26 ?c26 ?k26 ?a27 ?l27 ?c27 ?k27 ?a28 ?l28 ?c28 ?k28 ?a29 ?l29 ?c29 ?k29 ?a30 ?l30 ?c30 ?k30 ?a31 ?l31 ?c31 ?k31 ?a32 ?l32 ?c32 ?k32 ?z_abs ?z_all ?z_bool ?z_enumerate ?z_int ?z_isinstance ?z_len ?z_list ?z_min ?z_range ?z_repr ?z_sorted ?z_str ?z_sum ?z_tuple ?z_zip ?n_MOST_ITEM ?n_MOST_SIDE ?n_comb ?x_ce ?x_ip ?x_cls ?x_bm ?x_sa ?x_no ?x_ic ?x_tc ?x_fn ?x_cd ?x_pos ?x_code ?x_vs ?x_file ?x_cell ?x_D ?x_sub ?x_top ?x_tp ?x_sup ?x_ve ?x_k ?x_ex ?x_ty ?x_sm ?x_hg ?x_hk ?x_ha ?x_hn ?x_ht ?x_hm ?x_hd ?x_e1 ?x_e2 ?x_e3 ?x_e4 ?x_kit
    (case a0 => k_is)
    (case l0 => k_is)
    (case c0 => k_is)
    (case k0 => k_is)
    (case a1 => k_is)
    (case l1 => k_is)
    (case c1 => k_is)
    (case k1 => k_is)
    (case a2 => k_is)
    (case l2 => k_is)
    (case c2 => k_is)
    (case k2 => k_is)
    (case a3 => k_is)
    (case l3 => k_is)
    (case c3 => k_is)
    (case k3 => k_is)
    (case a4 => k_is)
    (case l4 => k_is)
    (case c4 => k_is)
    (case k4 => k_is)
    (case a5 => k_is)
    (case l5 => k_is)
    (case c5 => k_is)
    (case k5 => k_is)
    (case a6 => k_is)
    (case l6 => k_is)
    (case c6 => k_is)
    (case k6 => k_is)
    (case a7 => k_is)
    (case l7 => k_is)
    (case c7 => k_is)
    (case k7 => k_is)
    (case a8 => k_is)
    (case l8 => k_is)
    (case c8 => k_is)
    (case k8 => k_is)
    (case a9 => k_is)
    (case l9 => k_is)
    (case c9 => k_is)
    (case k9 => k_is)
    (case a10 => k_is)
    (case l10 => k_is)
    (case c10 => k_is)
    (case k10 => k_is)
    (case a11 => k_is)
    (case l11 => k_is)
    (case c11 => k_is)
    (case k11 => k_is)
    (case a12 => k_is)
    (case l12 => k_is)
    (case c12 => k_is)
    (case k12 => k_is)
    (case a13 => k_is)
    (case l13 => k_is)
    (case c13 => k_is)
    (case k13 => k_is)
    (case a14 => k_is)
    (case l14 => k_is)
    (case c14 => k_is)
    (case k14 => k_is)
    (case a15 => k_is)
    (case l15 => k_is)
    (case c15 => k_is)
    (case k15 => k_is)
    (case a16 => k_is)
    (case l16 => k_is)
    (case c16 => k_is)
    (case k16 => k_is)
    (case a17 => k_is)
    (case l17 => k_is)
    (case c17 => k_is)
    (case k17 => k_is)
    (case a18 => k_is)
    (case l18 => k_is)
    (case c18 => k_is)
    (case k18 => k_is)
    (case a19 => k_is)
    (case l19 => k_is)
    (case c19 => k_is)
    (case k19 => k_is)
    (case a20 => k_is)
    (case l20 => k_is)
    (case c20 => k_is)
    (case k20 => k_is)
    (case a21 => k_is)
    (case l21 => k_is)
    (case c21 => k_is)
    (case k21 => k_is)
    (case a22 => k_is)
    (case l22 => k_is)
    (case c22 => k_is)
    (case k22 => k_is)
    (case a23 => k_is)
    (case l23 => k_is)
    (case c23 => k_is)
    (case k23 => k_is)
    (case a24 => k_is)
    (case l24 => k_is)
    (case c24 => k_is)
    (case k24 => k_is)
    (case a25 => k_is)
    (case l25 => k_is)
    (case c25 => k_is)
    (case k25 => k_is)
    (case a26 => k_is)
    (case l26 => k_is)
    (case c26 => k_is)
    (case k26 => k_is)
    (case a27 => k_is)
    (case l27 => k_is)
    (case c27 => k_is)
    (case k27 => k_is)
    (case a28 => k_is)
    (case l28 => k_is)
    (case c28 => k_is)
    (case k28 => k_is)
    (case a29 => k_is)
    (case l29 => k_is)
    (case c29 => k_is)
    (case k29 => k_is)
    (case a30 => k_is)
    (case l30 => k_is)
    (case c30 => k_is)
    (case k30 => k_is)
    (case a31 => k_is)
    (case l31 => k_is)
    (case c31 => k_is)
    (case k31 => k_is)
    (case a32 => k_is)
    (case l32 => k_is)
    (case c32 => k_is)
    (case k32 => k_is)
    (case z_abs => k_is)
    (case z_all => k_is)
    (case z_bool => k_is)
    (case z_enumerate => k_is)
    (case z_int => k_is)
    (case z_isinstance => k_is)
    (case z_len => k_is)
    (case z_list => k_is)
    (case z_min => k_is)
    (case z_range => k_is)
    (case z_repr => k_is)
    (case z_sorted => k_is)
    (case z_str => k_is)
    (case z_sum => k_is)
    (case z_tuple => k_is)
    (case z_zip => k_is)
    (case n_MOST_ITEM => k_is)
    (case n_MOST_SIDE => k_is)
    (case n_comb => k_is)
    (case x_ce => k_is)
    (case x_ip => k_is)
    (case x_cls => k_is)
    (case x_bm => decide +kernel)
    (case x_sa => k_is)
    (case x_no => k_is)
    (case x_ic => k_is)
    (case x_tc => k_is)
    (case x_fn => k_is)
    (case x_cd => k_is)
    (case x_pos => rfl)
    (case x_code => k_is)
    (case x_vs => rfl)
    (case x_file => decide +kernel)
    (case x_cell => k_is)
    (case x_D => k_is)
    (case x_sub => k_is)
    (case x_top => decide +kernel)
    (case x_tp => k_is)
    (case x_sup => ks_is)
    (case x_ve => k_is)
    (case x_k => k_is)
    (case x_ex => k_is)
    (case x_ty => k_is)
    (case x_sm => k_is)
    (case x_hg => k_is)
    (case x_hk => k_is)
    (case x_ha => k_is)
    (case x_hn => k_is)
    (case x_ht => k_is)
    (case x_hm => k_is)
    (case x_hd => k_is)
    (case x_e1 => k_is)
    (case x_e2 => k_is)
    (case x_e3 => k_is)
    (case x_e4 => k_is)
    (case x_kit => first | k_is | rfl)

