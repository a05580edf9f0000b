import PyProof.Rows.All
import Wide.All
import OpenK.AllK
import Wide.FinOn
import HandS.ForMost
import HandS.ForExc
import HandS.Walk
import HandS.TryMany
import HandS.CallSlots
import HandS.IsInst
import HandS.Flow
import HandS.Strs
import HandS.HeadHook2
import HandS.TupAny
import HandS.TupMul
import HandS.Deep
import HandS.Steps
import HandS.Zip
import KE.GoesEnum
import HandS.SortRule
import HandS.SortInts
import KE.KSortedM
import KE.KStateDown
import HandS.WordsExc
import HandS.Defaults
import HandS.Head0
import HandS.Head1
import HandS.Head2
import HandS.HeadEnd
import HandS.HeadHook1
import KE.SortData
import HandS.Text
import PySem.Challenge.RW_ringhouses_k15_codebook
set_option Elab.async false
set_option linter.all false
set_option maxRecDepth 100000
set_option maxHeartbeats 2000000
namespace G9
open PySem PySem.Spec PyProof.Rows L2

inductive D where
  | non
  | bl (b : Bool)
  | int (i : Int)
  | str (s : Str)
  | tup (xs : List D)
  | ref (n : Nat)
  | scr (ns : List Int)

mutual
def beqD : D → D → Bool
  | .non, .non => true
  | .bl a, .bl b => a == b
  | .int a, .int b => decide (a = b)
  | .str a, .str b => decide (a = b)
  | .tup a, .tup b => beqDs a b
  | .ref a, .ref b => decide (a = b)
  | .scr a, .scr b => decide (a = b)
  | _, _ => false
def beqDs : List D → List D → Bool
  | [], [] => true
  | a :: as, b :: bs => beqD a b && beqDs as bs
  | _, _ => false
end
mutual
theorem beqD_ok : ∀ a b : D, beqD a b = true → a = b
  | .non, b, h => by cases b <;> simp_all [beqD]
  | .bl x, b, h => by cases b <;> simp_all [beqD]
  | .int x, b, h => by cases b <;> simp_all [beqD]
  | .str x, b, h => by cases b <;> simp_all [beqD]
  | .tup x, b, h => by
    cases b with
    | tup y => exact congrArg D.tup (beqDs_ok x y (by simpa [beqD] using h))
    | _ => simp [beqD] at h
  | .ref x, b, h => by cases b <;> simp_all [beqD]
  | .scr x, b, h => by cases b <;> simp_all [beqD]
theorem beqDs_ok : ∀ a b : List D, beqDs a b = true → a = b
  | [], b, h => by cases b <;> simp_all [beqDs]
  | x :: xs, b, h => by
    cases b with
    | nil => simp [beqDs] at h
    | cons y ys =>
      have h2 : (beqD x y && beqDs xs ys) = true := by simpa [beqDs] using h
      obtain ⟨h3, h4⟩ := Bool.and_eq_true_iff.mp h2
      rw [beqD_ok x y h3, beqDs_ok xs ys h4]
end
mutual
theorem beqD_refl : ∀ a : D, beqD a a = true
  | .non => rfl
  | .bl x => by simp [beqD]
  | .int x => by simp [beqD]
  | .str x => by simp [beqD]
  | .tup x => by
    have h := beqDs_refl x
    simpa [beqD] using h
  | .ref x => by simp [beqD]
  | .scr x => by simp [beqD]
theorem beqDs_refl : ∀ a : List D, beqDs a a = true
  | [] => rfl
  | x :: xs => by
    have h1 := beqD_refl x
    have h2 := beqDs_refl xs
    simp [beqDs, h1, h2]
end
instance : DecidableEq D := fun a b => decidable_of_iff (beqD a b = true) ⟨beqD_ok a b, fun h => h ▸ beqD_refl a⟩

inductive Cell where
  | lst (xs : List D)
  | dk (kvs : List (Key × D))
  | dt (kvs : List (List Key × D))
  | ins (c : Str) (fs : List (Str × D))
  deriving DecidableEq

abbrev HC := List Cell
abbrev SD := List (Option D)

inductive Res (α : Type) where
  | ok (a : α) (h : HC)
  | exc (c : Str) (h : HC)
  | bad
def Res.bind {α β : Type} (r : Res α) (f : α → HC → Res β) : Res β := match r with
  | .ok a h => f a h
  | .exc c h => .exc c h
  | .bad => .bad

/-- the cells' addresses; the script: where it stands, its ints -/
structure Mp where
  ad : List Addr
  scr : Addr
  ns : List Int
def Mp.snoc (m : Mp) (p : Addr) : Mp := { m with ad := m.ad ++ [p] }
theorem Mp.last {m : Mp} {p : Addr} : (m.snoc p).ad[m.ad.length]? = some p := by simp [Mp.snoc]
mutual
def RelD (m : Mp) (H : Hp) : D → V → Prop
  | .non, v => v = .non
  | .bl b, v => v = .bl b
  | .int i, v => v = .int i
  | .str s, v => v = .str s
  | .tup ds, v => ∃ p vs, v = .ref p ∧ H p = some (.tup vs) ∧ RelDs m H ds vs
  | .ref n, v => ∃ a, m.ad[n]? = some a ∧ v = .ref a
  | .scr ns, v => v = .ref m.scr ∧ m.ns = ns
def RelDs (m : Mp) (H : Hp) : List D → List V → Prop
  | [], vs => vs = []
  | d :: ds, vs => ∃ v vs', vs = v :: vs' ∧ RelD m H d v ∧ RelDs m H ds vs'
end

/-- the cells by their addresses; nothing else of the tracked heap changes -/
structure Ext (m m' : Mp) (H H' : Hp) : Prop where
  le : ∀ (n : Nat) (a : Addr), m.ad[n]? = some a → m'.ad[n]? = some a
  sc : m'.scr = m.scr ∧ m'.ns = m.ns
  fr : ∀ (p : Addr) (o : HO), p ∉ m.ad → H p = some o → p ∉ m'.ad ∧ H' p = some o
theorem Ext.refl {m : Mp} {H : Hp} : Ext m m H H := ⟨fun _ _ h => h, ⟨rfl, rfl⟩, fun _ _ h e => ⟨h, e⟩⟩
theorem Ext.trans {m m1 m2 : Mp} {H H1 H2 : Hp} (a : Ext m m1 H H1) (b : Ext m1 m2 H1 H2) : Ext m m2 H H2 :=
  ⟨fun n x h => b.le n x (a.le n x h), ⟨b.sc.1.trans a.sc.1, b.sc.2.trans a.sc.2⟩, fun p o h e => b.fr p o (a.fr p o h e).1 (a.fr p o h e).2⟩

def RelK {κ : Type} (m : Mp) (H : Hp) : List (κ × D) → List (κ × V) → Prop
  | [], vs => vs = []
  | d :: ds, vs => ∃ v vs', vs = v :: vs' ∧ d.1 = v.1 ∧ RelD m H d.2 v.2 ∧ RelK m H ds vs'

def CellAtD (K : PySem.W.Frag) (m : Mp) (H : Hp) (a : Addr) : Cell → Prop
  | .lst xs => ∃ vs, H a = some (.lst vs) ∧ RelDs m H xs vs
  | .dk kvs => ∃ vs, H a = some (.dK vs) ∧ RelK m H kvs vs
  | .dt kvs => ∃ vs, H a = some (.dT vs) ∧ RelK m H kvs vs
  | .ins c fs => ∃ dx vs, H a = some (.ins (He.ga K c) dx vs) ∧ RelK m H fs vs

/-- the script: a list that nobody writes -/
def ScrOk (K : PySem.W.Frag) (H : Hp) (a : Addr) (ns : List Int) : Prop :=
  (∀ H' : Hp, SqL K H' a (ns.map V.int)) ∨ ∃ o, H a = some (.frz o (.lst (ns.map V.int)))
theorem ScrOk.sq {K : PySem.W.Frag} {H : Hp} {a : Addr} {ns : List Int} (x : ScrOk K H a ns) : SqL K H a (ns.map V.int) := by
  rcases x with x | ⟨o, x⟩
  · exact x H
  · exact .inl (.inr ⟨o, x⟩)
theorem ScrOk.of {K : PySem.W.Frag} {H : Hp} {a : Addr} {ns : List Int} (x : SqL K H a (ns.map V.int)) (hO : ∀ b, H b = none ∨ ∃ o xs, H b = some (.frz o (.lst xs))) : ScrOk K H a ns := by
  rcases x with (x | ⟨o, x⟩) | x
  · rcases hO a with e | ⟨o, xs, e⟩
    · rw [e] at x; cases x
    · rw [e] at x; cases x
  · exact .inr ⟨o, x⟩
  · exact .inl fun _ => .inr x
theorem ScrOk.upd {K : PySem.W.Frag} {H : Hp} {a p : Addr} {ns : List Int} {u : HO} (x : ScrOk K H a ns) (hp : ∀ o w, H p ≠ some (.frz o w)) : ScrOk K (L2.upd H p u) a ns := by
  rcases x with x | ⟨o, x⟩
  · exact .inl x
  · refine .inr ⟨o, ?_⟩
    rw [upd_ne (fun z => hp o _ (z ▸ x))]
    exact x
theorem nf_none {H : Hp} {p : Addr} (h : H p = none) : ∀ o w, H p ≠ some (.frz o w) := fun o w e => by rw [h] at e; cases e
structure Sm (K : PySem.W.Frag) (m : Mp) (h : HC) (H : Hp) : Prop where
  len : h.length = m.ad.length
  nd : m.ad.Nodup
  scr : ScrOk K H m.scr m.ns
  cell : ∀ (i : Nat) (c : Cell) (a : Addr), h[i]? = some c → m.ad[i]? = some a → CellAtD K m H a c

def Rs (m : Mp) (H : Hp) (s : SD) (σ : L2.St) : Prop :=
  s.length = σ.length ∧ ∀ (i : Nat) (d : D), s[i]? = some (some d) → ∃ v, σ[i]? = some (some v) ∧ RelD m H d v

section
variable {K : PySem.W.Frag} {m m' m1 m2 : Mp} {h h' : HC} {H H' H1 H2 : Hp}

theorem CellAtD.nt {a : Addr} {c : Cell} (x : CellAtD K m H a c) : ∀ vs, H a ≠ some (.tup vs) := by
  intro vs e
  cases c with
  | lst xs => obtain ⟨vs', e', _⟩ := x; rw [e] at e'; cases e'
  | dk xs => obtain ⟨vs', e', _⟩ := x; rw [e] at e'; cases e'
  | dt xs => obtain ⟨vs', e', _⟩ := x; rw [e] at e'; cases e'
  | ins c xs => obtain ⟨dx, vs', e', _⟩ := x; rw [e] at e'; cases e'
theorem CellAtD.nf {a : Addr} {c : Cell} (x : CellAtD K m H a c) : ∀ o w, H a ≠ some (.frz o w) := by
  intro o w e
  cases c with
  | lst xs => obtain ⟨vs', e', _⟩ := x; rw [e] at e'; cases e'
  | dk xs => obtain ⟨vs', e', _⟩ := x; rw [e] at e'; cases e'
  | dt xs => obtain ⟨vs', e', _⟩ := x; rw [e] at e'; cases e'
  | ins c xs => obtain ⟨dx, vs', e', _⟩ := x; rw [e] at e'; cases e'
theorem CellAtD.some_ {a : Addr} {c : Cell} (x : CellAtD K m H a c) : H a ≠ none := by
  intro e
  cases c with
  | lst xs => obtain ⟨vs', e', _⟩ := x; rw [e] at e'; cases e'
  | dk xs => obtain ⟨vs', e', _⟩ := x; rw [e] at e'; cases e'
  | dt xs => obtain ⟨vs', e', _⟩ := x; rw [e] at e'; cases e'
  | ins c xs => obtain ⟨dx, vs', e', _⟩ := x; rw [e] at e'; cases e'
theorem Sm.at_ (S : Sm K m h H) {i : Nat} {a : Addr} (e : m.ad[i]? = some a) : ∃ c, h[i]? = some c ∧ CellAtD K m H a c := by
  have hi : i < h.length := by rw [S.len]; exact (List.getElem?_eq_some_iff.mp e).1
  exact ⟨h[i], by simp [hi], S.cell i _ a (by simp [hi]) e⟩
theorem Sm.addr (S : Sm K m h H) {i : Nat} {c : Cell} (e : h[i]? = some c) : ∃ a, m.ad[i]? = some a ∧ CellAtD K m H a c := by
  have hi : i < m.ad.length := by rw [← S.len]; exact (List.getElem?_eq_some_iff.mp e).1
  exact ⟨m.ad[i], by simp [hi], S.cell i c _ e (by simp [hi])⟩
theorem Sm.tupOut (S : Sm K m h H) {p : Addr} {vs : List V} (e : H p = some (.tup vs)) : p ∉ m.ad := by
  intro hp
  obtain ⟨i, hi⟩ := List.mem_iff_getElem?.mp hp
  obtain ⟨c, _, hc⟩ := S.at_ hi
  exact hc.nt vs e
theorem Sm.freshOut (S : Sm K m h H) {p : Addr} (e : H p = none) : p ∉ m.ad := by
  intro hp
  obtain ⟨i, hi⟩ := List.mem_iff_getElem?.mp hp
  obtain ⟨c, _, hc⟩ := S.at_ hi
  exact hc.some_ e
mutual
theorem RelD.mono_ (hle : ∀ (n : Nat) (a : Addr), m.ad[n]? = some a → m'.ad[n]? = some a) (hsc : m'.scr = m.scr ∧ m'.ns = m.ns) (ht : ∀ p vs, H p = some (.tup vs) → H' p = some (.tup vs)) : ∀ (d : D) (v : V), RelD m H d v → RelD m' H' d v
  | .non, v, r => by simpa [RelD] using r
  | .bl b, v, r => by simpa [RelD] using r
  | .int i, v, r => by simpa [RelD] using r
  | .str s, v, r => by simpa [RelD] using r
  | .tup ds, v, r => by
    simp only [RelD] at r ⊢
    obtain ⟨p, vs, e, hp, hr⟩ := r
    exact ⟨p, vs, e, ht p vs hp, RelDs.mono_ hle hsc ht ds vs hr⟩
  | .ref n, v, r => by
    simp only [RelD] at r ⊢
    obtain ⟨a, ha, e⟩ := r
    exact ⟨a, hle n a ha, e⟩
  | .scr ns, v, r => by
    simp only [RelD] at r ⊢
    rw [hsc.1, hsc.2]
    exact r
theorem RelDs.mono_ (hle : ∀ (n : Nat) (a : Addr), m.ad[n]? = some a → m'.ad[n]? = some a) (hsc : m'.scr = m.scr ∧ m'.ns = m.ns) (ht : ∀ p vs, H p = some (.tup vs) → H' p = some (.tup vs)) : ∀ (ds : List D) (vs : List V), RelDs m H ds vs → RelDs m' H' ds vs
  | [], vs, r => by simpa [RelDs] using r
  | d :: ds, vs, r => by
    simp only [RelDs] at r ⊢
    obtain ⟨v, vs', e, h1, h2⟩ := r
    exact ⟨v, vs', e, RelD.mono_ hle hsc ht d v h1, RelDs.mono_ hle hsc ht ds vs' h2⟩
end
theorem RelK.mono_ {κ : Type} (hle : ∀ (n : Nat) (a : Addr), m.ad[n]? = some a → m'.ad[n]? = some a) (hsc : m'.scr = m.scr ∧ m'.ns = m.ns) (ht : ∀ p vs, H p = some (.tup vs) → H' p = some (.tup vs)) : ∀ (ds : List (κ × D)) (vs : List (κ × V)), RelK m H ds vs → RelK m' H' ds vs
  | [], vs, r => by simpa [RelK] using r
  | d :: ds, vs, r => by
    simp only [RelK] at r ⊢
    obtain ⟨v, vs', e, k, h1, h2⟩ := r
    exact ⟨v, vs', e, k, RelD.mono_ hle hsc ht _ _ h1, RelK.mono_ hle hsc ht ds vs' h2⟩
theorem Sm.kept (S : Sm K m h H) (E : Ext m m' H H') : ∀ p vs, H p = some (.tup vs) → H' p = some (.tup vs) := fun p vs e => (E.fr p _ (S.tupOut e) e).2
theorem RelD.mono {d : D} {v : V} (r : RelD m H d v) (S : Sm K m h H) (E : Ext m m' H H') : RelD m' H' d v := RelD.mono_ E.le E.sc (S.kept E) d v r
theorem RelDs.mono {d : List D} {v : List V} (r : RelDs m H d v) (S : Sm K m h H) (E : Ext m m' H H') : RelDs m' H' d v := RelDs.mono_ E.le E.sc (S.kept E) d v r
theorem Rs.mono {s : SD} {σ : L2.St} (r : Rs m H s σ) (S : Sm K m h H) (E : Ext m m' H H') : Rs m' H' s σ := ⟨r.1, fun i d e => by
  obtain ⟨v, hv, hr⟩ := r.2 i d e
  exact ⟨v, hv, hr.mono S E⟩⟩
theorem CellAtD.mono_ {a : Addr} {c : Cell} (hle : ∀ (n : Nat) (a : Addr), m.ad[n]? = some a → m'.ad[n]? = some a) (hsc : m'.scr = m.scr ∧ m'.ns = m.ns) (ht : ∀ p vs, H p = some (.tup vs) → H' p = some (.tup vs)) (hs : H' a = H a) (x : CellAtD K m H a c) : CellAtD K m' H' a c := by
  cases c with
  | lst xs => obtain ⟨vs', e', r⟩ := x; exact ⟨vs', hs.trans e', RelDs.mono_ hle hsc ht _ _ r⟩
  | dk xs => obtain ⟨vs', e', r⟩ := x; exact ⟨vs', hs.trans e', RelK.mono_ hle hsc ht _ _ r⟩
  | dt xs => obtain ⟨vs', e', r⟩ := x; exact ⟨vs', hs.trans e', RelK.mono_ hle hsc ht _ _ r⟩
  | ins c xs => obtain ⟨dx, vs', e', r⟩ := x; exact ⟨dx, vs', hs.trans e', RelK.mono_ hle hsc ht _ _ r⟩

/-- a tuple (or any other thing that is no cell) is laid at a new address -/
theorem Sm.newT (S : Sm K m h H) {p : Addr} {o : HO} (hp : H p = none) : Sm K m h (upd H p o) ∧ Ext m m H (upd H p o) := by
  have hn : p ∉ m.ad := S.freshOut hp
  have E : Ext m m H (upd H p o) := ⟨fun _ _ e => e, ⟨rfl, rfl⟩, fun q u hq e => ⟨hq, by rw [upd_ne (ne_of_none e hp)]; exact e⟩⟩
  refine ⟨⟨S.len, S.nd, S.scr.upd (nf_none hp), fun i c a hc ha => ?_⟩, E⟩
  refine (S.cell i c a hc ha).mono_ (fun _ _ e => e) ⟨rfl, rfl⟩ (S.kept E) (upd_ne ?_)
  rintro rfl
  exact hn (List.mem_of_getElem? ha)
/-- an address that is no cell yet becomes the next cell -/
theorem Sm.adopt (S : Sm K m h H) {p : Addr} {c : Cell} (hp : p ∉ m.ad) (hc : CellAtD K m H p c) (hle : ∀ o, H p = some o → True) : Sm K (m.snoc p) (h ++ [c]) H := by
  have hle' : ∀ (n : Nat) (a : Addr), m.ad[n]? = some a → (m.snoc p).ad[n]? = some a := fun n a e => by
    show (m.ad ++ [p])[n]? = some a
    rw [List.getElem?_append_left (List.getElem?_eq_some_iff.mp e).1]
    exact e
  refine ⟨by simp [S.len, Mp.snoc], ?_, S.scr, fun i c' a h1 h2 => ?_⟩
  · show (m.ad ++ [p]).Nodup
    rw [List.nodup_append]
    refine ⟨S.nd, by simp, fun x hx y hy e => ?_⟩
    have : y = p := by simpa using hy
    subst this
    subst e
    exact hp hx
  · replace h2 : (m.ad ++ [p])[i]? = some a := h2
    by_cases hi : i < h.length
    · rw [List.getElem?_append_left hi] at h1
      rw [List.getElem?_append_left (by rw [← S.len]; exact hi)] at h2
      exact (S.cell i c' a h1 h2).mono_ hle' ⟨rfl, rfl⟩ (fun _ _ e => e) rfl
    · have hi2 : i = h.length := by
        have := (List.getElem?_eq_some_iff.mp h1).1
        simp at this
        omega
      subst hi2
      rw [List.getElem?_append_right (Nat.le_refl _)] at h1
      rw [S.len, List.getElem?_append_right (Nat.le_refl _)] at h2
      simp at h1 h2
      subst h1
      subst h2
      exact hc.mono_ hle' ⟨rfl, rfl⟩ (fun _ _ e => e) rfl
/-- a new cell is laid -/
theorem Sm.newC (S : Sm K m h H) {p : Addr} {o : HO} {c : Cell} (hp : H p = none) (hc : CellAtD K m (upd H p o) p c) : Sm K (m.snoc p) (h ++ [c]) (upd H p o) ∧ Ext m (m.snoc p) H (upd H p o) := by
  have hn : p ∉ m.ad := S.freshOut hp
  obtain ⟨S1, E1⟩ := S.newT (o := o) hp
  refine ⟨S1.adopt hn hc (fun _ _ => trivial), ⟨fun n a e => ?_, ⟨rfl, rfl⟩, fun q u hq e => ?_⟩⟩
  · show (m.ad ++ [p])[n]? = some a
    rw [List.getElem?_append_left (List.getElem?_eq_some_iff.mp e).1]
    exact e
  · have hqp : q ≠ p := ne_of_none e hp
    exact ⟨by simp [hq, hqp, Mp.snoc], by rw [upd_ne hqp]; exact e⟩
/-- a cell is changed -/
theorem Sm.setC (S : Sm K m h H) {i : Nat} {p : Addr} {o : HO} {c : Cell} (hi : m.ad[i]? = some p) (hc : CellAtD K m (upd H p o) p c) : Sm K m (h.set i c) (upd H p o) ∧ Ext m m H (upd H p o) := by
  have hm : p ∈ m.ad := List.mem_of_getElem? hi
  have E : Ext m m H (upd H p o) := ⟨fun _ _ e => e, ⟨rfl, rfl⟩, fun q u hq e => ⟨hq, by rw [upd_ne (show q ≠ p from fun z => hq (by rw [z]; exact hm))]; exact e⟩⟩
  have hnf : ∀ o w, H p ≠ some (.frz o w) := by
    obtain ⟨c0, _, hc0⟩ := S.at_ hi
    exact hc0.nf
  refine ⟨⟨by simp [S.len], S.nd, S.scr.upd hnf, fun j c' a h1 h2 => ?_⟩, E⟩
  by_cases hj : j = i
  · subst hj
    rw [hi] at h2
    cases h2
    have hlt : j < h.length := by
      have := (List.getElem?_eq_some_iff.mp h1).1
      simpa using this
    rw [List.getElem?_set_self hlt] at h1
    cases h1
    exact hc
  · rw [List.getElem?_set_ne (Ne.symm hj)] at h1
    refine (S.cell j c' a h1 h2).mono_ (fun _ _ e => e) ⟨rfl, rfl⟩ (S.kept E) (upd_ne ?_)
    rintro rfl
    have hl1 := (List.getElem?_eq_some_iff.mp h2).1
    have hl2 := (List.getElem?_eq_some_iff.mp hi).1
    have e1 := (List.getElem?_eq_some_iff.mp h2).2
    have e2 := (List.getElem?_eq_some_iff.mp hi).2
    exact hj ((List.getElem_inj S.nd).mp (e1.trans e2.symm))

/-! ### lists of values -/
theorem RelDs.len : ∀ {ds : List D} {vs : List V}, RelDs m H ds vs → ds.length = vs.length
  | [], vs, r => by simp only [RelDs] at r; subst r; rfl
  | d :: ds, vs, r => by
    simp only [RelDs] at r
    obtain ⟨v, vs', rfl, _, h2⟩ := r
    simp [RelDs.len h2]
theorem RelDs.get : ∀ {ds : List D} {vs : List V} {i : Nat} {d : D}, RelDs m H ds vs → ds[i]? = some d → ∃ v, vs[i]? = some v ∧ RelD m H d v
  | [], vs, i, d, r, e => by simp at e
  | d0 :: ds, vs, 0, d, r, e => by
    simp only [RelDs] at r
    obtain ⟨v, vs', rfl, h1, h2⟩ := r
    simp at e
    subst e
    exact ⟨v, rfl, h1⟩
  | d0 :: ds, vs, i + 1, d, r, e => by
    simp only [RelDs] at r
    obtain ⟨v, vs', rfl, h1, h2⟩ := r
    simp at e
    obtain ⟨w, hw, hr⟩ := RelDs.get h2 e
    exact ⟨w, by simpa using hw, hr⟩
theorem RelDs.get2 : ∀ {ds : List D} {vs : List V} {i : Nat} {v : V}, RelDs m H ds vs → vs[i]? = some v → ∃ d, ds[i]? = some d ∧ RelD m H d v
  | [], vs, i, v, r, e => by simp only [RelDs] at r; subst r; simp at e
  | d0 :: ds, vs, 0, v, r, e => by
    simp only [RelDs] at r
    obtain ⟨v', vs', rfl, h1, h2⟩ := r
    simp at e
    subst e
    exact ⟨d0, rfl, h1⟩
  | d0 :: ds, vs, i + 1, v, r, e => by
    simp only [RelDs] at r
    obtain ⟨v', vs', rfl, h1, h2⟩ := r
    simp at e
    obtain ⟨w, hw, hr⟩ := RelDs.get2 h2 e
    exact ⟨w, by simpa using hw, hr⟩
theorem RelDs.nil : RelDs m H [] [] := by simp [RelDs]
theorem RelDs.cons {d : D} {v : V} {ds : List D} {vs : List V} (a : RelD m H d v) (b : RelDs m H ds vs) : RelDs m H (d :: ds) (v :: vs) := by
  simp only [RelDs]
  exact ⟨v, vs, rfl, a, b⟩
theorem RelDs.append : ∀ {ds es : List D} {vs us : List V}, RelDs m H ds vs → RelDs m H es us → RelDs m H (ds ++ es) (vs ++ us)
  | [], es, vs, us, r, q => by simp only [RelDs] at r; subst r; exact q
  | d :: ds, es, vs, us, r, q => by
    simp only [RelDs] at r
    obtain ⟨v, vs', rfl, h1, h2⟩ := r
    exact RelDs.cons h1 (RelDs.append h2 q)
theorem RelDs.take : ∀ {ds : List D} {vs : List V} (n : Nat), RelDs m H ds vs → RelDs m H (ds.take n) (vs.take n)
  | ds, vs, 0, r => by simp [RelDs]
  | [], vs, n + 1, r => by simp only [RelDs] at r; subst r; simp [RelDs]
  | d :: ds, vs, n + 1, r => by
    simp only [RelDs] at r
    obtain ⟨v, vs', rfl, h1, h2⟩ := r
    exact RelDs.cons h1 (RelDs.take n h2)
theorem RelDs.drop : ∀ {ds : List D} {vs : List V} (n : Nat), RelDs m H ds vs → RelDs m H (ds.drop n) (vs.drop n)
  | ds, vs, 0, r => by simpa using r
  | [], vs, n + 1, r => by simp only [RelDs] at r; subst r; simp [RelDs]
  | d :: ds, vs, n + 1, r => by
    simp only [RelDs] at r
    obtain ⟨v, vs', rfl, h1, h2⟩ := r
    simpa using RelDs.drop n h2
theorem RelDs.set : ∀ {ds : List D} {vs : List V} (n : Nat) {d : D} {v : V}, RelDs m H ds vs → RelD m H d v → RelDs m H (ds.set n d) (vs.set n v)
  | [], vs, n, d, v, r, q => by simp only [RelDs] at r; subst r; simp [RelDs]
  | d0 :: ds, vs, 0, d, v, r, q => by
    simp only [RelDs] at r
    obtain ⟨v', vs', rfl, h1, h2⟩ := r
    exact RelDs.cons q h2
  | d0 :: ds, vs, n + 1, d, v, r, q => by
    simp only [RelDs] at r
    obtain ⟨v', vs', rfl, h1, h2⟩ := r
    exact RelDs.cons h1 (RelDs.set n h2 q)
theorem RelDs.erase : ∀ {ds : List D} {vs : List V} (n : Nat), RelDs m H ds vs → RelDs m H (ds.eraseIdx n) (vs.eraseIdx n)
  | [], vs, n, r => by simp only [RelDs] at r; subst r; simp [RelDs]
  | d0 :: ds, vs, 0, r => by
    simp only [RelDs] at r
    obtain ⟨v', vs', rfl, h1, h2⟩ := r
    simpa using h2
  | d0 :: ds, vs, n + 1, r => by
    simp only [RelDs] at r
    obtain ⟨v', vs', rfl, h1, h2⟩ := r
    exact RelDs.cons h1 (RelDs.erase n h2)
theorem RelDs.replicate {d : D} {v : V} (q : RelD m H d v) : ∀ n : Nat, RelDs m H (List.replicate n d) (List.replicate n v)
  | 0 => RelDs.nil
  | n + 1 => RelDs.cons q (RelDs.replicate q n)
theorem RelDs.rep {ds : List D} {vs : List V} (q : RelDs m H ds vs) : ∀ n : Nat, RelDs m H (List.replicate n ds).flatten (List.replicate n vs).flatten
  | 0 => RelDs.nil
  | n + 1 => by
    rw [List.replicate_succ, List.flatten_cons, List.replicate_succ, List.flatten_cons]
    exact q.append (RelDs.rep q n)
theorem RelDs.ints : ∀ {ns : List Int} , RelDs m H (ns.map D.int) (ns.map V.int)
  | [] => RelDs.nil
  | n :: ns => RelDs.cons (by simp [RelD]) RelDs.ints
end

end G9

set_option Elab.async false
set_option linter.all false
set_option maxRecDepth 100000
set_option maxHeartbeats 2000000
namespace G9
open PySem PySem.Spec PyProof.Rows L2

/-! ### readings -/
def post {α β : Type} (R : Mp → Hp → α → β → Prop) (K : PySem.W.Frag) (W : WX) (σ : L2.St) (m : Mp) (H : Hp) (Q : β → Hp → Prop) : Res α → Prop
  | .ok a h' => ∀ m' H' b, Ext m m' H H' → Sm K m' h' H' → R m' H' a b → Q b H'
  | .exc c h' => ∀ m' H', Ext m m' H H' → Sm K m' h' H' → W (.ref (He.ga K c)) none σ H'
  | .bad => False
def rd {α β : Type} (R : Mp → Hp → α → β → Prop) (K : PySem.W.Frag) (W : WX) (f : SD → HC → Res α) : L2.St → Hp → (β → Hp → Prop) → Prop := fun σ H Q =>
  ∃ m s h, Sm K m h H ∧ Rs m H s σ ∧ post R K W σ m H Q (f s h)
def RelB (_ : Mp) (_ : Hp) (a b : Bool) : Prop := a = b
abbrev rE (K : PySem.W.Frag) (W : WX) (f : SD → HC → Res D) : TE := rd RelD K W f
abbrev rT (K : PySem.W.Frag) (W : WX) (f : SD → HC → Res Bool) : TT := rd RelB K W f
abbrev rA (K : PySem.W.Frag) (W : WX) (f : SD → HC → Res (List D)) : TA := rd RelDs K W f
abbrev EE := SD → HC → Res D
abbrev ET := SD → HC → Res Bool
abbrev EA := SD → HC → Res (List D)

section
variable {α β γ δ : Type} {R : Mp → Hp → α → β → Prop} {R' : Mp → Hp → γ → δ → Prop} {K : PySem.W.Frag} {W : WX} {σ : L2.St} {m m1 : Mp} {H H1 : Hp}
theorem post_ext {Q : β → Hp → Prop} {r : Res α} (p : post R K W σ m H Q r) (E : Ext m m1 H H1) : post R K W σ m1 H1 Q r := by
  cases r with
  | ok a h => exact fun m' H' b e S q => p m' H' b (E.trans e) S q
  | exc c h => exact fun m' H' e S => p m' H' (E.trans e) S
  | bad => exact p
theorem post_mono {Q Q' : β → Hp → Prop} {r : Res α} (p : post R K W σ m H Q r) (hq : ∀ b H', Q b H' → Q' b H') : post R K W σ m H Q' r := by
  cases r with
  | ok a h => exact fun m' H' b e S q => hq _ _ (p m' H' b e S q)
  | exc c h => exact p
  | bad => exact p
theorem rd_mono {Q Q' : β → Hp → Prop} {f : SD → HC → Res α} (p : rd R K W f σ H Q) (hq : ∀ b H', Q b H' → Q' b H') : rd R K W f σ H Q' := by
  obtain ⟨m, s, h, S, r, p⟩ := p
  exact ⟨m, s, h, S, r, post_mono p hq⟩
/-- the same, with what is known behind it -/
theorem rd_know {Q : β → Hp → Prop} {f : SD → HC → Res α} {m : Mp} {s : SD} {h : HC} (S : Sm K m h H) (r : Rs m H s σ)
    (p : post R K W σ m H Q (f s h)) : rd R K W f σ H Q := ⟨m, s, h, S, r, p⟩
theorem rd_bind {Q : δ → Hp → Prop} {f : SD → HC → Res α} {g : α → SD → HC → Res γ} (p : rd R' K W (fun s h => (f s h).bind fun a h1 => g a s h1) σ H Q) :
    rd R K W f σ H (fun b H1 => ∃ m1 s h1 a, Sm K m1 h1 H1 ∧ Rs m1 H1 s σ ∧ R m1 H1 a b ∧ post R' K W σ m1 H1 Q (g a s h1)) := by
  obtain ⟨m, s, h, S, r, p⟩ := p
  refine ⟨m, s, h, S, r, ?_⟩
  dsimp only at p
  cases e : f s h with
  | ok a h1 =>
    rw [e] at p
    exact fun m' H' b E S' q => ⟨m', s, h1, a, S', r.mono S E, q, post_ext p E⟩
  | exc c h1 =>
    rw [e] at p
    exact p
  | bad =>
    rw [e] at p
    exact p
end

section
variable {X : Cx} {W : WX} {e : Expr}
theorem PEw {t t' : TE} (h : PE X e t) (w : ∀ σ H Q, t' σ H Q → t σ H Q) : PE X e t' := ⟨fun pins s σ H Q I q => h.run pins s σ H Q I (w _ _ _ q)⟩
theorem PTw {t t' : TT} (h : PT X e t) (w : ∀ σ H Q, t' σ H Q → t σ H Q) : PT X e t' := ⟨fun pins s σ H Q I q => h.run pins s σ H Q I (w _ _ _ q)⟩
theorem PWw {t t' : TT} (h : PW X e t) (w : ∀ σ H Q, t' σ H Q → t σ H Q) : PW X e t' := ⟨fun wh pins s σ H Q I q => h.run wh pins s σ H Q I (w _ _ _ q)⟩
theorem PAw {es : List Expr} {t t' : TA} (h : PA X es t) (w : ∀ σ H Q, t' σ H Q → t σ H Q) : PA X es t' := ⟨fun pos pins s σ H Q I q => h.run pos pins s σ H Q I (w _ _ _ q)⟩
theorem PSw {st : Stmt} {t t' : TS} (h : PS X st t) (w : ∀ D σ H, t' D σ H → t D σ H) : PS X st t' := ⟨fun pins s σ H D I q => h.run pins s σ H D I (w _ _ _ q)⟩
theorem PSsw {st : List Stmt} {t t' : TS} (h : PSs X st t) (w : ∀ D σ H, t' D σ H → t D σ H) : PSs X st t' := ⟨fun pins s σ H D I q => h.run pins s σ H D I (w _ _ _ q)⟩
end

/-! ### names and constants -/
def fVar (i : Nat) : EE := fun s h => match s[i]? with
  | some (some d) => .ok d h
  | _ => .bad
def fC (d : D) : EE := fun _ h => .ok d h
section
variable {X : Cx} {W : WX} {e : Expr}
theorem se_of_var {i : Nat} (h : PE X e (tVar i)) : PE X e (rE X.K W (fVar i)) := PEw h fun σ H Q q => by
  obtain ⟨m, s, h, S, r, p⟩ := q
  unfold fVar at p
  cases e1 : s[i]? with
  | none => rw [e1] at p; exact p.elim
  | some o =>
    cases o with
    | none => rw [e1] at p; exact p.elim
    | some d =>
      rw [e1] at p
      obtain ⟨v, hv, hr⟩ := r.2 i d e1
      exact ⟨v, hv, p m H v Ext.refl S hr⟩
theorem sv (i : Nat) {x : Str} {pos : Pos} (hN : X.N[i]? = some x := by rfl) (hv : Vis X.env.scope x := by first | exact Or.inl rfl | exact Or.inr (Or.inl rfl) | exact Or.inr (Or.inr rfl)) (hd : (x == ("__debug__" : Str)) = false := by decide)
    (hcd : (x == ("__classdict__" : Str)) = false := by decide) : PE X (.Name x pos) (rE X.K W (fVar i)) := se_of_var (pe_var hN hv hd hcd)
theorem se_of_c {v : V} {d : D} (h : PE X e (tC v)) (hr : ∀ m H, RelD m H d v) : PE X e (rE X.K W (fC d)) := PEw h fun σ H Q q => by
  obtain ⟨m, s, h, S, r, p⟩ := q
  exact p m H v Ext.refl S (hr m H)
theorem se_int {i j pos} : PE X (.Constant (.int i) j pos) (rE X.K W (fC (.int i))) := se_of_c pe_int fun _ _ => by simp [RelD]
theorem se_bl {b j pos} : PE X (.Constant (.bool b) j pos) (rE X.K W (fC (.bl b))) := se_of_c pe_bl fun _ _ => by simp [RelD]
theorem se_non {j pos} : PE X (.Constant .none j pos) (rE X.K W (fC .non)) := se_of_c pe_non fun _ _ => by simp [RelD]
theorem se_str {x j pos} : PE X (.Constant (.str x) j pos) (rE X.K W (fC (.str x))) := se_of_c pe_str fun _ _ => by simp [RelD]
/-- a constant of the module -/
theorem se_gint {x : Str} {i : Int} {pos : Pos} (hm : ∃ t, X.mg x = some (.int i t)) (hg : Gl X x := by rfl) (hd : (x == ("__debug__" : Str)) = false := by decide) : PE X (.Name x pos) (rE X.K W (fC (.int i))) := by
  obtain ⟨t, hm⟩ := hm
  exact se_of_c (pe_glob hg hm (v := .int i) ⟨t, rfl⟩ hd) fun _ _ => by simp [RelD]
end

/-! ### operators by values -/
def OpS (K : PySem.W.Frag) (r : R2) (op : D → D → HC → Res D) : Prop :=
  ∀ (W : WX) (σ : L2.St) (m : Mp) (h : HC) (H : Hp) (d1 d2 : D) (v1 v2 : V) (Q : VK), Sm K m h H → RelD m H d1 v1 → RelD m H d2 v2 → post RelD K W σ m H Q (op d1 d2 h) → r v1 v2 H Q
def fOp (op : D → D → HC → Res D) (a b : EE) : EE := fun s h => (a s h).bind fun x h1 => (b s h1).bind fun y h2 => op x y h2
section
variable {X : Cx} {W : WX} {a b c : Expr} {fa fb fc : EE} {pos : Pos} {r r' : R2} {op op' : D → D → HC → Res D}
theorem tOp_of {K : PySem.W.Frag} (hs : OpS K r op) (σ : L2.St) (H : Hp) (Q : VK) (q : rE K W (fOp op fa fb) σ H Q) : tOp r (rE K W fa) (rE K W fb) σ H Q := by
  refine rd_mono (rd_bind (R := RelD) (f := fa) (g := fun x s h1 => (fb s h1).bind fun y h2 => op x y h2) q) fun x H1 ⟨m1, s, h1, d1, S1, r1, q1, p1⟩ => ?_
  refine ⟨m1, s, h1, S1, r1, ?_⟩
  cases e : fb s h1 with
  | ok d2 h2 =>
    rw [e] at p1
    exact fun m2 H2 y E2 S2 q2 => hs W σ m2 h2 H2 d1 d2 x y Q S2 (q1.mono S1 E2) q2 (post_ext p1 E2)
  | exc c h2 =>
    rw [e] at p1
    exact p1
  | bad =>
    rw [e] at p1
    exact p1
theorem se_op {o : Operator} (ho : OpR X (binaryOp o) r) (hs : OpS X.K r op) (ha : PE X a (rE X.K W fa)) (hb : PE X b (rE X.K W fb)) : PE X (.BinOp a o b pos) (rE X.K W (fOp op fa fb)) :=
  PEw (pe_op ho ha hb) (tOp_of hs)
theorem se_cmp {o : CmpOp} (ho : OpR X (compareOp o) r) (hs : OpS X.K r op) (ha : PE X a (rE X.K W fa)) (hb : PE X b (rE X.K W fb)) (hm : behindInMarks o b = false := by first | exact nomark _ | rfl) : PE X (.Compare a [o] [b] pos) (rE X.K W (fOp op fa fb)) :=
  PEw (pe_cmpR ho ha hb hm) (tOp_of hs)
theorem OpS.or {K : PySem.W.Frag} (h : ∀ d1 d2 h, op' d1 d2 h = .bad ∨ op' d1 d2 h = op d1 d2 h) (hs : OpS K r op) : OpS K r op' := fun W σ m hh H d1 d2 v1 v2 Q S r1 r2 p => by
  rcases h d1 d2 hh with e | e
  · rw [e] at p; exact p.elim
  · rw [e] at p; exact hs W σ m hh H d1 d2 v1 v2 Q S r1 r2 p
end

/-! ### arithmetic, texts, lists, tuples -/
def BIG : Nat := 100000
theorem big_le : BIG ≤ sizeLine := by rw [sizeLine_eq]; decide
def newL (xs : List D) (h : HC) : Res D := if xs.length ≤ BIG then .ok (.ref h.length) (h ++ [.lst xs]) else .bad
def mkT (xs : List D) (h : HC) : Res D := if xs.length ≤ BIG then .ok (.tup xs) h else .bad
def opAdd : D → D → HC → Res D
  | .int a, .int b, h => .ok (.int (a + b)) h
  | .str a, .str b, h => if a.length + b.length ≤ BIG then .ok (.str (a ++ b)) h else .bad
  | .tup a, .tup b, h => mkT (a ++ b) h
  | .ref a, .ref b, h => (match h[a]?, h[b]? with
    | some (.lst xs), some (.lst ys) => newL (xs ++ ys) h
    | _, _ => .bad)
  | _, _, _ => .bad
def opSub : D → D → HC → Res D
  | .int a, .int b, h => .ok (.int (a - b)) h
  | _, _, _ => .bad
def mulOk (i j : Int) : Bool := (decide (-(2 ^ 64) < i) && decide (i < 2 ^ 64)) || (decide (-(2 ^ 64) < j) && decide (j < 2 ^ 64))
def opMul : D → D → HC → Res D
  | .int a, .int b, h => if mulOk a b then .ok (.int (a * b)) h else .bad
  | .ref a, .int k, h => (match h[a]? with
    | some (.lst xs) => if -(2 ^ 63) ≤ k ∧ k < 2 ^ 63 then newL (List.replicate k.toNat xs).flatten h else .bad
    | _ => .bad)
  | .tup xs, .int k, h => if xs ≠ [] ∧ 2 ≤ k ∧ k ≤ 1000 ∧ xs.length ≤ 1000 then .ok (.tup (List.replicate k.toNat xs).flatten) h else .bad
  | _, _, _ => .bad
def opMod : D → D → HC → Res D
  | .int a, .int b, h => if 0 < b then .ok (.int (a % b)) h else .bad
  | _, _, _ => .bad
def opDiv : D → D → HC → Res D
  | .int a, .int b, h => if 0 < b ∧ b < 1073741824 then .ok (.int (a / b)) h else .bad
  | _, _, _ => .bad
def opPow : D → D → HC → Res D
  | .int a, .int b, h => if 0 ≤ b ∧ b ≤ 1000000 ∧ a.natAbs < 2 ^ 64 then .ok (.int (a ^ b.toNat)) h else .bad
  | _, _, _ => .bad
def opI (g : Int → Int → Bool) : D → D → HC → Res D
  | .int a, .int b, h => .ok (.bl (g a b)) h
  | _, _, _ => .bad
abbrev opLt := opI fun i j => decide (i < j)
abbrev opLe := opI fun i j => decide (i ≤ j)
abbrev opGt := opI fun i j => decide (j < i)
abbrev opGe := opI fun i j => decide (j ≤ i)

section
variable {K : PySem.W.Frag}
theorem newL_ok {W : WX} {σ : L2.St} {m : Mp} {h : HC} {H : Hp} {xs : List D} {vs : List V} {Q : VK} {R : Prop} (S : Sm K m h H) (r : RelDs m H xs vs) (p : post RelD K W σ m H Q (newL xs h))
    (k : vs.length ≤ sizeLine → (∀ p, H p = none → Q (.ref p) (upd H p (.lst vs))) → R) : R := by
  unfold newL at p
  split at p
  · rename_i hl
    refine k (by rw [← r.len]; exact Nat.le_trans hl big_le) fun q hq => ?_
    obtain ⟨S1, E1⟩ := S.newC (o := .lst vs) (c := .lst xs) hq ⟨vs, upd_same, r.mono S (S.newT (o := .lst vs) hq).2⟩
    refine p _ _ _ E1 S1 ?_
    simp only [RelD]
    exact ⟨q, by rw [S.len]; exact Mp.last, rfl⟩
  · exact p.elim
theorem mkT_ok {W : WX} {σ : L2.St} {m : Mp} {h : HC} {H : Hp} {xs : List D} {vs : List V} {Q : VK} {R : Prop} (S : Sm K m h H) (r : RelDs m H xs vs) (p : post RelD K W σ m H Q (mkT xs h))
    (k : vs.length ≤ sizeLine → (∀ p, H p = none → Q (.ref p) (upd H p (.tup vs))) → (∀ p, H p = some (.tup vs) → Q (.ref p) H) → R) : R := by
  unfold mkT at p
  split at p
  · rename_i hl
    refine k (by rw [← r.len]; exact Nat.le_trans hl big_le) (fun q hq => ?_) (fun q hq => ?_)
    · obtain ⟨S1, E1⟩ := S.newT (o := .tup vs) hq
      refine p _ _ _ E1 S1 ?_
      simp only [RelD]
      exact ⟨q, vs, rfl, upd_same, r.mono S E1⟩
    · refine p _ _ _ Ext.refl S ?_
      simp only [RelD]
      exact ⟨q, vs, rfl, hq, r⟩
  · exact p.elim
theorem Sm.lst (S : Sm K m h H) {n : Nat} {v : V} {xs : List D} (r : RelD m H (.ref n) v) (e : h[n]? = some (.lst xs)) : ∃ a vs, v = .ref a ∧ m.ad[n]? = some a ∧ H a = some (.lst vs) ∧ RelDs m H xs vs := by
  simp only [RelD] at r
  obtain ⟨a, ha, rfl⟩ := r
  obtain ⟨vs, hv, hr⟩ := S.cell n _ a e ha
  exact ⟨a, vs, rfl, ha, hv, hr⟩
theorem RelDs.nil_iff {ds : List D} {vs : List V} (r : RelDs m H ds vs) : ds = [] ↔ vs = [] := by
  have := r.len
  cases ds <;> cases vs <;> simp_all

def rAddAll (K : PySem.W.Frag) : R2 := fun x y H Q => (rI0 fun i j => .int (i + j)) x y H Q ∨ ((fun x y H Q => ∃ i j, x = .str i ∧ y = .str j ∧ i.length + j.length ≤ sizeLine ∧ Q (.str (i ++ j)) H) : R2) x y H Q ∨ rCatA K x y H Q ∨ rCat x y H Q
theorem op_addAll {X : Cx} : OpR X (binaryOp .Add) (rAddAll X.K) := op_add.or (op_add_str.or (op_catA.or op_cat))
theorem os_add : OpS K (rAddAll K) opAdd := by
  intro W σ m h H d1 d2 v1 v2 Q S r1 r2 p
  unfold opAdd at p
  split at p
  · simp only [RelD] at r1 r2
    exact .inl ⟨_, _, r1, r2, p _ _ _ Ext.refl S (by simp [RelD])⟩
  · simp only [RelD] at r1 r2
    split at p
    · rename_i hl
      exact .inr (.inl ⟨_, _, r1, r2, Nat.le_trans hl big_le, p _ _ _ Ext.refl S (by simp [RelD])⟩)
    · exact p.elim
  · rename_i a b
    simp only [RelD] at r1 r2
    obtain ⟨p1, vs1, rfl, h1, q1⟩ := r1
    obtain ⟨p2, vs2, rfl, h2, q2⟩ := r2
    refine mkT_ok S (q1.append q2) p fun hl k1 k2 => .inr (.inr (.inl ⟨p1, p2, vs1, vs2, rfl, rfl, SqT.of h1, SqT.of h2, by simpa using hl, fun e => ?_, fun _ e => ?_, fun _ _ => k1⟩))
    · subst e
      exact k2 p2 (by simpa using h2)
    · subst e
      exact k2 p1 (by simpa using h1)
  · split at p
    · rename_i xs ys e1 e2
      obtain ⟨a1, vs1, rfl, _, h1, q1⟩ := S.lst r1 e1
      obtain ⟨a2, vs2, rfl, _, h2, q2⟩ := S.lst r2 e2
      exact newL_ok S (q1.append q2) p fun hl k => .inr (.inr (.inr ⟨a1, a2, vs1, vs2, rfl, rfl, h1, h2, by simpa using hl, k⟩))
    · exact p.elim
  · exact p.elim
theorem os_sub : OpS K (rI0 fun i j => .int (i - j)) opSub := by
  intro W σ m h H d1 d2 v1 v2 Q S r1 r2 p
  unfold opSub at p
  split at p
  · simp only [RelD] at r1 r2
    exact ⟨_, _, r1, r2, p _ _ _ Ext.refl S (by simp [RelD])⟩
  · exact p.elim
theorem mulOk_ok {i j : Int} (h : mulOk i j = true) : CMul i j := by
  unfold mulOk at h
  rcases Bool.or_eq_true_iff.mp h with h | h
  · obtain ⟨h1, h2⟩ := Bool.and_eq_true_iff.mp h
    exact .inl ⟨of_decide_eq_true h1, of_decide_eq_true h2⟩
  · obtain ⟨h1, h2⟩ := Bool.and_eq_true_iff.mp h
    exact .inr ⟨of_decide_eq_true h1, of_decide_eq_true h2⟩
def rMulAll (K : PySem.W.Frag) : R2 := fun x y H Q => (rI CMul fun i j => .int (i * j)) x y H Q ∨ rRep x y H Q ∨ rRepT K x y H Q
theorem op_mulAll {X : Cx} : OpR X (binaryOp .Mult) (rMulAll X.K) := op_mul.or (op_rep.or op_repT)
theorem os_mul : OpS K (rMulAll K) opMul := by
  intro W σ m h H d1 d2 v1 v2 Q S r1 r2 p
  unfold opMul at p
  split at p
  · simp only [RelD] at r1 r2
    split at p
    · rename_i hc
      exact .inl ⟨_, _, r1, r2, mulOk_ok hc, p _ _ _ Ext.refl S (by simp [RelD])⟩
    · exact p.elim
  · split at p
    · rename_i xs e1
      split at p
      · rename_i hk
        obtain ⟨a1, vs1, rfl, _, h1, q1⟩ := S.lst r1 e1
        simp only [RelD] at r2
        refine newL_ok S (q1.rep _) p fun hl k => .inr (.inl ⟨a1, _, vs1, rfl, r2, h1, hk.1, hk.2, ?_, k⟩)
        simpa [Nat.mul_comm] using hl
      · exact p.elim
    · exact p.elim
  · split at p
    · rename_i xs k hk
      simp only [RelD] at r1 r2
      obtain ⟨p1, vs1, rfl, h1, q1⟩ := r1
      refine .inr (.inr ⟨p1, k, vs1, rfl, r2, SqT.of h1, fun z => hk.1 (q1.nil_iff.mpr z), hk.2.1, hk.2.2.1, by rw [← q1.len]; exact hk.2.2.2, fun q hq => ?_⟩)
      obtain ⟨S1, E1⟩ := S.newT (o := .tup (List.replicate k.toNat vs1).flatten) hq
      refine p _ _ _ E1 S1 ?_
      simp only [RelD]
      exact ⟨q, _, rfl, upd_same, (q1.rep _).mono S E1⟩
    · exact p.elim
  · exact p.elim
theorem os_mod : OpS K (rI (fun _ j => 0 < j) fun i j => .int (i % j)) opMod := by
  intro W σ m h H d1 d2 v1 v2 Q S r1 r2 p
  unfold opMod at p
  split at p
  · simp only [RelD] at r1 r2
    split at p
    · rename_i hc
      exact ⟨_, _, r1, r2, hc, p _ _ _ Ext.refl S (by simp [RelD])⟩
    · exact p.elim
  · exact p.elim
theorem os_div : OpS K (rI CDiv fun i j => .int (i / j)) opDiv := by
  intro W σ m h H d1 d2 v1 v2 Q S r1 r2 p
  unfold opDiv at p
  split at p
  · simp only [RelD] at r1 r2
    split at p
    · rename_i hc
      exact ⟨_, _, r1, r2, hc, p _ _ _ Ext.refl S (by simp [RelD])⟩
    · exact p.elim
  · exact p.elim
theorem os_pow : OpS K (rI CPow fun i j => .int (i ^ j.toNat)) opPow := by
  intro W σ m h H d1 d2 v1 v2 Q S r1 r2 p
  unfold opPow at p
  split at p
  · simp only [RelD] at r1 r2
    split at p
    · rename_i hc
      exact ⟨_, _, r1, r2, hc, p _ _ _ Ext.refl S (by simp [RelD])⟩
    · exact p.elim
  · exact p.elim
theorem os_I {g : Int → Int → Bool} : OpS K (rI0 fun i j => .bl (g i j)) (opI g) := by
  intro W σ m h H d1 d2 v1 v2 Q S r1 r2 p
  unfold opI at p
  split at p
  · simp only [RelD] at r1 r2
    exact ⟨_, _, r1, r2, p _ _ _ Ext.refl S (by simp [RelD])⟩
  · exact p.elim
end

end G9

set_option Elab.async false
set_option linter.all false
set_option maxRecDepth 100000
set_option maxHeartbeats 2000000
namespace G9
open PySem PySem.Spec PyProof.Rows L2

/-! ### data as a whole -/
def optAll {α : Type} : List (Option α) → Option (List α)
  | [] => some []
  | some a :: r => (optAll r).map (a :: ·)
  | none :: _ => none
def toPy (h : HC) : Nat → D → Option PyData
  | 0, _ => none
  | n + 1, d => match d with
    | .non => some .none
    | .bl b => some (.bool b)
    | .int i => some (.int i)
    | .str s => if PyData.strOk s = true then some (.str s) else none
    | .tup xs => (optAll (xs.map (toPy h n))).map .tuple
    | .ref a => match h[a]? with
      | some (.lst xs) => (optAll (xs.map (toPy h n))).map .list
      | _ => none
    | .scr _ => none
section
variable {K : PySem.W.Frag} {m : Mp} {h : HC} {H : Hp}
theorem optAll_dp {n : Nat} (ih : ∀ (d : D) (v : V) (p : PyData), RelD m H d v → toPy h n d = some p → Dp K H v p) : ∀ (ds : List D) (vs : List V) (ps : List PyData), RelDs m H ds vs → optAll (ds.map (toPy h n)) = some ps → DpAll K H vs ps
  | [], vs, ps, r, e => by
    simp only [RelDs] at r
    subst r
    simp [optAll] at e
    subst e
    exact .nil
  | d :: ds, vs, ps, r, e => by
    simp only [RelDs] at r
    obtain ⟨v, vs', rfl, h1, h2⟩ := r
    cases q : toPy h n d with
    | none => simp [optAll, q] at e
    | some p =>
      cases q2 : optAll (ds.map (toPy h n)) with
      | none => simp [optAll, q, q2] at e
      | some ps' =>
        simp [optAll, q, q2] at e
        subst e
        exact .cons (ih d v p h1 q) (optAll_dp ih ds vs' ps' h2 q2)
theorem toPy_ok (S : Sm K m h H) : ∀ (n : Nat) (d : D) (v : V) (p : PyData), RelD m H d v → toPy h n d = some p → Dp K H v p
  | 0, d, v, p, r, e => by simp [toPy] at e
  | n + 1, d, v, p, r, e => by
    cases d with
    | scr _ => simp [toPy] at e
    | non => simp [toPy] at e; simp only [RelD] at r; subst e r; exact .non
    | bl b => simp [toPy] at e; simp only [RelD] at r; subst e r; exact .bl b
    | int i => simp [toPy] at e; simp only [RelD] at r; subst e r; exact .int i
    | str s =>
      simp only [toPy] at e
      simp only [RelD] at r
      split at e
      · cases e; subst r; exact .str s
      · cases e
    | tup xs =>
      simp only [toPy] at e
      simp only [RelD] at r
      obtain ⟨q, vs, rfl, hq, hr⟩ := r
      cases o : optAll (xs.map (toPy h n)) with
      | none => simp [o] at e
      | some ps =>
        simp [o] at e
        subst e
        exact .tup (SqT.of hq) (optAll_dp (fun d v p => toPy_ok S n d v p) xs vs ps hr o)
    | ref a =>
      simp only [toPy] at e
      split at e
      · rename_i xs he
        obtain ⟨b, vs, rfl, _, hb, hr⟩ := S.lst r he
        cases o : optAll (xs.map (toPy h n)) with
        | none => simp [o] at e
        | some ps =>
          simp [o] at e
          subst e
          exact .lst (SqL.of hb) (optAll_dp (fun d v p => toPy_ok S n d v p) xs vs ps hr o)
      · cases e
theorem optAll_lay {n : Nat} (ih : ∀ (d : D) (p : PyData), toPy h n d = some p → p.canLay0 = true ∧ p.depth ≤ n) : ∀ (ds : List D) (ps : List PyData), optAll (ds.map (toPy h n)) = some ps → PyData.canLayAll0 ps = true ∧ PyData.depthAll ps ≤ n
  | [], ps, e => by
    simp [optAll] at e
    subst e
    exact ⟨rfl, Nat.zero_le _⟩
  | d :: ds, ps, e => by
    cases q : toPy h n d with
    | none => simp [optAll, q] at e
    | some p =>
      cases q2 : optAll (ds.map (toPy h n)) with
      | none => simp [optAll, q, q2] at e
      | some ps' =>
        simp [optAll, q, q2] at e
        subst e
        obtain ⟨a1, a2⟩ := ih d p q
        obtain ⟨b1, b2⟩ := optAll_lay ih ds ps' q2
        refine ⟨by simp [PyData.canLayAll0, a1, b1], ?_⟩
        simp only [PyData.depthAll]
        omega
theorem toPy_lay : ∀ (n : Nat) (d : D) (p : PyData), toPy h n d = some p → p.canLay0 = true ∧ p.depth ≤ n
  | 0, d, p, e => by simp [toPy] at e
  | n + 1, d, p, e => by
    cases d with
    | scr _ => simp [toPy] at e
    | non => simp [toPy] at e; subst e; simp [PyData.canLay0, PyData.depth]
    | bl b => simp [toPy] at e; subst e; simp [PyData.canLay0, PyData.depth]
    | int i => simp [toPy] at e; subst e; simp [PyData.canLay0, PyData.depth]
    | str s =>
      simp only [toPy] at e
      split at e
      · rename_i hs
        cases e
        exact ⟨by simpa [PyData.canLay0] using hs, by simp [PyData.depth]⟩
      · cases e
    | tup xs =>
      simp only [toPy] at e
      cases o : optAll (xs.map (toPy h n)) with
      | none => simp [o] at e
      | some ps =>
        simp [o] at e
        subst e
        obtain ⟨b1, b2⟩ := optAll_lay (fun d p => toPy_lay n d p) xs ps o
        exact ⟨by simpa [PyData.canLay0] using b1, by simp only [PyData.depth]; omega⟩
    | ref a =>
      simp only [toPy] at e
      split at e
      · rename_i xs he
        cases o : optAll (xs.map (toPy h n)) with
        | none => simp [o] at e
        | some ps =>
          simp [o] at e
          subst e
          obtain ⟨b1, b2⟩ := optAll_lay (fun d p => toPy_lay n d p) xs ps o
          exact ⟨by simpa [PyData.canLay0] using b1, by simp only [PyData.depth]; omega⟩
      · cases e
theorem toPy_shaped {n : Nat} {d : D} {p : PyData} (hn : n ≤ 64) (e : toPy h n d = some p) : SeqAt.shaped p = true := by
  obtain ⟨a, b⟩ := toPy_lay n d p e
  unfold SeqAt.shaped
  rw [a, decide_eq_true (Nat.le_trans b hn)]
  rfl
end
def opEq : D → D → HC → Res D := fun x y h => match toPy h 9 x, toPy h 9 y with
  | some a, some b => .ok (.bl (PyData.eqv a b)) h
  | _, _ => .bad
def opNe : D → D → HC → Res D := fun x y h => match toPy h 9 x, toPy h 9 y with
  | some a, some b => .ok (.bl (!PyData.eqv a b)) h
  | _, _ => .bad
/-- flat values -/
def flatD : D → Option V
  | .non => some .non
  | .bl b => some (.bl b)
  | .int i => some (.int i)
  | .str s => some (.str s)
  | _ => none
def opInB (neg : Bool) : D → D → HC → Res D
  | .str a, .str z, h => (match a.cps.toList with
    | [c] => .ok (.bl (if neg then !decide (c ∈ z.cps.toList) else decide (c ∈ z.cps.toList))) h
    | _ => .bad)
  | x, .tup ys, h => (match flatD x, optAll (ys.map flatD) with
    | some v, some vs => .ok (.bl (if neg then !inV v vs else inV v vs)) h
    | _, _ => .bad)
  | x, .ref n, h => (match toPy h 9 x, toPy h 9 (.ref n) with
    | some a, some (.list ds) => .ok (.bl (if neg then !(ds.any fun z => PyData.eqv z a) else ds.any fun z => PyData.eqv z a)) h
    | _, _ => .bad)
  | _, _, _ => .bad
abbrev opIn := opInB false
abbrev opNotIn := opInB true
def opIsN : D → D → HC → Res D
  | x, .non, h => .ok (.bl (decide (x = .non))) h
  | _, _, _ => .bad
def opNotN : D → D → HC → Res D
  | x, .non, h => .ok (.bl (!decide (x = .non))) h
  | _, _, _ => .bad
section
variable {K : PySem.W.Frag} {m : Mp} {h : HC} {H : Hp}
theorem os_eq : OpS K (rEqD K) opEq := by
  intro W σ m h H d1 d2 v1 v2 Q S r1 r2 p
  unfold opEq at p
  split at p
  · rename_i a b e1 e2
    exact ⟨a, b, toPy_ok S _ _ _ _ r1 e1, toPy_ok S _ _ _ _ r2 e2, toPy_shaped (by decide) e1, toPy_shaped (by decide) e2, p _ _ _ Ext.refl S (by simp [RelD])⟩
  · exact p.elim
theorem os_ne : OpS K (rNeD K) opNe := by
  intro W σ m h H d1 d2 v1 v2 Q S r1 r2 p
  unfold opNe at p
  split at p
  · rename_i a b e1 e2
    exact ⟨a, b, toPy_ok S _ _ _ _ r1 e1, toPy_ok S _ _ _ _ r2 e2, toPy_shaped (by decide) e1, toPy_shaped (by decide) e2, p _ _ _ Ext.refl S (by simp [RelD])⟩
  · exact p.elim
theorem flatD_ok {d : D} {v v' : V} (e : flatD d = some v') (r : RelD m H d v) : v = v' ∧ flatV v' = true := by
  cases d <;> simp [flatD] at e <;> subst e <;> simp only [RelD] at r <;> subst r <;> exact ⟨rfl, rfl⟩
theorem flatDs_ok : ∀ {ds : List D} {vs vs' : List V}, optAll (ds.map flatD) = some vs' → RelDs m H ds vs → vs = vs' ∧ vs'.all flatV = true
  | [], vs, vs', e, r => by
    simp only [RelDs] at r
    simp [optAll] at e
    subst e r
    exact ⟨rfl, rfl⟩
  | d :: ds, vs, vs', e, r => by
    simp only [RelDs] at r
    obtain ⟨v, ws, rfl, h1, h2⟩ := r
    cases q : flatD d with
    | none => simp [optAll, q] at e
    | some u =>
      cases q2 : optAll (ds.map flatD) with
      | none => simp [optAll, q, q2] at e
      | some us =>
        simp [optAll, q, q2] at e
        subst e
        obtain ⟨a1, a2⟩ := flatD_ok q h1
        obtain ⟨b1, b2⟩ := flatDs_ok q2 h2
        exact ⟨by rw [a1, b1], by simp [a2]; simpa using b2⟩
def rInAll (K : PySem.W.Frag) : R2 := fun x y H Q => rInS x y H Q ∨ rIn K false x y H Q ∨ rInD K x y H Q
def rNotInAll (K : PySem.W.Frag) : R2 := fun x y H Q => rNotInS x y H Q ∨ rIn K true x y H Q ∨ rNotInD K x y H Q
theorem op_inAll {X : Cx} (hu : X.A.units + 65 < cLine) : OpR X (compareOp .In) (rInAll X.K) := op_inS.or (op_in_seq.or (op_inD hu))
theorem op_notInAll {X : Cx} (hu : X.A.units + 65 < cLine) : OpR X (compareOp .NotIn) (rNotInAll X.K) := op_notInS.or (op_notIn_seq.or (op_notInD hu))
theorem sign_eq {a : Str} {c : Nat} (e : a.cps.toList = [c]) : a = ⟨#[c]⟩ := by
  cases a with
  | mk cps =>
    cases cps with
    | mk l =>
      simp at e
      subst e
      rfl
theorem os_in : OpS K (rInAll K) opIn := by
  intro W σ m h H d1 d2 v1 v2 Q S r1 r2 p
  unfold opIn opInB at p
  split at p
  · split at p
    · rename_i c e
      simp only [RelD] at r1 r2
      rw [sign_eq e] at r1
      exact .inl ⟨c, _, r1, r2, p _ _ _ Ext.refl S (by simp [RelD])⟩
    · exact p.elim
  · split at p
    · rename_i v vs e1 e2
      obtain ⟨rfl, f1⟩ := flatD_ok e1 r1
      simp only [RelD] at r2
      obtain ⟨q, us, rfl, hq, hr⟩ := r2
      obtain ⟨rfl, f2⟩ := flatDs_ok e2 hr
      exact .inr (.inl ⟨q, us, rfl, .inr (SqT.of hq), f1, f2, p _ _ _ Ext.refl S (by simp [RelD])⟩)
    · exact p.elim
  · split at p
    · rename_i a ds e1 e2
      exact .inr (.inr ⟨a, ds, toPy_ok S _ _ _ _ r1 e1, toPy_ok S _ _ _ _ r2 e2, toPy_shaped (by decide) e1, toPy_shaped (by decide) e2, p _ _ _ Ext.refl S (by simp [RelD])⟩)
    · exact p.elim
  · exact p.elim
theorem os_notIn : OpS K (rNotInAll K) opNotIn := by
  intro W σ m h H d1 d2 v1 v2 Q S r1 r2 p
  unfold opNotIn opInB at p
  split at p
  · split at p
    · rename_i c e
      simp only [RelD] at r1 r2
      rw [sign_eq e] at r1
      exact .inl ⟨c, _, r1, r2, p _ _ _ Ext.refl S (by simp [RelD])⟩
    · exact p.elim
  · split at p
    · rename_i v vs e1 e2
      obtain ⟨rfl, f1⟩ := flatD_ok e1 r1
      simp only [RelD] at r2
      obtain ⟨q, us, rfl, hq, hr⟩ := r2
      obtain ⟨rfl, f2⟩ := flatDs_ok e2 hr
      exact .inr (.inl ⟨q, us, rfl, .inr (SqT.of hq), f1, f2, p _ _ _ Ext.refl S (by simp [RelD])⟩)
    · exact p.elim
  · split at p
    · rename_i a ds e1 e2
      exact .inr (.inr ⟨a, ds, toPy_ok S _ _ _ _ r1 e1, toPy_ok S _ _ _ _ r2 e2, toPy_shaped (by decide) e1, toPy_shaped (by decide) e2, p _ _ _ Ext.refl S (by simp [RelD])⟩)
    · exact p.elim
  · exact p.elim
theorem RelD.non_iff {d : D} {v : V} (r : RelD m H d v) : decide (v = .non) = decide (d = .non) := by
  cases d <;> simp only [RelD] at r
  · subst r; simp
  · subst r; simp
  · subst r; simp
  · subst r; simp
  · obtain ⟨p, vs, rfl, _⟩ := r; simp
  · obtain ⟨a, _, rfl⟩ := r; simp
  · obtain ⟨rfl, _⟩ := r; simp
theorem os_isN : OpS K rIsN opIsN := by
  intro W σ m h H d1 d2 v1 v2 Q S r1 r2 p
  unfold opIsN at p
  split at p
  · simp only [RelD] at r2
    exact ⟨r2, by rw [r1.non_iff]; exact p _ _ _ Ext.refl S (by simp [RelD])⟩
  · exact p.elim
theorem os_notN : OpS K rNotN opNotN := by
  intro W σ m h H d1 d2 v1 v2 Q S r1 r2 p
  unfold opNotN at p
  split at p
  · simp only [RelD] at r2
    exact ⟨r2, by rw [r1.non_iff]; exact p _ _ _ Ext.refl S (by simp [RelD])⟩
  · exact p.elim
end

/-! ### truth and tests -/
def truD (h : HC) : D → Option Bool
  | .non => some false
  | .bl b => some b
  | .int i => some (i != 0)
  | .str s => if s.length ≤ BIG then some ((s.length : Int) != 0) else none
  | .tup xs => some (!xs.isEmpty)
  | .ref n => match h[n]? with
    | some (.lst xs) => some (!xs.isEmpty)
    | some (.dk xs) => some (!xs.isEmpty)
    | _ => none
  | .scr _ => none
theorem RelDs.isEmpty {m : Mp} {H : Hp} {ds : List D} {vs : List V} (r : RelDs m H ds vs) : ds.isEmpty = vs.isEmpty := by
  have := r.len
  cases ds <;> cases vs <;> simp_all
theorem RelK.isEmpty {κ : Type} {m : Mp} {H : Hp} {ds : List (κ × D)} {vs : List (κ × V)} (r : RelK m H ds vs) : ds.isEmpty = vs.isEmpty := by
  cases ds with
  | nil => simp only [RelK] at r; subst r; rfl
  | cons d ds =>
    simp only [RelK] at r
    obtain ⟨v, vs', rfl, _⟩ := r
    rfl
theorem truD_ok {K : PySem.W.Frag} {m : Mp} {h : HC} {H : Hp} {d : D} {v : V} {b : Bool} (S : Sm K m h H) (r : RelD m H d v) (e : truD h d = some b) : TruV K v H b := by
  cases d with
  | scr _ => simp [truD] at e
  | non => simp [truD] at e; simp only [RelD] at r; subst e r; rfl
  | bl b => simp [truD] at e; simp only [RelD] at r; subst e r; rfl
  | int i => simp only [truD, Option.some.injEq] at e; simp only [RelD] at r; subst r; exact e.symm
  | str s =>
    simp only [truD] at e
    simp only [RelD] at r
    subst r
    split at e
    · rename_i hl
      cases e
      exact ⟨Nat.le_trans hl big_le, rfl⟩
    · cases e
  | tup xs =>
    simp only [truD, Option.some.injEq] at e
    simp only [RelD] at r
    obtain ⟨p, vs, rfl, hp, hr⟩ := r
    exact .inr (.inl ⟨vs, SqT.of hp, by rw [← e, hr.isEmpty]⟩)
  | ref n =>
    simp only [truD] at e
    simp only [RelD] at r
    obtain ⟨a, ha, rfl⟩ := r
    split at e
    · rename_i xs hx
      obtain ⟨vs, hv, hr⟩ := S.cell n _ a hx ha
      cases e
      exact .inl ⟨vs, SqL.of hv, by rw [hr.isEmpty]⟩
    · rename_i xs hx
      obtain ⟨vs, hv, hr⟩ := S.cell n _ a hx ha
      cases e
      exact .inr (.inr ⟨vs, hv, by rw [hr.isEmpty]⟩)
    · cases e
def fTru (a : EE) : ET := fun s h => (a s h).bind fun x h1 => match truD h1 x with
  | some b => .ok b h1
  | none => .bad
def fNot (a : ET) : ET := fun s h => (a s h).bind fun b h1 => .ok (!b) h1
def fAnd (a b : ET) : ET := fun s h => (a s h).bind fun x h1 => if x = true then b s h1 else .ok false h1
def fOr (a b : ET) : ET := fun s h => (a s h).bind fun x h1 => if x = true then .ok true h1 else b s h1
/-- as values -/
def fNotV (a : EE) : EE := fun s h => (a s h).bind fun x h1 => match truD h1 x with
  | some b => .ok (.bl (!b)) h1
  | none => .bad
def fAndV (a b : EE) : EE := fun s h => (a s h).bind fun x h1 => match truD h1 x with
  | some k => if k = true then b s h1 else .ok x h1
  | none => .bad
def fOrV (a b : EE) : EE := fun s h => (a s h).bind fun x h1 => match truD h1 x with
  | some k => if k = true then .ok x h1 else b s h1
  | none => .bad
def fIf (c : ET) (a b : EE) : EE := fun s h => (c s h).bind fun x h1 => if x = true then a s h1 else b s h1
def fChain (op op' : D → D → HC → Res D) (a b c : EE) : EE := fun s h => (a s h).bind fun x h1 => (b s h1).bind fun y h2 => (op x y h2).bind fun z h3 => match z with
  | .bl true => (c s h3).bind fun w h4 => op' y w h4
  | .bl false => .ok (.bl false) h3
  | _ => .bad
section
variable {X : Cx} {W : WX} {a b c : Expr} {fa fb fc : EE} {ga gb gc : ET} {pos : Pos} {rest : List Expr}
theorem st_tru (ha : PE X a (rE X.K W fa)) (he : ∀ whole, isTrue a X.env whole = (do let v ← whole; standAt a.pos; holding [v] (truthy v)) := by intro _; rfl) : PT X a (rT X.K W (fTru fa)) :=
  PTw (pt_truth ha he) fun σ H Q q => rd_mono (rd_bind (R := RelD) (f := fa) (g := fun x s h1 => match truD h1 x with | some b => .ok b h1 | none => .bad) q) fun x H1 ⟨m1, s, h1, d1, S1, r1, q1, p1⟩ => by
    split at p1
    · rename_i k e
      exact ⟨k, truD_ok S1 q1 e, p1 _ _ _ Ext.refl S1 rfl⟩
    · exact p1.elim
/-- a comparison as a test: its answer is a bool -/
def fBo (a : EE) : ET := fun s h => (a s h).bind fun x h1 => match x with
  | .bl b => .ok b h1
  | _ => .bad
theorem tTest_of {K : PySem.W.Frag} {t : TE} (w : ∀ σ H Q, rE K W fa σ H Q → t σ H Q) (σ : L2.St) (H : Hp) (Q : Bool → Hp → Prop) (q : rT K W (fBo fa) σ H Q) : tTest t σ H Q := by
  refine w σ H _ (rd_mono (rd_bind (R := RelD) (f := fa) (g := fun x s h1 => match x with | .bl b => .ok b h1 | _ => .bad) q) fun x H1 ⟨m1, s, h1, d1, S1, r1, q1, p1⟩ => ?_)
  split at p1
  · simp only [RelD] at q1
    exact ⟨_, q1, p1 _ _ _ Ext.refl S1 rfl⟩
  · exact p1.elim
theorem st_not (ha : PT X a (rT X.K W ga)) : PT X (.UnaryOp .Not a pos) (rT X.K W (fNot ga)) :=
  PTw (pt_not ha) fun σ H Q q => rd_mono (rd_bind (R := RelB) (f := ga) (g := fun b s h1 => .ok (!b) h1) q) fun x H1 ⟨m1, s, h1, d1, S1, r1, q1, p1⟩ => by
    obtain rfl : d1 = x := q1
    exact p1 _ _ _ Ext.refl S1 rfl
theorem sw_and1 (ha : PT X a (rT X.K W ga)) : PW X (.BoolOp .And [a] pos) (rT X.K W ga) := pw_and1 ha
theorem sw_or1 (ha : PT X a (rT X.K W ga)) : PW X (.BoolOp .Or [a] pos) (rT X.K W ga) := pw_or1 ha
theorem sw_and (ha : PT X a (rT X.K W ga)) (hb : PW X (.BoolOp .And (b :: rest) pos) (rT X.K W gb)) : PW X (.BoolOp .And (a :: b :: rest) pos) (rT X.K W (fAnd ga gb)) :=
  PWw (pw_and ha hb) fun σ H Q q => rd_mono (rd_bind (R := RelB) (f := ga) (g := fun x s h1 => if x = true then gb s h1 else .ok false h1) q) fun x H1 ⟨m1, s, h1, d1, S1, r1, q1, p1⟩ => by
    obtain rfl : d1 = x := q1
    cases d1 with
    | true => exact ⟨m1, s, h1, S1, r1, p1⟩
    | false => exact p1 _ _ _ Ext.refl S1 rfl
theorem sw_or (ha : PT X a (rT X.K W ga)) (hb : PW X (.BoolOp .Or (b :: rest) pos) (rT X.K W gb)) : PW X (.BoolOp .Or (a :: b :: rest) pos) (rT X.K W (fOr ga gb)) :=
  PWw (pw_or ha hb) fun σ H Q q => rd_mono (rd_bind (R := RelB) (f := ga) (g := fun x s h1 => if x = true then .ok true h1 else gb s h1) q) fun x H1 ⟨m1, s, h1, d1, S1, r1, q1, p1⟩ => by
    obtain rfl : d1 = x := q1
    cases d1 with
    | false => exact ⟨m1, s, h1, S1, r1, p1⟩
    | true => exact p1 _ _ _ Ext.refl S1 rfl
theorem se_notV (ha : PE X a (rE X.K W fa)) : PE X (.UnaryOp .Not a pos) (rE X.K W (fNotV fa)) :=
  PEw (pe_notT ha) fun σ H Q q => rd_mono (rd_bind (R := RelD) (f := fa) (g := fun x s h1 => match truD h1 x with | some b => .ok (D.bl (!b)) h1 | none => .bad) q) fun x H1 ⟨m1, s, h1, d1, S1, r1, q1, p1⟩ => by
    split at p1
    · rename_i k e
      exact ⟨k, truD_ok S1 q1 e, p1 _ _ _ Ext.refl S1 (by simp [RelD])⟩
    · exact p1.elim
theorem se_one {op} (h : PE X a (rE X.K W fa)) : PE X (.BoolOp op [a] pos) (rE X.K W fa) := pe_one h
theorem se_andV (ha : PE X a (rE X.K W fa)) (hb : PE X (.BoolOp .And (b :: rest) pos) (rE X.K W fb)) : PE X (.BoolOp .And (a :: b :: rest) pos) (rE X.K W (fAndV fa fb)) :=
  PEw (pe_andT ha hb) fun σ H Q q => rd_mono (rd_bind (R := RelD) (f := fa) (g := fun x s h1 => match truD h1 x with | some k => (if k = true then fb s h1 else .ok x h1) | none => .bad) q) fun x H1 ⟨m1, s, h1, d1, S1, r1, q1, p1⟩ => by
    split at p1
    · rename_i k e
      refine ⟨k, truD_ok S1 q1 e, ?_⟩
      cases k with
      | true => exact ⟨m1, s, h1, S1, r1, p1⟩
      | false => exact p1 _ _ _ Ext.refl S1 q1
    · exact p1.elim
theorem se_orV (ha : PE X a (rE X.K W fa)) (hb : PE X (.BoolOp .Or (b :: rest) pos) (rE X.K W fb)) : PE X (.BoolOp .Or (a :: b :: rest) pos) (rE X.K W (fOrV fa fb)) :=
  PEw (pe_orT ha hb) fun σ H Q q => rd_mono (rd_bind (R := RelD) (f := fa) (g := fun x s h1 => match truD h1 x with | some k => (if k = true then .ok x h1 else fb s h1) | none => .bad) q) fun x H1 ⟨m1, s, h1, d1, S1, r1, q1, p1⟩ => by
    split at p1
    · rename_i k e
      refine ⟨k, truD_ok S1 q1 e, ?_⟩
      cases k with
      | false => exact ⟨m1, s, h1, S1, r1, p1⟩
      | true => exact p1 _ _ _ Ext.refl S1 q1
    · exact p1.elim
theorem se_if (hc : PT X c (rT X.K W gc)) (ha : PE X a (rE X.K W fa)) (hb : PE X b (rE X.K W fb)) : PE X (.IfExp c a b pos) (rE X.K W (fIf gc fa fb)) :=
  PEw (pe_ifExp hc ha hb) fun σ H Q q => rd_mono (rd_bind (R := RelB) (f := gc) (g := fun x s h1 => if x = true then fa s h1 else fb s h1) q) fun x H1 ⟨m1, s, h1, d1, S1, r1, q1, p1⟩ => by
    obtain rfl : d1 = x := q1
    cases d1 with
    | true => exact ⟨m1, s, h1, S1, r1, p1⟩
    | false => exact ⟨m1, s, h1, S1, r1, p1⟩
variable {r r' : R2} {op op' : D → D → HC → Res D}
theorem st_cmp {o : CmpOp} (ho : OpR X (compareOp o) r) (hs : OpS X.K r op) (ha : PE X a (rE X.K W fa)) (hb : PE X b (rE X.K W fb)) (hm : behindInMarks o b = false := by first | exact nomark _ | rfl) :
    PT X (.Compare a [o] [b] pos) (rT X.K W (fBo (fOp op fa fb))) :=
  PTw (pt_cmpR ho ha hb hm) fun σ H Q q => tTest_of (tOp_of hs) σ H Q q
theorem tChain_of {K : PySem.W.Frag} (hs : OpS K r op) (hs' : OpS K r' op') (σ : L2.St) (H : Hp) (Q : VK) (q : rE K W (fChain op op' fa fb fc) σ H Q) : tChain r r' (rE K W fa) (rE K W fb) (rE K W fc) σ H Q := by
  refine rd_mono (rd_bind (R := RelD) (f := fa) (g := fun x s h1 => (fb s h1).bind fun y h2 => (op x y h2).bind fun z h3 => match z with
    | .bl true => (fc s h3).bind fun w h4 => op' y w h4
    | .bl false => .ok (.bl false) h3
    | _ => .bad) q) fun x H1 ⟨m1, s, h1, d1, S1, r1, q1, p1⟩ => ?_
  refine ⟨m1, s, h1, S1, r1, ?_⟩
  cases e : fb s h1 with
  | ok d2 h2 =>
    rw [e] at p1
    intro m2 H2 y E2 S2 q2
    have p2 := post_ext p1 E2
    refine hs W σ m2 h2 H2 d1 d2 x y _ S2 (q1.mono S1 E2) q2 ?_
    dsimp only [Res.bind] at p2
    cases e3 : op d1 d2 h2 with
    | ok z h3 =>
      rw [e3] at p2
      intro m3 H3 zv E3 S3 q3
      have p3 := post_ext p2 E3
      dsimp only at p3
      split at p3
      · simp only [RelD] at q3
        refine ⟨true, q3, ?_⟩
        rw [if_pos rfl]
        refine ⟨m3, s, h3, S3, (r1.mono S1 E2).mono S2 E3, ?_⟩
        cases e4 : fc s h3 with
        | ok d4 h4 =>
          rw [e4] at p3
          exact fun m4 H4 w E4 S4 q4 => hs' W σ m4 h4 H4 d2 d4 y w Q S4 ((q2.mono S2 E3).mono S3 E4) q4 (post_ext p3 E4)
        | exc c h4 => rw [e4] at p3; exact p3
        | bad => rw [e4] at p3; exact p3
      · simp only [RelD] at q3
        exact ⟨false, q3, by rw [if_neg Bool.false_ne_true]; exact p3 _ _ _ Ext.refl S3 (by simp [RelD])⟩
      · exact p3.elim
    | exc c h3 => rw [e3] at p2; exact p2
    | bad => rw [e3] at p2; exact p2
  | exc c h2 =>
    rw [e] at p1
    exact p1
  | bad =>
    rw [e] at p1
    exact p1
theorem se_chain {o o' : CmpOp} (ho : OpR X (compareOp o) r) (hs : OpS X.K r op) (ho' : OpR X (compareOp o') r') (hs' : OpS X.K r' op') (ha : PE X a (rE X.K W fa)) (hb : PE X b (rE X.K W fb)) (hc : PE X c (rE X.K W fc))
    (hm : lastMarks [o, o'] [b, c] = false := by with_unfolding_all rfl) : PE X (.Compare a [o, o'] [b, c] pos) (rE X.K W (fChain op op' fa fb fc)) :=
  PEw (pe_chain ho ho' ha hb hc hm) (tChain_of hs hs')
theorem st_chain {o o' : CmpOp} (ho : OpR X (compareOp o) r) (hs : OpS X.K r op) (ho' : OpR X (compareOp o') r') (hs' : OpS X.K r' op') (ha : PE X a (rE X.K W fa)) (hb : PE X b (rE X.K W fb)) (hc : PE X c (rE X.K W fc))
    (hm : lastMarks [o, o'] [b, c] = false := by with_unfolding_all rfl) : PT X (.Compare a [o, o'] [b, c] pos) (rT X.K W (fBo (fChain op op' fa fb fc))) :=
  PTw (pt_chain ho ho' ha hb hc hm) fun σ H Q q => tTest_of (tChain_of hs hs') σ H Q q
end
end G9

set_option Elab.async false
set_option linter.all false
set_option maxRecDepth 100000
set_option maxHeartbeats 2000000
namespace G9
open PySem PySem.Spec PyProof.Rows L2

/-! ### arguments, displays -/
def fNil : EA := fun _ h => .ok [] h
def fCons (a : EE) (as : EA) : EA := fun s h => (a s h).bind fun x h1 => (as s h1).bind fun xs h2 => .ok (x :: xs) h2
def fTup (as : EA) : EE := fun s h => (as s h).bind fun xs h1 => mkT xs h1
def fLst (as : EA) : EE := fun s h => (as s h).bind fun xs h1 => newL xs h1
section
variable {X : Cx} {W : WX} {e : Expr} {es : List Expr} {fa : EE} {as : EA} {pos : Pos}
theorem sa_nil : PA X [] (rA X.K W fNil) := PAw pa_nil fun σ H Q q => by
  obtain ⟨m, s, h, S, r, p⟩ := q
  exact p _ _ _ Ext.refl S RelDs.nil
theorem sa_cons (ha : PE X e (rE X.K W fa)) (hr : PA X es (rA X.K W as)) (hs : starEach (e :: es) X.env = (false, eval e X.env) :: starEach es X.env := by rfl) : PA X (e :: es) (rA X.K W (fCons fa as)) :=
  PAw (pa_cons ha hr hs) fun σ H Q q => rd_mono (rd_bind (R := RelD) (f := fa) (g := fun x s h1 => (as s h1).bind fun xs h2 => .ok (x :: xs) h2) q) fun x H1 ⟨m1, s, h1, d1, S1, r1, q1, p1⟩ => by
    refine ⟨m1, s, h1, S1, r1, ?_⟩
    cases e : as s h1 with
    | ok ds h2 =>
      rw [e] at p1
      exact fun m2 H2 vs E2 S2 q2 => p1 m2 H2 _ E2 S2 (RelDs.cons (q1.mono S1 E2) q2)
    | exc c h2 => rw [e] at p1; exact p1
    | bad => rw [e] at p1; exact p1
theorem se_tup {x1} (h : PA X es (rA X.K W as)) : PE X (.Tuple es x1 pos) (rE X.K W (fTup as)) :=
  PEw (pe_tup h) fun σ H Q q => rd_mono (rd_bind (R := RelDs) (f := as) (g := fun xs s h1 => mkT xs h1) q) fun x H1 ⟨m1, s, h1, d1, S1, r1, q1, p1⟩ =>
    mkT_ok S1 q1 p1 fun a b _ => ⟨a, b⟩
theorem se_lst (h : PA X es (rA X.K W as)) : PE X (.List es pos) (rE X.K W (fLst as)) :=
  PEw (pe_lst h) fun σ H Q q => rd_mono (rd_bind (R := RelDs) (f := as) (g := fun xs s h1 => newL xs h1) q) fun x H1 ⟨m1, s, h1, d1, S1, r1, q1, p1⟩ =>
    newL_ok S1 q1 p1 fun a b => ⟨a, b⟩
end

/-! ### subscripts -/
def asSeq (h : HC) (n : Nat) : Option (List D) := match h[n]? with
  | some (.lst xs) => some xs
  | _ => none
def opIx : D → D → HC → Res D
  | .tup xs, .int i, h => (match atI xs i with
    | some d => .ok d h
    | none => .bad)
  | .ref n, .int i, h => (match asSeq h n with
    | some xs => (match atI xs i with
      | some d => .ok d h
      | none => .bad)
    | none => .bad)
  | .str z, .int i, h => if z.length ≤ BIG then (match atI z.cps.toList i with
    | some c => .ok (.str ⟨#[c]⟩) h
    | none => .bad) else .bad
  | .scr ns, .int i, h => (match atI ns i with
    | some n => .ok (.int n) h
    | none => .bad)
  | _, _, _ => .bad
section
variable {K : PySem.W.Frag} {m : Mp} {h : HC} {H : Hp}
theorem Sm.seq (S : Sm K m h H) {n : Nat} {v : V} {xs : List D} (r : RelD m H (.ref n) v) (e : asSeq h n = some xs) : ∃ a vs, v = .ref a ∧ m.ad[n]? = some a ∧ SqL K H a vs ∧ RelDs m H xs vs := by
  simp only [RelD] at r
  obtain ⟨a, ha, rfl⟩ := r
  unfold asSeq at e
  split at e
  · rename_i ys hy
    cases e
    obtain ⟨vs, hv, hr⟩ := S.cell n _ a hy ha
    exact ⟨a, vs, rfl, ha, SqL.of hv, hr⟩
  · cases e
theorem atI_rel {ds : List D} {vs : List V} {i : Int} {d : D} (r : RelDs m H ds vs) (e : atI ds i = some d) : ∃ v, atI vs i = some v ∧ RelD m H d v := by
  unfold atI at e ⊢
  rw [← r.len]
  cases q : ixN ds.length i with
  | none => rw [q] at e; cases e
  | some j =>
    rw [q] at e
    exact r.get e
theorem os_ix : OpS K (rIx K) opIx := by
  intro W σ m h H d1 d2 v1 v2 Q S r1 r2 p
  unfold opIx at p
  split at p
  · split at p
    · rename_i xs i d e
      simp only [RelD] at r1 r2
      obtain ⟨q, vs, rfl, hq, hr⟩ := r1
      obtain ⟨v, hv, hd⟩ := atI_rel hr e
      exact .inr (.inl ⟨q, vs, _, v, rfl, r2, SqT.of hq, hv, p _ _ _ Ext.refl S hd⟩)
    · exact p.elim
  · split at p
    · rename_i xs hx
      split at p
      · rename_i d e
        obtain ⟨a, vs, rfl, _, hs, hr⟩ := S.seq r1 hx
        obtain ⟨v, hv, hd⟩ := atI_rel hr e
        simp only [RelD] at r2
        exact .inl ⟨a, vs, _, v, rfl, r2, hs, hv, p _ _ _ Ext.refl S hd⟩
      · exact p.elim
    · exact p.elim
  · split at p
    · rename_i hl
      split at p
      · rename_i c e
        simp only [RelD] at r1 r2
        exact .inr (.inr ⟨_, _, c, r1, r2, Nat.le_trans hl big_le, e, p _ _ _ Ext.refl S (by simp [RelD])⟩)
      · exact p.elim
    · exact p.elim
  · split at p
    · rename_i ns i _ n e
      simp only [RelD] at r1 r2
      obtain ⟨rfl, rfl⟩ := r1
      refine .inl ⟨_, _, i, .int n, rfl, r2, S.scr.sq, ?_, p _ _ _ Ext.refl S (by simp [RelD])⟩
      unfold atI at e ⊢
      rw [List.length_map]
      cases q : ixN m.ns.length i with
      | none => rw [q] at e; cases e
      | some j =>
        rw [q] at e
        simp only [Option.bind] at e ⊢
        simp [e]
    · exact p.elim
  · exact p.elim
end
section
variable {X : Cx} {W : WX} {a b c : Expr} {fa fb fc : EE} {pos : Pos}
theorem se_ix (ha : PE X a (rE X.K W fa)) (hb : PE X b (rE X.K W fb)) (hs : PlainIx b := by intro _ _; rfl) : PE X (.Subscript a b pos) (rE X.K W (fOp opIx fa fb)) :=
  PEw (pe_ix ix_seq ha hb hs) (tOp_of os_ix)
end

/-! ### slices -/
def cutD {α : Type} (xs : List α) (lo hi : Option Int) : List α := (xs.drop (HT.sIx xs.length 0 lo)).take (HT.sIx xs.length xs.length hi - HT.sIx xs.length 0 lo)
abbrev EO := SD → HC → Res (Option Int)
def fNoP : EO := fun _ h => .ok none h
def fPart (a : EE) : EO := fun s h => (a s h).bind fun x h1 => match x with
  | .int i => .ok (some i) h1
  | _ => .bad
def opSl (x : D) (lo hi : Option Int) (h : HC) : Res D := match x with
  | .tup xs => mkT (cutD xs lo hi) h
  | .ref n => (match asSeq h n with
    | some xs => newL (cutD xs lo hi) h
    | none => .bad)
  | .str z => if z.length ≤ BIG then .ok (.str (cutS z lo hi)) h else .bad
  | _ => .bad
def fSl (a : EE) (lo hi : EO) : EE := fun s h => (a s h).bind fun x h1 => (lo s h1).bind fun l h2 => (hi s h2).bind fun u h3 => opSl x l u h3
theorem cut_rel {m : Mp} {H : Hp} {ds : List D} {vs : List V} {lo hi : Option Int} (r : RelDs m H ds vs) : RelDs m H (cutD ds lo hi) (cutV vs lo hi) := by
  unfold cutD cutV
  rw [← r.len]
  exact (r.drop _).take _
def rSlAll (K : PySem.W.Frag) : V → Option Int → Option Int → Hp → VK → Prop := fun x lo hi H Q => rSlA K x lo hi H Q ∨ rSlL K x lo hi H Q ∨ rSlS x lo hi H Q
theorem sl_all {X : Cx} : SlR X (rSlAll X.K) := sl_tupA.or (sl_list.or sl_str)
theorem cutV_whole (vs : List V) (lo hi : Option Int) (h : HT.sIx vs.length 0 lo = 0 ∧ HT.sIx vs.length vs.length hi = vs.length) : cutV vs lo hi = vs := by
  unfold cutV
  rw [h.1, h.2]
  simp
section
variable {X : Cx} {W : WX} {e lo hi : Expr} {f : EE} {fl fh : EO} {p2 pos : Pos}
abbrev rO (K : PySem.W.Frag) (W : WX) (f : EO) : L2.St → Hp → (Option Int → Hp → Prop) → Prop := rd (fun _ _ (a b : Option Int) => a = b) K W f
theorem POw {lo : Option Expr} {t t' : TO} (h : PO X lo t) (w : ∀ σ H Q, t' σ H Q → t σ H Q) : PO X lo t' := ⟨fun pins s σ H Q I q => h.run pins s σ H Q I (w _ _ _ q)⟩
theorem so_none : PO X none (rO X.K W fNoP) := POw po_none fun σ H Q q => by
  obtain ⟨m, s, h, S, r, p⟩ := q
  exact p _ _ _ Ext.refl S rfl
theorem so_some (h : PE X e (rE X.K W f)) : PO X (some e) (rO X.K W (fPart f)) := POw (po_some h) fun σ H Q q => by
  refine rd_mono (rd_bind (R := RelD) (f := f) (g := fun x s h1 => match x with | .int i => .ok (some i) h1 | _ => .bad) q) fun x H1 ⟨m1, s, h1, d1, S1, r1, q1, p1⟩ => ?_
  split at p1
  · simp only [RelD] at q1
    exact ⟨_, q1, p1 _ _ _ Ext.refl S1 rfl⟩
  · exact p1.elim
theorem opSl_ok {K : PySem.W.Frag} {σ : L2.St} {m : Mp} {h : HC} {H : Hp} {d : D} {v : V} {lo hi : Option Int} {Q : VK} (S : Sm K m h H) (r : RelD m H d v) (p : post RelD K W σ m H Q (opSl d lo hi h)) : rSlAll K v lo hi H Q := by
  unfold opSl at p
  split at p
  · simp only [RelD] at r
    obtain ⟨a, vs, rfl, ha, hr⟩ := r
    refine mkT_ok S (cut_rel hr) p fun hl k1 k2 => .inl ⟨a, vs, rfl, SqT.of ha, fun hw => ?_, fun _ => k1⟩
    exact k2 a (by rw [cutV_whole vs lo hi hw]; exact ha)
  · split at p
    · rename_i xs hx
      obtain ⟨a, vs, rfl, _, hs, hr⟩ := S.seq r hx
      exact newL_ok S (cut_rel hr) p fun hl k => .inr (.inl ⟨a, vs, rfl, hs, k⟩)
    · exact p.elim
  · split at p
    · rename_i hl
      simp only [RelD] at r
      exact .inr (.inr ⟨_, r, Nat.le_trans hl big_le, p _ _ _ Ext.refl S (by simp [RelD])⟩)
    · exact p.elim
  · exact p.elim
theorem se_sl {lo hi : Option Expr} (he : PE X e (rE X.K W f)) (hl : PO X lo (rO X.K W fl)) (hh : PO X hi (rO X.K W fh)) : PE X (.Subscript e (.Slice lo hi none p2) pos) (rE X.K W (fSl f fl fh)) :=
  PEw (pe_slice sl_all he hl hh) fun σ H Q q => by
    refine rd_mono (rd_bind (R := RelD) (f := f) (g := fun x s h1 => (fl s h1).bind fun l h2 => (fh s h2).bind fun u h3 => opSl x l u h3) q) fun x H1 ⟨m1, s, h1, d1, S1, r1, q1, p1⟩ => ?_
    have p1' : rd RelD X.K W (fun s h1 => (fl s h1).bind fun l h2 => (fh s h2).bind fun u h3 => opSl d1 l u h3) σ H1 Q := ⟨m1, s, h1, S1, r1, p1⟩
    refine ⟨m1, s, h1, S1, r1, ?_⟩
    cases e2 : fl s h1 with
    | ok l h2 =>
      rw [e2] at p1
      intro m2 H2 l' E2 S2 q2
      obtain rfl : l = l' := q2
      have p2 := post_ext p1 E2
      refine ⟨m2, s, h2, S2, r1.mono S1 E2, ?_⟩
      dsimp only [Res.bind] at p2
      cases e3 : fh s h2 with
      | ok u h3 =>
        rw [e3] at p2
        intro m3 H3 u' E3 S3 q3
        obtain rfl : u = u' := q3
        exact opSl_ok S3 ((q1.mono S1 E2).mono S2 E3) (post_ext p2 E3)
      | exc c h3 => rw [e3] at p2; exact p2
      | bad => rw [e3] at p2; exact p2
    | exc c h2 => rw [e2] at p1; exact p1
    | bad => rw [e2] at p1; exact p1
end

/-! ### calls of built-ins by values -/
/-- r: what the layer asks; f: what it gives -/
def ClS (K : PySem.W.Frag) (r : List V → Hp → VK → Prop) (f : List D → HC → Res D) : Prop :=
  ∀ (W : WX) (σ : L2.St) (m : Mp) (h : HC) (H : Hp) (ds : List D) (vs : List V) (Q : VK), Sm K m h H → RelDs m H ds vs → post RelD K W σ m H Q (f ds h) → r vs H Q
def fCl (f : List D → HC → Res D) (as : EA) : EE := fun s h => (as s h).bind fun xs h1 => f xs h1
theorem tCB_of {K : PySem.W.Frag} {W : WX} {r : List V → Hp → VK → Prop} {f : List D → HC → Res D} {as : EA} (hs : ClS K r f) (σ : L2.St) (H : Hp) (Q : VK) (q : rE K W (fCl f as) σ H Q) : tCB r (rA K W as) σ H Q :=
  rd_mono (rd_bind (R := RelDs) (f := as) (g := fun xs s h1 => f xs h1) q) fun x H1 ⟨m1, s, h1, d1, S1, r1, q1, p1⟩ => hs W σ m1 h1 H1 d1 x Q S1 q1 p1
section
variable {X : Cx} {W : WX} {e : Expr} {es : List Expr} {as : EA} {p pos : Pos} {x : Str} {r : List V → Hp → VK → Prop} {f : List D → HC → Res D} {id T : String}
theorem se_clB (hc : CallR X (.builtin id) r) (hs : ClS X.K r f) (hm : X.mg x = none) (hv : bootBuiltins x = some (.builtin id)) (ha : PA X (e :: es) (rA X.K W as)) (hg : Gl X x := by rfl) (hn : x ≠ "__name__" := by decide) (hdb : (x == ("__debug__" : Str)) = false := by decide)
    (he : starEach (e :: es) X.env = (false, eval e X.env) :: starEach es X.env := by rfl) (hpl : (backTo pos (starEach es X.env)).any (·.1) = false := by rfl) : PE X (.Call (.Name x p) (e :: es) [] pos) (rE X.K W (fCl f as)) :=
  PEw (pe_callB hc hg hm hv ha hn hdb he hpl) (tCB_of hs)
theorem se_clT (hc : CallR X (.type T) r) (hs : ClS X.K r f) (hm : X.mg x = none) (hv : bootBuiltins x = some (.type T)) (ha : PA X (e :: es) (rA X.K W as)) (hg : Gl X x := by rfl) (hn : x ≠ "__name__" := by decide) (hdb : (x == ("__debug__" : Str)) = false := by decide)
    (he : starEach (e :: es) X.env = (false, eval e X.env) :: starEach es X.env := by rfl) (hpl : (backTo pos (starEach es X.env)).any (·.1) = false := by rfl) : PE X (.Call (.Name x p) (e :: es) [] pos) (rE X.K W (fCl f as)) :=
  PEw (pe_callTy hc hg hm hv ha hn hdb he hpl) (tCB_of hs)
end
section
variable {X : Cx} {f : Value} {r r' : List V → Hp → VK → Prop}
theorem CallR.or (h : CallR X f r) (h' : CallR X f r') : CallR X f (fun xs H Q => r xs H Q ∨ r' xs H Q) := by
  intro pins s σ H xs us Q I rx q
  rcases q with q | q
  · exact h pins s σ H xs us Q I rx q
  · exact h' pins s σ H xs us Q I rx q
end
theorem RelDs.one {m : Mp} {H : Hp} {d : D} {vs : List V} (r : RelDs m H [d] vs) : ∃ v, vs = [v] ∧ RelD m H d v := by
  simp only [RelDs] at r
  obtain ⟨v, vs', rfl, h1, h2⟩ := r
  subst h2
  exact ⟨v, rfl, h1⟩
theorem RelDs.two {m : Mp} {H : Hp} {d e : D} {vs : List V} (r : RelDs m H [d, e] vs) : ∃ v w, vs = [v, w] ∧ RelD m H d v ∧ RelD m H e w := by
  simp only [RelDs] at r
  obtain ⟨v, vs', rfl, h1, w, ws, rfl, h2, h3⟩ := r
  subst h3
  exact ⟨v, w, rfl, h1, h2⟩

/-- len -/
def bLen : List D → HC → Res D
  | [.str z], h => if z.length ≤ BIG then .ok (.int z.length) h else .bad
  | [.tup xs], h => .ok (.int xs.length) h
  | [.ref n], h => (match asSeq h n with
    | some xs => .ok (.int xs.length) h
    | none => .bad)
  | [.scr ns], h => .ok (.int ns.length) h
  | _, _ => .bad
def rLenAll (K : PySem.W.Frag) : List V → Hp → VK → Prop := fun xs H Q => (∃ p ys, xs = [.ref p] ∧ (SqL K H p ys ∨ SqT K H p ys) ∧ Q (.int ys.length) H) ∨ ∃ z, xs = [.str z] ∧ z.length ≤ sizeLine ∧ Q (.int z.length) H
theorem call_lenAll {X : Cx} : CallR X (.builtin "len") (rLenAll X.K) := CallR.or call_len_seq call_len_str
theorem cs_len {K : PySem.W.Frag} : ClS K (rLenAll K) bLen := by
  intro W σ m h H ds vs Q S r p
  unfold bLen at p
  split at p
  · obtain ⟨v, rfl, rv⟩ := r.one
    simp only [RelD] at rv
    subst rv
    split at p
    · rename_i hl
      exact .inr ⟨_, rfl, Nat.le_trans hl big_le, p _ _ _ Ext.refl S (by simp [RelD])⟩
    · exact p.elim
  · obtain ⟨v, rfl, rv⟩ := r.one
    simp only [RelD] at rv
    obtain ⟨a, us, rfl, ha, hr⟩ := rv
    exact .inl ⟨a, us, rfl, .inr (SqT.of ha), p _ _ _ Ext.refl S (by simp [RelD, hr.len])⟩
  · split at p
    · rename_i xs hx
      obtain ⟨v, rfl, rv⟩ := r.one
      obtain ⟨a, us, rfl, _, hs, hr⟩ := S.seq rv hx
      exact .inl ⟨a, us, rfl, .inl hs, p _ _ _ Ext.refl S (by simp [RelD, hr.len])⟩
    · exact p.elim
  · obtain ⟨v, rfl, rv⟩ := r.one
    simp only [RelD] at rv
    obtain ⟨rfl, rfl⟩ := rv
    exact .inl ⟨_, _, rfl, .inl S.scr.sq, p _ _ _ Ext.refl S (by simp [RelD])⟩
  · exact p.elim

/-- isinstance of a built-in type -/
def tyName (h : HC) : D → Option String
  | .non => some "NoneType"
  | .bl _ => some "bool"
  | .int _ => some "int"
  | .str _ => some "str"
  | .tup _ => some "tuple"
  | .ref n => match h[n]? with
    | some (.lst _) => some "list"
    | some (.dk _) => some "dict"
    | some (.dt _) => some "dict"
    | _ => none
  | .scr _ => none
/-- the answers that are asked for, by name of type and class -/
def isiT (t c : String) : Option Bool :=
  if c = "int" then (if t = "int" ∨ t = "bool" then some true else if t = "NoneType" ∨ t = "str" ∨ t = "tuple" ∨ t = "list" ∨ t = "dict" then some false else none)
  else if c = "bool" ∨ c = "str" ∨ c = "tuple" ∨ c = "list" then (if t = c then some true else if t = "int" ∨ t = "bool" ∨ t = "NoneType" ∨ t = "str" ∨ t = "tuple" ∨ t = "list" ∨ t = "dict" then some false else none)
  else none
theorem isiT_ok {t c : String} {b : Bool} (e : isiT t c = some b) : kitB t c = some b := by
  unfold isiT at e
  split at e
  · rename_i hc
    subst hc
    split at e
    · rename_i ht
      cases e
      rcases ht with rfl | rfl <;> decide +kernel
    · split at e
      · rename_i ht
        cases e
        rcases ht with rfl | rfl | rfl | rfl | rfl <;> decide +kernel
      · cases e
  · split at e
    · rename_i hc
      split at e
      · rename_i ht
        cases e
        subst ht
        rcases hc with rfl | rfl | rfl | rfl <;> decide +kernel
      · rename_i hne
        split at e
        · rename_i ht
          cases e
          rcases hc with rfl | rfl | rfl | rfl <;> rcases ht with rfl | rfl | rfl | rfl | rfl | rfl | rfl <;> first | exact absurd rfl hne | decide +kernel
        · cases e
    · cases e
def fIsi (c : String) (a : EE) : EE := fun s h => (a s h).bind fun x h1 => match tyName h1 x with
  | some t => (match isiT t c with
    | some b => .ok (.bl b) h1
    | none => .bad)
  | none => .bad
theorem tyName_ok {K : PySem.W.Frag} {m : Mp} {h : HC} {H : Hp} {d : D} {v : V} {t : String} (S : Sm K m h H) (r : RelD m H d v) (e : tyName h d = some t) : TyX K H v (.type t) := by
  cases d with
  | scr _ => simp [tyName] at e
  | non => simp [tyName] at e; simp only [RelD] at r; subst e r; exact .base .non
  | bl b => simp [tyName] at e; simp only [RelD] at r; subst e r; exact .base (.bl b)
  | int i => simp [tyName] at e; simp only [RelD] at r; subst e r; exact .base (.int i)
  | str s => simp [tyName] at e; simp only [RelD] at r; subst e r; exact .base (.str s)
  | tup xs =>
    simp [tyName] at e
    simp only [RelD] at r
    obtain ⟨p, vs, rfl, hp, _⟩ := r
    subst e
    exact .base (.tup hp)
  | ref n =>
    simp only [tyName] at e
    simp only [RelD] at r
    obtain ⟨a, ha, rfl⟩ := r
    split at e <;> (try cases e)
    · rename_i xs hx
      obtain ⟨vs, hv, _⟩ := S.cell n _ a hx ha
      exact .base (.lst hv)
    · rename_i xs hx
      obtain ⟨vs, hv, _⟩ := S.cell n _ a hx ha
      exact .base (.dK hv)
    · rename_i xs hx
      obtain ⟨vs, hv, _⟩ := S.cell n _ a hx ha
      exact .base (.dT hv)
section
variable {X : Cx} {W : WX} {e : Expr} {fa : EE} {p p2 pos : Pos} {x : Str} {c : String}
theorem se_isi (hm : X.mg "isinstance" = none) (hx : X.mg x = none) (hv : bootBuiltins x = some (.type c)) (ha : PE X e (rE X.K W fa)) (hg : Gl X "isinstance" := by rfl) (hgx : Gl X x := by rfl) (hn : x ≠ "__name__" := by decide) (hdb : (x == ("__debug__" : Str)) = false := by decide)
    (he : starEach [e, .Name x p2] X.env = (false, eval e X.env) :: starEach [.Name x p2] X.env := by rfl) (he2 : starEach [.Name x p2] X.env = (false, eval (.Name x p2) X.env) :: starEach [] X.env := by rfl) (hpl : (backTo pos (starEach [.Name x p2] X.env)).any (·.1) = false := by rfl) :
    PE X (.Call (.Name "isinstance" p) [e, .Name x p2] [] pos) (rE X.K W (fIsi c fa)) :=
  PEw (pe_callB call_isi hg hm (by decide +kernel) (pa_cons ha (pa_cons (pe_bltn hgx hx hv (v := .ty c) rfl hn hdb) pa_nil he2) he) (by decide) (by decide) he hpl) fun σ H Q q => by
    refine rd_mono (rd_bind (R := RelD) (f := fa) (g := fun x s h1 => match tyName h1 x with | some t => (match isiT t c with | some b => .ok (D.bl b) h1 | none => .bad) | none => .bad) q) fun x H1 ⟨m1, s, h1, d1, S1, r1, q1, p1⟩ => ?_
    split at p1
    · rename_i t ht
      split at p1
      · rename_i b hb
        exact ⟨x, .ty c, _, _, b, rfl, .ty c, tyName_ok S1 q1 ht, kit_ty (isiT_ok hb), p1 _ _ _ Ext.refl S1 (by simp [RelD])⟩
      · exact p1.elim
    · exact p1.elim
end
end G9

set_option Elab.async false
set_option linter.all false
set_option maxRecDepth 100000
set_option maxHeartbeats 2000000
namespace G9
open PySem PySem.Spec PyProof.Rows L2

/-! ### statements -/
inductive RS where
  | nx (s : SD) (h : HC)
  | ret (d : D) (h : HC)
  | bk (s : SD) (h : HC)
  | ct (s : SD) (h : HC)
  | exc (c : Str) (s : SD) (h : HC)
  | bad
abbrev ES := SD → HC → RS
def ofR {α : Type} (s : SD) (r : Res α) (k : α → HC → RS) : RS := match r with
  | .ok a h => k a h
  | .exc c h => .exc c s h
  | .bad => .bad
def postS (K : PySem.W.Frag) (W : WX) (m : Mp) (H : Hp) (En : Ends) : RS → Prop
  | .nx s h => ∀ m' H' σ', Ext m m' H H' → Sm K m' h H' → Rs m' H' s σ' → En.nx σ' H'
  | .ret d h => ∀ m' H' v, Ext m m' H H' → Sm K m' h H' → RelD m' H' d v → En.rt v H'
  | .bk s h => ∀ m' H' σ', Ext m m' H H' → Sm K m' h H' → Rs m' H' s σ' → En.bk σ' H'
  | .ct s h => ∀ m' H' σ', Ext m m' H H' → Sm K m' h H' → Rs m' H' s σ' → En.ct σ' H'
  | .exc c s h => ∀ m' H' σ', Ext m m' H H' → Sm K m' h H' → Rs m' H' s σ' → W (.ref (He.ga K c)) none σ' H'
  | .bad => False
def rS (K : PySem.W.Frag) (W : WX) (f : ES) : TS := fun En σ H => ∃ m s h, Sm K m h H ∧ Rs m H s σ ∧ postS K W m H En (f s h)
section
variable {α β : Type} {R : Mp → Hp → α → β → Prop} {K : PySem.W.Frag} {W : WX} {σ : L2.St} {m m1 : Mp} {H H1 : Hp} {En En' : Ends}
theorem postS_ext {r : RS} (p : postS K W m H En r) (E : Ext m m1 H H1) : postS K W m1 H1 En r := by
  cases r with
  | nx s h => exact fun m' H' b e S q => p m' H' b (E.trans e) S q
  | ret s h => exact fun m' H' b e S q => p m' H' b (E.trans e) S q
  | bk s h => exact fun m' H' b e S q => p m' H' b (E.trans e) S q
  | ct s h => exact fun m' H' b e S q => p m' H' b (E.trans e) S q
  | exc c s h => exact fun m' H' b e S q => p m' H' b (E.trans e) S q
  | bad => exact p
theorem rS_bind {f : SD → HC → Res α} {g : α → SD → HC → RS} (p : rS K W (fun s h => ofR s (f s h) fun a h1 => g a s h1) En σ H) :
    rd R K W f σ H (fun b H1 => ∃ m1 s h1 a, Sm K m1 h1 H1 ∧ Rs m1 H1 s σ ∧ R m1 H1 a b ∧ postS K W m1 H1 En (g a s h1)) := by
  obtain ⟨m, s, h, S, r, p⟩ := p
  refine ⟨m, s, h, S, r, ?_⟩
  dsimp only at p
  cases e : f s h with
  | ok a h1 =>
    rw [e] at p
    exact fun m' H' b E S' q => ⟨m', s, h1, a, S', r.mono S E, q, postS_ext p E⟩
  | exc c h1 =>
    rw [e] at p
    exact fun m' H' E S' => p m' H' σ E S' (r.mono S E)
  | bad =>
    rw [e] at p
    exact p
theorem Rs.set {s : SD} {i : Nat} {d : D} {v : V} (r : Rs m H s σ) (q : RelD m H d v) : Rs m H (s.set i (some d)) (σ.set i (some v)) := by
  refine ⟨by simpa using r.1, fun j d' e => ?_⟩
  by_cases hj : i = j
  · subst hj
    have hl : i < s.length := by
      have := (List.getElem?_eq_some_iff.mp e).1
      simpa using this
    rw [List.getElem?_set_self hl] at e
    cases e
    exact ⟨v, by rw [List.getElem?_set_self (by rw [← r.1]; exact hl)], q⟩
  · rw [List.getElem?_set_ne hj] at e ⊢
    exact r.2 j d' e
end

def fNx : ES := fun s h => .nx s h
def fSeq (f g : ES) : ES := fun s h => match f s h with
  | .nx s1 h1 => g s1 h1
  | r => r
def fExpr (a : EE) : ES := fun s h => ofR s (a s h) fun _ h1 => .nx s h1
def fRet (a : EE) : ES := fun s h => ofR s (a s h) fun d h1 => .ret d h1
def fRetN : ES := fun _ h => .ret .non h
def fIfS (c : ET) (a b : ES) : ES := fun s h => ofR s (c s h) fun x h1 => if x = true then a s h1 else b s h1
def fSet (i : Nat) (a : EE) : ES := fun s h => ofR s (a s h) fun d h1 => .nx (s.set i (some d)) h1
def fRaise (c : Str) : ES := fun s h => .exc c s h
section
variable {X : Cx} {W : WX} {e : Expr} {st : Stmt} {rest : List Stmt} {fa : EE} {f g : ES} {pos : Pos}
theorem ss_nil : PSs X [] (rS X.K W fNx) := PSsw pss_nil fun En σ H q => by
  obtain ⟨m, s, h, S, r, p⟩ := q
  exact p _ _ _ Ext.refl S r
theorem ss_pass : PS X (.Pass pos) (rS X.K W fNx) := PSw ps_pass fun En σ H q => by
  obtain ⟨m, s, h, S, r, p⟩ := q
  exact p _ _ _ Ext.refl S r
theorem ss_cons (h1 : PS X st (rS X.K W f)) (h2 : PSs X rest (rS X.K W g)) : PSs X (st :: rest) (rS X.K W (fSeq f g)) := PSsw (pss_cons h1 h2) fun En σ H q => by
  obtain ⟨m, s, h, S, r, p⟩ := q
  refine ⟨m, s, h, S, r, ?_⟩
  unfold fSeq at p
  cases e : f s h with
  | nx s1 h1 =>
    rw [e] at p
    exact fun m' H' σ' E S' r' => ⟨m', s1, h1, S', r', postS_ext p E⟩
  | ret s1 h1 => rw [e] at p; exact p
  | bk s1 h1 => rw [e] at p; exact p
  | ct s1 h1 => rw [e] at p; exact p
  | exc c s1 h1 => rw [e] at p; exact p
  | bad => rw [e] at p; exact p
theorem ss_one (h1 : PS X st (rS X.K W f)) : PSs X [st] (rS X.K W f) := pss_one h1
theorem ss_expr (he : PE X e (rE X.K W fa)) (hs : swapsWith e none pos.line X.env = pure false := by rfl) : PS X (.Expr e pos) (rS X.K W (fExpr fa)) := PSw (ps_expr he hs) fun En σ H q => by
  refine rd_mono (rS_bind (R := RelD) (f := fa) (g := fun d s h1 => .nx s h1) q) fun x H1 ⟨m1, s, h1, d1, S1, r1, q1, p1⟩ => ?_
  exact p1 _ _ _ Ext.refl S1 r1
theorem ss_ret (he : PE X e (rE X.K W fa)) : PS X (.Return (some e) pos) (rS X.K W (fRet fa)) := PSw (ps_ret he) fun En σ H q => by
  refine rd_mono (rS_bind (R := RelD) (f := fa) (g := fun d s h1 => .ret d h1) q) fun x H1 ⟨m1, s, h1, d1, S1, r1, q1, p1⟩ => ?_
  exact p1 _ _ _ Ext.refl S1 q1
theorem ss_retN : PS X (.Return none pos) (rS X.K W fRetN) := PSw ps_retN fun En σ H q => by
  obtain ⟨m, s, h, S, r, p⟩ := q
  exact p _ _ _ Ext.refl S (by simp [RelD])
theorem ss_if {c : Expr} {a b : List Stmt} {gc : ET} (hc : PT X c (rT X.K W gc)) (ha : PSs X a (rS X.K W f)) (hb : PSs X b (rS X.K W g)) : PS X (.If c a b pos) (rS X.K W (fIfS gc f g)) := PSw (ps_if hc ha hb) fun En σ H q => by
  refine rd_mono (rS_bind (R := RelB) (f := gc) (g := fun x s h1 => if x = true then f s h1 else g s h1) q) fun x H1 ⟨m1, s, h1, d1, S1, r1, q1, p1⟩ => ?_
  obtain rfl : d1 = x := q1
  cases d1 with
  | true => exact ⟨m1, s, h1, S1, r1, p1⟩
  | false => exact ⟨m1, s, h1, S1, r1, p1⟩
theorem ss_set {i : Nat} {x : Str} {pos' : Pos} (hN : X.N.Nodup) (he : PE X e (rE X.K W fa)) (hi : X.N[i]? = some x := by rfl) (hx : Loc X.env.scope x := by first | exact Or.inl rfl | exact Or.inr rfl) (hs : swapsWith e (some (.Name x pos')) pos.line X.env = pure false := by rfl) (hf : X.fn x = true ∨ X.env.scope.names.lookup x = some .local := by first | exact .inl rfl | exact .inr rfl | assumption) :
    PS X (.Assign [.Name x pos'] e pos) (rS X.K W (fSet i fa)) := PSw (ps_set hN hi hx he hs hf) fun En σ H q => by
  refine rd_mono (rS_bind (R := RelD) (f := fa) (g := fun d s h1 => .nx (s.set i (some d)) h1) q) fun x H1 ⟨m1, s, h1, d1, S1, r1, q1, p1⟩ => ?_
  exact p1 _ _ _ Ext.refl S1 (r1.set q1)
end

/-! ### a def -/
def fnRun (n : Nat) (body : ES) (ds : List D) (h : HC) : Res D := match body (ds.map some ++ List.replicate (n - ds.length) none) h with
  | .nx _ h' => .ok .non h'
  | .ret d h' => .ok d h'
  | .exc c _ h' => .exc c h'
  | _ => .bad
def postF (K : PySem.W.Frag) (m : Mp) (H : Hp) (Q : VK) (E : XK) : Res D → Prop
  | .ok d h' => ∀ m' H' v, Ext m m' H H' → Sm K m' h' H' → RelD m' H' d v → Q v H'
  | .exc c h' => ∀ m' H', Ext m m' H H' → Sm K m' h' H' → E (.ref (He.ga K c)) none H'
  | .bad => False
def spF (K : PySem.W.Frag) (fm : List D → HC → Res D) (n : Nat) : Sp := fun vs H Q E => ∃ m h ds, Sm K m h H ∧ RelDs m H ds vs ∧ ds.length = n ∧ postF K m H Q E (fm ds h)
theorem rs_start {m : Mp} {H : Hp} {N : List Str} : ∀ {ds : List D} {vs : List V}, RelDs m H ds vs → Rs m H (ds.map some ++ List.replicate (N.length - ds.length) none) (L2.start N vs) := by
  intro ds vs r
  unfold L2.start
  have hl := r.len
  refine ⟨by simp [hl], fun i d e => ?_⟩
  by_cases hi : i < ds.length
  · rw [List.getElem?_append_left (by simpa using hi), List.getElem?_map] at e
    cases q : ds[i]? with
    | none => rw [q] at e; cases e
    | some d' =>
      rw [q] at e
      simp at e
      subst e
      obtain ⟨v, hv, hr⟩ := r.get q
      refine ⟨v, ?_, hr⟩
      rw [List.getElem?_append_left (by simp; omega), List.getElem?_map, hv]
      rfl
  · rw [List.getElem?_append_right (by simpa using hi)] at e
    have := List.mem_of_getElem? e
    simp at this
section
variable {P : Program} {w : World} {K : PySem.W.Frag} {mg : Str → Option Value} {base : Heap}
theorem fn_ok {x qual : Str} {params : Arguments} {body : List Stmt} {scope : Scope} {dvs : List V} {kws : List (Str × V)} {f : Addr} {fd : FuncData} {N ps : List Str} {k : Nat} {fb : ES} (F : FunD K x qual params body scope dvs kws f fd) (S : FnScope N ps scope)
    (hb : ∀ (cdv : Value) (A : Around) (outer : List Env) (s : Shared) (H : Hp) (E : XK), Room k (A.deeper (envOfC qual scope s.heap.objs.size f cdv)) →
      PSs (cxOf (L2.CX P w) P w K mg base N qual scope f cdv A outer s H E) body (rS K (fun cls d _ H => E cls d H) fb)) :
    FnOk P w K mg base (L2.CX P w) (k + 1) f fd ps (spF K (fnRun N.length fb) ps.length) := by
  refine F.ok S (fun vs H Q E h => ?_) (fun cdv A outer s H vs Q E hr h => ⟨_, hb cdv A outer s H E hr, ?_⟩)
  · obtain ⟨m, h, ds, S, r, l, _⟩ := h
    rw [← r.len, l]
  · obtain ⟨m, h, ds, S, r, l, p⟩ := h
    refine ⟨m, _, h, S, rs_start r, ?_⟩
    unfold fnRun at p
    cases e : fb (ds.map some ++ List.replicate (N.length - ds.length) none) h with
    | nx s1 h1 =>
      rw [e] at p
      exact fun m' H' σ' E S' r' => p m' H' .non E S' (by simp [RelD])
    | ret d h1 =>
      rw [e] at p
      exact fun m' H' v E S' r' => p m' H' v E S' r'
    | bk s1 h1 => rw [e] at p; exact p.elim
    | ct s1 h1 => rw [e] at p; exact p.elim
    | exc c s1 h1 =>
      rw [e] at p
      exact fun m' H' σ' E S' r' => p m' H' E S'
    | bad => rw [e] at p; exact p.elim
/-- a def that may be called by its name -/
structure Fn (P : Program) (w : World) (K : PySem.W.Frag) (mg : Str → Option Value) (base : Heap) (x : Str) (k n : Nat) (fm : List D → HC → Res D) : Prop where
  ex : ∃ (f : Addr) (fd : FuncData) (ps : List Str), FnOk P w K mg base (L2.CX P w) k f fd ps (spF K fm n) ∧ mg x = some (.ref f) ∧ PySem.W.keepIn K (.ref f) = true ∧ Binds K fd ps []
end
def fCall (n : Nat) (fm : List D → HC → Res D) (as : EA) : EE := fun s h => (as s h).bind fun ds h1 => if ds.length = n then fm ds h1 else .bad
section
variable {X : Cx} {W : WX} {e : Expr} {es : List Expr} {as : EA} {x : Str} {k n : Nat} {fm : List D → HC → Res D} {p pos : Pos}
theorem postF_of {K : PySem.W.Frag} {σ : L2.St} {m : Mp} {H : Hp} {Q : VK} {r : Res D} (q : post RelD K W σ m H Q r) : postF K m H Q (WE W σ) r := by
  cases r with
  | ok d h => exact q
  | exc c h => exact q
  | bad => exact q
theorem se_call (F : Fn X.prog X.w X.K X.mg X.base x k n fm) (hr : Room k X.A) (tk : Takes X W) (ha : PA X (e :: es) (rA X.K W as)) (hg : Gl X x := by rfl) (hdb : (x == ("__debug__" : Str)) = false := by decide)
    (he : starEach (e :: es) X.env = (false, eval e X.env) :: starEach es X.env := by rfl) (hpl : (backTo pos (starEach es X.env)).any (·.1) = false := by rfl) : PE X (.Call (.Name x p) (e :: es) [] pos) (rE X.K W (fCall n fm as)) := by
  obtain ⟨f, fd, ps, G, hm, hk, hb⟩ := F.ex
  refine PEw (pe_callS G hr hg hm hk hb (fun σ => passAt tk σ) ha hdb he hpl) fun σ H Q q => ?_
  refine rd_mono (rd_bind (R := RelDs) (f := as) (g := fun ds s h1 => if ds.length = n then fm ds h1 else .bad) q) fun x H1 ⟨m1, s, h1, d1, S1, r1, q1, p1⟩ => ?_
  split at p1
  · rename_i hl
    exact ⟨m1, h1, d1, S1, q1, hl, postF_of p1⟩
  · exact p1.elim
end

/-! ### own errors -/
structure ExF (K : PySem.W.Frag) (mg : Str → Option Value) (c : Str) : Prop where
  q : PySem.W.excIn K (He.ga K c) He.veBase "ValueError.__new__" = true
  g : mg c = some (.ref (He.ga K c))
  k : PySem.W.keepIn K (.ref (He.ga K c)) = true
  b : PySem.W.subIn K (.ref (He.ga K c)) (.type "BaseException") = some true
  t : PySem.W.typeIn K (.ref (He.ga K c)) = some (.type "type")
section
variable {X : Cx} {W : WX} {c m : Str} {j : Nat} {p p2 p3 pos : Pos}
theorem ss_raise (F : ExF X.K X.mg c) (hc : X.calm = true) (tk : Takes X W) (hg : Gl X c := by rfl) (hdb : (c == ("__debug__" : Str)) = false := by decide) :
    PS X (.Raise (some (.Call (.Name c p) [.Constant (.str m) j p2] [] p3)) none pos) (rS X.K W (fRaise c)) :=
  PSw (ps_raise hc tk (pmk_own PySem.F.excBase_ValueError F.q F.g F.k (raises_own F.b F.t) hg hdb)) fun En σ H q => by
    obtain ⟨m, s, h, S, r, p⟩ := q
    exact p _ _ _ Ext.refl S r
end
end G9

set_option Elab.async false
set_option linter.all false
set_option maxRecDepth 100000
set_option maxHeartbeats 2000000
namespace G9
open PySem PySem.Spec PyProof.Rows L2

/-! ### targets that are names -/
abbrev EG := D → SD → Option SD
abbrev EGs := List D → SD → Option SD
def gN (i : Nat) : EG := fun d s => some (s.set i (some d))
def gT (g : EGs) : EG := fun d s => match d with
  | .tup xs => g xs s
  | _ => none
def gsN : EGs := fun ds s => match ds with
  | [] => some s
  | _ => none
def gsC (g : EG) (gs : EGs) : EGs := fun ds s => match ds with
  | d :: r => (g d s).bind fun s1 => gs r s1
  | [] => none
theorem wipe_get (σ : L2.St) : ∀ (vs : List Nat) (j : Nat), (wipe σ vs)[j]? = if j ∈ vs then (σ[j]?).map (fun _ => none) else σ[j]?
  | [], j => by simp [wipe]
  | v :: vs, j => by
    unfold wipe
    by_cases hj : v = j
    · subst hj
      by_cases hl : v < σ.length
      · rw [List.getElem?_set_self (by rw [wipe_length]; exact hl), if_pos List.mem_cons_self]
        simp [hl]
      · have e1 : σ[v]? = none := List.getElem?_eq_none (by omega)
        have e2 : ((wipe σ vs).set v none)[v]? = none := List.getElem?_eq_none (by rw [List.length_set, wipe_length]; omega)
        rw [e1, e2]
        simp
    · rw [List.getElem?_set_ne hj, wipe_get σ vs j]
      have hj2 : ¬ j = v := fun e => hj e.symm
      simp [hj2]
theorem wipe_set {σ : L2.St} {vs : List Nat} {i : Nat} {x : Option V} (hi : i ∈ vs) : wipe (σ.set i x) vs = wipe σ vs := by
  apply List.ext_getElem?
  intro j
  rw [wipe_get, wipe_get]
  by_cases hj : i = j
  · subst hj
    rw [if_pos hi, if_pos hi]
    by_cases hl : i < σ.length
    · rw [List.getElem?_set_self hl]
      simp [hl]
    · rw [List.getElem?_eq_none (by rw [List.length_set]; omega), List.getElem?_eq_none (by omega)]
  · rw [List.getElem?_set_ne hj]
def rG (K : PySem.W.Frag) (vs : List Nat) (g : EG) : TG := fun v σ H Q => ∃ m s h d s', Sm K m h H ∧ Rs m H s σ ∧ RelD m H d v ∧ g d s = some s' ∧ ∀ σ', Rs m H s' σ' → wipe σ' vs = wipe σ vs → Q σ' H
def rGs (K : PySem.W.Frag) (vs : List Nat) (g : EGs) : TGs := fun v σ H Q => ∃ m s h d s', Sm K m h H ∧ Rs m H s σ ∧ RelDs m H d v ∧ g d s = some s' ∧ ∀ σ', Rs m H s' σ' → wipe σ' vs = wipe σ vs → Q σ' H
section
variable {X : Cx} {e : Expr} {es : List Expr} {g : EG} {gs : EGs} {vs : List Nat} {pos : Pos}
theorem PGw {t t' : TG} (h : PG X e t) (w : ∀ v σ H Q, t' v σ H Q → t v σ H Q) : PG X e t' := ⟨fun pins s σ H v u Q I r q => h.run pins s σ H v u Q I r (w _ _ _ _ q)⟩
theorem PGsw {t t' : TGs} (h : PGs X es t) (w : ∀ v σ H Q, t' v σ H Q → t v σ H Q) : PGs X es t' := ⟨fun pins s σ H v u Q I r q => h.run pins s σ H v u Q I r (w _ _ _ _ q)⟩
theorem sg_name {i : Nat} {x : Str} (hN : X.N.Nodup) (hv : i ∈ vs := by decide) (hi : X.N[i]? = some x := by rfl) (hx : Loc X.env.scope x := by first | exact Or.inl rfl | exact Or.inr rfl) (hf : X.fn x = true ∨ X.env.scope.names.lookup x = some .local := by first | exact .inl rfl | exact .inr rfl | assumption) :
    PG X (.Name x pos) (rG X.K vs (gN i)) := PGw (pg_name hN hi hx hf) fun v σ H Q q => by
  obtain ⟨m, s, h, d, s', S, r, rd, e, k⟩ := q
  cases e
  exact k _ (r.set rd) (wipe_set hv)
theorem sgs_nil : PGs X [] (rGs X.K vs gsN) := PGsw pgs_nil fun v σ H Q q => by
  obtain ⟨m, s, h, d, s', S, r, rd, e, k⟩ := q
  cases d with
  | nil =>
    cases e
    simp only [RelDs] at rd
    exact ⟨rd, k _ r rfl⟩
  | cons a b => cases e
theorem sgs_cons (h1 : PG X e (rG X.K vs g)) (h2 : PGs X es (rGs X.K vs gs)) (hs : (assignEach (e :: es) X.env).map (·.2) = assign e X.env :: (assignEach es X.env).map (·.2) := by rfl) : PGs X (e :: es) (rGs X.K vs (gsC g gs)) :=
  PGsw (pgs_cons h1 h2 hs) fun v σ H Q q => by
  obtain ⟨m, s, h, d, s', S, r, rd, e, k⟩ := q
  cases d with
  | nil => cases e
  | cons a b =>
    simp only [RelDs] at rd
    obtain ⟨va, vb, rfl, ra, rb⟩ := rd
    unfold gsC at e
    dsimp only at e
    cases e1 : g a s with
    | none => rw [e1] at e; cases e
    | some s1 =>
      rw [e1] at e
      exact ⟨va, vb, rfl, m, s, h, a, s1, S, r, ra, e1, fun σ1 r1 w1 => ⟨m, s1, h, b, s', S, r1, rb, e, fun σ2 r2 w2 => k σ2 r2 (w2.trans w1)⟩⟩
theorem sg_tup {k n : Nat} (hc : X.calm = true) (h : PGs X es (rGs X.K vs gs)) (hl : ∀ ds s s', gs ds s = some s' → ds.length = n)
    (hn : (assignEach es X.env).length = n := by rfl) (hst : (assignEach es X.env).findIdx? (·.1) = none := by rfl) : PG X (.Tuple es k pos) (rG X.K vs (gT gs)) :=
  PGw (pg_tup hc h hn hst) fun v σ H Q q => by
  obtain ⟨m, s, h, d, s', S, r, rd, e, k⟩ := q
  cases d with
  | tup xs =>
    simp only [RelD] at rd
    obtain ⟨p, us, rfl, hp, hr⟩ := rd
    exact ⟨p, us, rfl, SqT.of hp, by rw [← hr.len]; exact hl xs s s' e, m, s, h, xs, s', S, r, hr, e, k⟩
  | _ => cases e
theorem gl_nil : ∀ ds s s', gsN ds s = some s' → ds.length = 0 := fun ds s s' e => by
  cases ds with
  | nil => rfl
  | cons a b => cases e
theorem gl_cons {n : Nat} (h : ∀ ds s s', gs ds s = some s' → ds.length = n) : ∀ ds s s', gsC g gs ds s = some s' → ds.length = n + 1 := fun ds s s' e => by
  cases ds with
  | nil => cases e
  | cons a b =>
    unfold gsC at e
    dsimp only at e
    cases e1 : g a s with
    | none => rw [e1] at e; cases e
    | some s1 =>
      rw [e1] at e
      simp [h b s1 s' e]
end

/-! ### what is walked -/
abbrev EI := SD → HC → Res (List D × List (Nat × Cell))
def chk (G : List (Nat × Cell)) (h : HC) : Bool := G.all fun g => decide (h[g.1]? = some g.2)
def WalkS (K : PySem.W.Frag) (m1 : Mp) (H1 : Hp) (J : It) (items : List D) (G : List (Nat × Cell)) : Prop :=
  ∀ m' h' H', Ext m1 m' H1 H' → Sm K m' h' H' → chk G h' = true →
    (∀ (i : Nat) (d : D), items[i]? = some d → J.go i H' ∧ ∀ x H'', J.yld i H' x H'' → Ext m' m' H' H'' ∧ Sm K m' h' H'' ∧ RelD m' H'' d x) ∧ J.stop items.length H'
def rI (K : PySem.W.Frag) (W : WX) (fi : EI) : TI := fun σ H R => ∃ m s h, Sm K m h H ∧ Rs m H s σ ∧ match fi s h with
  | .ok (items, G) h1 => ∀ m1 H1 J, Ext m m1 H H1 → Sm K m1 h1 H1 → WalkS K m1 H1 J items G → R J H1
  | .exc c h1 => ∀ m1 H1, Ext m m1 H H1 → Sm K m1 h1 H1 → W (.ref (He.ga K c)) none σ H1
  | .bad => False
def fItL (a : EE) : EI := fun s h => (a s h).bind fun x h1 => match x with
  | .ref n => (match h1[n]? with
    | some (.lst xs) => .ok (xs, [(n, .lst xs)]) h1
    | _ => .bad)
  | .scr ns => .ok (ns.map D.int, []) h1
  | _ => .bad
def fItT (a : EE) : EI := fun s h => (a s h).bind fun x h1 => match x with
  | .tup xs => .ok (xs, []) h1
  | _ => .bad
def fItS (a : EE) : EI := fun s h => (a s h).bind fun x h1 => match x with
  | .str z => .ok (z.cps.toList.map fun c => .str ⟨#[c]⟩, []) h1
  | _ => .bad
def rngD (lo : Int) (n : Nat) : List D := (List.range n).map fun (i : Nat) => D.int (lo + (i : Int))
def fItR1 (a : EE) : EI := fun s h => (a s h).bind fun x h1 => match x with
  | .int j => if -(2 ^ 62) ≤ j ∧ j < 2 ^ 62 then .ok (rngD 0 j.toNat, []) h1 else .bad
  | _ => .bad
def fItR2 (a b : EE) : EI := fun s h => (a s h).bind fun x h1 => (b s h1).bind fun y h2 => match x, y with
  | .int i, .int j => if -(2 ^ 62) ≤ i ∧ i < 2 ^ 62 ∧ -(2 ^ 62) ≤ j ∧ j < 2 ^ 62 then .ok (rngD i (j - i).toNat, []) h2 else .bad
  | _, _ => .bad
section
variable {K : PySem.W.Frag} {m1 : Mp} {H1 : Hp} {h1 : HC}
theorem chk_one {n : Nat} {c : Cell} {h : HC} (e : chk [(n, c)] h = true) : h[n]? = some c := by
  simpa [chk] using e
theorem walkS_list {n : Nat} {a : Addr} {xs : List D} (ha : m1.ad[n]? = some a) : WalkS K m1 H1 (Itl K a) xs [(n, .lst xs)] := fun m' h' H' E S c => by
  obtain ⟨vs, hv, hr⟩ := S.cell n _ a (chk_one c) (E.le n a ha)
  refine ⟨fun i d e => ?_, ⟨vs, SqL.of hv, by rw [hr.len]; exact Nat.le_refl _⟩⟩
  obtain ⟨v, hv2, hd⟩ := hr.get e
  exact ⟨⟨vs, v, SqL.of hv, hv2⟩, fun x H'' y => by
    obtain ⟨rfl, y⟩ := y
    have := y vs (SqL.of hv)
    rw [hv2] at this
    cases this
    exact ⟨Ext.refl, S, hd⟩⟩
theorem walkS_scr : WalkS K m1 H1 (Itl K m1.scr) (m1.ns.map D.int) [] := fun m' h' H' E S c => by
  have hq : SqL K H' m1.scr (m1.ns.map V.int) := by
    have := S.scr.sq
    rw [E.sc.1, E.sc.2] at this
    exact this
  refine ⟨fun i d e => ?_, ⟨_, hq, by simp⟩⟩
  obtain ⟨v, hv2, hd⟩ := (RelDs.ints (m := m') (H := H') (ns := m1.ns)).get e
  exact ⟨⟨_, v, hq, hv2⟩, fun x H'' y => by
    obtain ⟨rfl, y⟩ := y
    have := y _ hq
    rw [hv2] at this
    cases this
    exact ⟨Ext.refl, S, hd⟩⟩
theorem walkS_tup {a : Addr} {xs : List D} {vs : List V} (S1 : Sm K m1 h1 H1) (ha : H1 a = some (.tup vs)) (r : RelDs m1 H1 xs vs) : WalkS K m1 H1 (Itt K a) xs [] := fun m' h' H' E S c => by
  have hq : SqT K H' a vs := SqT.of (S1.kept E a vs ha)
  have hr := r.mono S1 E
  refine ⟨fun i d e => ?_, ⟨vs, hq, by rw [hr.len]; exact Nat.le_refl _⟩⟩
  obtain ⟨v, hv2, hd⟩ := hr.get e
  exact ⟨⟨vs, v, hq, hv2⟩, fun x H'' y => by
    obtain ⟨rfl, y⟩ := y
    have := y vs hq
    rw [hv2] at this
    cases this
    exact ⟨Ext.refl, S, hd⟩⟩
theorem walkS_range {lo : Int} {n : Nat} : WalkS K m1 H1 (Itr lo n) (rngD lo n) [] := fun m' h' H' E S c => by
  refine ⟨fun i d e => ?_, by show n ≤ (rngD lo n).length; simp [rngD]⟩
  have hi : i < n := by
    have := (List.getElem?_eq_some_iff.mp e).1
    simpa [rngD] using this
  refine ⟨hi, fun x H'' y => ?_⟩
  obtain ⟨rfl, rfl⟩ := y
  refine ⟨Ext.refl, S, ?_⟩
  unfold rngD at e
  rw [List.getElem?_map, List.getElem?_range hi] at e
  simp at e
  subst e
  simp [RelD]
theorem walkS_str {z : Str} : WalkS K m1 H1 (Its z) (z.cps.toList.map fun c => .str ⟨#[c]⟩) [] := fun m' h' H' E S c => by
  refine ⟨fun i d e => ?_, by show z.cps.size ≤ _; simp⟩
  have hi : i < z.cps.size := by
    have := (List.getElem?_eq_some_iff.mp e).1
    simpa using this
  refine ⟨hi, fun x H'' y => ?_⟩
  obtain ⟨rfl, c, hc, rfl⟩ := y
  refine ⟨Ext.refl, S, ?_⟩
  rw [List.getElem?_map, Array.getElem?_toList, hc] at e
  simp at e
  subst e
  simp [RelD]
end
section
variable {X : Cx} {W : WX} {tg e : Expr} {fa fb : EE} {p pos : Pos}
theorem PIw {iter : Expr} {t t' : TI} (h : PI X tg iter t) (w : ∀ σ H R, t' σ H R → t σ H R) : PI X tg iter t' := ⟨fun pins s σ H R I q => h.run pins s σ H R I (w _ _ _ q)⟩
theorem si_val {wi : TI} {g : D → HC → Res (List D × List (Nat × Cell))} (h : PI X tg e wi)
    (w : ∀ σ H R, rE X.K W fa σ H (fun v H1 => ∃ m1 h1 d, Sm X.K m1 h1 H1 ∧ RelD m1 H1 d v ∧ ∃ items G h2, g d h1 = .ok (items, G) h2 ∧ h2 = h1 ∧ ∀ J, WalkS X.K m1 H1 J items G → R J H1) → wi σ H R)
    (hg : ∀ d h, (∃ xs G, g d h = .ok (xs, G) h) ∨ g d h = .bad) : PI X tg e (rI X.K W fun s h => (fa s h).bind fun x h1 => g x h1) := PIw h fun σ H R q => by
  obtain ⟨m, s, h, S, r, p⟩ := q
  refine w σ H R ⟨m, s, h, S, r, ?_⟩
  dsimp only at p
  cases e1 : fa s h with
  | ok d h1 =>
    rw [e1] at p
    intro m1 H1 v E1 S1 r1
    rcases hg d h1 with ⟨xs, G, e2⟩ | e2
    · dsimp only [Res.bind] at p
      rw [e2] at p
      exact ⟨m1, h1, d, S1, r1, xs, G, h1, e2, rfl, fun J hw => p m1 H1 J E1 S1 hw⟩
    · dsimp only [Res.bind] at p
      rw [e2] at p
      exact p.elim
  | exc c h1 => rw [e1] at p; exact p
  | bad => rw [e1] at p; exact p
theorem si_list (ha : PE X e (rE X.K W fa)) : PI X tg e (rI X.K W (fItL fa)) :=
  si_val (pi_list ha) (fun σ H R q => rd_mono q fun v H1 ⟨m1, h1, d, S1, r1, xs, G, h2, e, _, k⟩ => by
    cases d with
    | ref n =>
      dsimp only at e
      simp only [RelD] at r1
      obtain ⟨a, ha, rfl⟩ := r1
      split at e
      · rename_i ys hy
        cases e
        obtain ⟨vs, hv, hr⟩ := S1.cell n _ a hy ha
        exact ⟨a, rfl, ⟨vs, SqL.of hv⟩, k _ (walkS_list ha)⟩
      · cases e
    | scr ns =>
      cases e
      simp only [RelD] at r1
      obtain ⟨rfl, rfl⟩ := r1
      exact ⟨_, rfl, ⟨_, S1.scr.sq⟩, k _ walkS_scr⟩
    | _ => cases e) fun d h => by
    cases d with
    | ref n =>
      dsimp only
      split
      · exact .inl ⟨_, _, rfl⟩
      · exact .inr rfl
    | scr ns => exact .inl ⟨_, _, rfl⟩
    | _ => exact .inr rfl
theorem si_tup (ha : PE X e (rE X.K W fa)) : PI X tg e (rI X.K W (fItT fa)) :=
  si_val (pi_tup ha) (fun σ H R q => rd_mono q fun v H1 ⟨m1, h1, d, S1, r1, xs, G, h2, e, _, k⟩ => by
    cases d with
    | tup ys =>
      cases e
      simp only [RelD] at r1
      obtain ⟨a, vs, rfl, ha, hr⟩ := r1
      exact ⟨a, rfl, ⟨vs, SqT.of ha⟩, k _ (walkS_tup S1 ha hr)⟩
    | _ => cases e) fun d h => by
    cases d with
    | tup ys => exact .inl ⟨_, _, rfl⟩
    | _ => exact .inr rfl
theorem si_str (ha : PE X e (rE X.K W fa)) : PI X tg e (rI X.K W (fItS fa)) :=
  si_val (pi_str ha) (fun σ H R q => rd_mono q fun v H1 ⟨m1, h1, d, S1, r1, xs, G, h2, e, _, k⟩ => by
    cases d with
    | str z =>
      cases e
      simp only [RelD] at r1
      exact ⟨z, r1, k _ walkS_str⟩
    | _ => cases e) fun d h => by
    cases d with
    | str ys => exact .inl ⟨_, _, rfl⟩
    | _ => exact .inr rfl
end
end G9

set_option Elab.async false
set_option linter.all false
set_option maxRecDepth 100000
set_option maxHeartbeats 2000000
namespace G9
open PySem PySem.Spec PyProof.Rows L2
section
variable {X : Cx} {W : WX} {tg a b : Expr} {fa fb : EE} {p pos : Pos}
theorem si_range1 (hm : X.mg "range" = none) (ha : PE X a (rE X.K W fa)) (hg : Gl X "range" := by rfl) (hs : starEach [a] X.env = [(false, eval a X.env)] := by rfl) : PI X tg (.Call (.Name "range" p) [a] [] pos) (rI X.K W (fItR1 fa)) :=
  si_val (pi_range1 hg hm (pa_cons ha pa_nil hs) hs) (fun σ H R q => rd_mono q fun v H1 ⟨m1, h1, d, S1, r1, xs, G, h2, e, _, k⟩ => by
    cases d with
    | int j =>
      dsimp only at e
      split at e
      · rename_i hj
        cases e
        simp only [RelD] at r1
        subst r1
        exact ⟨j, rfl, hj.1, hj.2, k _ walkS_range⟩
      · cases e
    | _ => cases e) fun d h => by
    cases d with
    | int j =>
      dsimp only
      split
      · exact .inl ⟨_, _, rfl⟩
      · exact .inr rfl
    | _ => exact .inr rfl
theorem si_range2 (hm : X.mg "range" = none) (ha : PE X a (rE X.K W fa)) (hb : PE X b (rE X.K W fb)) (hg : Gl X "range" := by rfl) (hs : starEach [a, b] X.env = [(false, eval a X.env), (false, eval b X.env)] := by rfl) (hs2 : starEach [b] X.env = [(false, eval b X.env)] := by rfl) :
    PI X tg (.Call (.Name "range" p) [a, b] [] pos) (rI X.K W (fItR2 fa fb)) :=
  PIw (pi_range2 hg hm (pa_cons ha (pa_cons hb pa_nil hs2) (by rw [hs, hs2])) hs hs2) fun σ H R q => by
    obtain ⟨m, s, h, S, r, p⟩ := q
    refine ⟨m, s, h, S, r, ?_⟩
    unfold fItR2 at p
    cases e1 : fa s h with
    | ok d1 h1 =>
      rw [e1] at p
      intro m1 H1 v1 E1 S1 r1
      refine ⟨m1, s, h1, S1, r.mono S E1, ?_⟩
      dsimp only [Res.bind] at p
      cases e2 : fb s h1 with
      | ok d2 h2 =>
        rw [e2] at p
        intro m2 H2 v2 E2 S2 r2
        dsimp only at p
        cases d1 with
        | int i =>
          cases d2 with
          | int j =>
            dsimp only at p
            have r1' := r1.mono S1 E2
            simp only [RelD] at r1' r2
            subst r1' r2
            by_cases hj : -(2 ^ 62) ≤ i ∧ i < 2 ^ 62 ∧ -(2 ^ 62) ≤ j ∧ j < 2 ^ 62
            · rw [if_pos hj] at p
              exact ⟨i, j, rfl, hj, p m2 H2 _ (E1.trans E2) S2 walkS_range⟩
            · rw [if_neg hj] at p
              exact p.elim
          | _ => exact p.elim
        | _ => cases d2 <;> exact p.elim
      | exc c h2 => rw [e2] at p; exact fun m2 H2 E2 S2 => p m2 H2 (E1.trans E2) S2
      | bad => rw [e2] at p; exact p
    | exc c h1 => rw [e1] at p; exact p
    | bad => rw [e1] at p; exact p
end

/-! ### for -/
def forLoop (G : List (Nat × Cell)) (g : EG) (body : ES) : List D → SD → HC → RS
  | [], s, h => if chk G h = true then .nx s h else .bad
  | d :: ds, s, h => if chk G h = true then (match g d s with
    | some s1 => (match body s1 h with
      | .nx s2 h2 => forLoop G g body ds s2 h2
      | .ct s2 h2 => forLoop G g body ds s2 h2
      | .bk s2 h2 => .nx s2 h2
      | r => r)
    | none => .bad) else .bad
def fFor (it : EI) (g : EG) (body : ES) : ES := fun s h => ofR s (it s h) fun x h1 => forLoop x.2 g body x.1 s h1
section
variable {X : Cx} {W : WX} {tg iter : Expr} {body : List Stmt} {fi : EI} {g : EG} {fb : ES} {vs : List Nat} {pos : Pos}
theorem tFor_of {K : PySem.W.Frag} (En : Ends) (σ : L2.St) (H : Hp) (q : rS K W (fFor fi g fb) En σ H) : tFor (rI K W fi) (rG K vs g) (rS K W fb) En σ H := by
  obtain ⟨m, s, h, S, r, p⟩ := q
  refine ⟨m, s, h, S, r, ?_⟩
  unfold fFor at p
  cases e : fi s h with
  | exc c h1 => rw [e] at p; exact fun m1 H1 E S1 => p m1 H1 σ E S1 (r.mono S E)
  | bad => rw [e] at p; exact p
  | ok x h1 =>
    obtain ⟨items, G⟩ := x
    rw [e] at p
    intro m1 H1 J E1 S1 hw
    refine ⟨fun i n σ' H' => n = items.length - i ∧ i ≤ items.length ∧ ∃ m' s' h', Ext m1 m' H1 H' ∧ Sm K m' h' H' ∧ Rs m' H' s' σ' ∧ postS K W m' H' En (forLoop G g fb (items.drop i) s' h'),
      ⟨items.length, by simp, Nat.zero_le _, m1, s, h1, Ext.refl, S1, r.mono S E1, by rw [List.drop_zero]; exact postS_ext p E1⟩, ?_⟩
    rintro i n σ' H' ⟨rfl, hi, m', s', h', E', S', r', p'⟩
    by_cases hlt : i < items.length
    · have ed : items.drop i = items[i] :: items.drop (i + 1) := (List.drop_eq_getElem_cons hlt)
      rw [ed] at p'
      unfold forLoop at p'
      by_cases hc : chk G h' = true
      · rw [if_pos hc] at p'
        obtain ⟨w1, w2⟩ := hw m' h' H' E' S' hc
        obtain ⟨go, yl⟩ := w1 i items[i] (by simp [hlt])
        refine .inr ⟨go, _, fun σ2 H2 q => ⟨items.length - (i + 1), by omega, q⟩, fun x H'' y => ?_⟩
        obtain ⟨Ey, Sy, ry⟩ := yl x H'' y
        cases e2 : g items[i] s' with
        | none => rw [e2] at p'; exact p'.elim
        | some s1 =>
          rw [e2] at p'
          refine ⟨m', s', h', items[i], s1, Sy, r'.mono S' Ey, ry, e2, fun σ2 r2 _ => ⟨m', s1, h', Sy, r2, ?_⟩⟩
          dsimp only at p'
          have p3 := postS_ext p' Ey
          cases e3 : fb s1 h' with
          | nx s2 h2 =>
            rw [e3] at p3
            exact fun m4 H4 σ4 E4 S4 r4 => ⟨rfl, hlt, m4, s2, h2, (E'.trans Ey).trans E4, S4, r4, postS_ext p3 E4⟩
          | ct s2 h2 =>
            rw [e3] at p3
            exact fun m4 H4 σ4 E4 S4 r4 => ⟨rfl, hlt, m4, s2, h2, (E'.trans Ey).trans E4, S4, r4, postS_ext p3 E4⟩
          | bk s2 h2 =>
            rw [e3] at p3
            exact p3
          | ret s2 h2 => rw [e3] at p3; exact p3
          | exc c s2 h2 => rw [e3] at p3; exact p3
          | bad => rw [e3] at p3; exact p3
      · rw [if_neg hc] at p'
        exact p'.elim
    · have ei : i = items.length := by omega
      subst ei
      rw [List.drop_length] at p'
      unfold forLoop at p'
      by_cases hc : chk G h' = true
      · rw [if_pos hc] at p'
        obtain ⟨w1, w2⟩ := hw m' h' H' E' S' hc
        exact .inl ⟨w2, p' _ _ _ Ext.refl S' r'⟩
      · rw [if_neg hc] at p'
        exact p'.elim
theorem ss_for (hp : PassesOwn (model X.prog X.w) X.A X.env X.xe) (hc : X.calm = true) (hi : PI X tg iter (rI X.K W fi)) (hg : PG X tg (rG X.K vs g)) (hb : PSs X body (rS X.K W fb)) (hs : ∀ x, foldedSetIterable iter X.env x = pure x := by intro _; rfl) :
    PS X (.For tg iter body [] pos) (rS X.K W (fFor fi g fb)) := PSw (ps_for hp hc hi hg hb hs) tFor_of
end

/-! ### while -/
def fWhile (c : ET) (b : ES) : Nat → ES
  | 0 => fun _ _ => .bad
  | n + 1 => fun s h => ofR s (c s h) fun x h1 => if x = true then (match b s h1 with
    | .nx s2 h2 => fWhile c b n s2 h2
    | .ct s2 h2 => fWhile c b n s2 h2
    | .bk s2 h2 => .nx s2 h2
    | r => r) else .nx s h1
section
variable {X : Cx} {W : WX} {c : Expr} {body : List Stmt} {gc : ET} {fb : ES} {pos : Pos}
theorem ss_while (n : Nat) (hp : PassesOwn (model X.prog X.w) X.A X.env X.xe) (hc : PT X c (rT X.K W gc)) (hb : PSs X body (rS X.K W fb)) : PS X (.While c body [] pos) (rS X.K W (fWhile gc fb n)) :=
  PSw (ps_while hp hc hb) fun En σ H q => by
    refine ⟨fun n σ H => rS X.K W (fWhile gc fb n) En σ H, ⟨n, q⟩, fun n σ H q => ?_⟩
    cases n with
    | zero =>
      obtain ⟨m, s, h, S, r, p⟩ := q
      exact p.elim
    | succ n =>
      refine rd_mono (rS_bind (R := RelB) (f := gc) (g := fun x s h1 => if x = true then (match fb s h1 with
        | .nx s2 h2 => fWhile gc fb n s2 h2
        | .ct s2 h2 => fWhile gc fb n s2 h2
        | .bk s2 h2 => .nx s2 h2
        | r => r) else .nx s h1) q) fun x H1 ⟨m1, s, h1, d1, S1, r1, q1, p1⟩ => ?_
      obtain rfl : d1 = x := q1
      cases d1 with
      | false => exact p1 _ _ _ Ext.refl S1 r1
      | true =>
        rw [if_pos rfl] at p1 ⊢
        refine ⟨fun σ' H' => rS X.K W (fWhile gc fb n) En σ' H', fun σ' H' q => ⟨n, Nat.lt_succ_self n, q⟩, m1, s, h1, S1, r1, ?_⟩
        cases e3 : fb s h1 with
        | nx s2 h2 =>
          rw [e3] at p1
          exact fun m4 H4 σ4 E4 S4 r4 => ⟨m4, s2, h2, S4, r4, postS_ext p1 E4⟩
        | ct s2 h2 =>
          rw [e3] at p1
          exact fun m4 H4 σ4 E4 S4 r4 => ⟨m4, s2, h2, S4, r4, postS_ext p1 E4⟩
        | bk s2 h2 => rw [e3] at p1; exact p1
        | ret s2 h2 => rw [e3] at p1; exact p1
        | exc c s2 h2 => rw [e3] at p1; exact p1
        | bad => rw [e3] at p1; exact p1
end

/-! ### comprehensions -/
def wipeD (s : SD) : List Nat → SD
  | [] => s
  | v :: vs => (wipeD s vs).set v none
theorem wipe_wipe (σ : L2.St) (vs : List Nat) : wipe (wipe σ vs) vs = wipe σ vs := by
  apply List.ext_getElem?
  intro j
  rw [wipe_get, wipe_get]
  by_cases hj : j ∈ vs
  · rw [if_pos hj, if_pos hj]
    cases σ[j]? <;> rfl
  · rw [if_neg hj, if_neg hj]
theorem Rs.setN {m : Mp} {H : Hp} {s : SD} {σ : L2.St} {i : Nat} (r : Rs m H s σ) : Rs m H (s.set i none) (σ.set i none) := by
  refine ⟨by simpa using r.1, fun j d' e => ?_⟩
  by_cases hj : i = j
  · subst hj
    have hl : i < s.length := by
      have := (List.getElem?_eq_some_iff.mp e).1
      simpa using this
    rw [List.getElem?_set_self hl] at e
    cases e
  · rw [List.getElem?_set_ne hj] at e ⊢
    exact r.2 j d' e
theorem Rs.wipe {m : Mp} {H : Hp} {s : SD} {σ : L2.St} (r : Rs m H s σ) : ∀ vs : List Nat, Rs m H (wipeD s vs) (wipe σ vs)
  | [] => r
  | v :: vs => (Rs.wipe r vs).setN
def lcLoop (G : List (Nat × Cell)) (g : EG) (c : ET) (a : EE) (s : SD) : List D → List D → HC → Res (List D)
  | [], acc, h => if chk G h = true then .ok acc h else .bad
  | d :: ds, acc, h => if chk G h = true then (match g d s with
    | some s1 => (match c s1 h with
      | .ok true h2 => (match a s1 h2 with
        | .ok y h3 => if acc.length < BIG then lcLoop G g c a s ds (acc ++ [y]) h3 else .bad
        | _ => .bad)
      | .ok false h2 => lcLoop G g c a s ds acc h2
      | _ => .bad)
    | none => .bad) else .bad
def fLc (it : EI) (own : List Nat) (g : EG) (c : ET) (a : EE) : EE := fun s h => (it s h).bind fun x h1 => (lcLoop x.2 g c a (wipeD s own) x.1 [] h1).bind fun xs h2 => .ok (.ref h2.length) (h2 ++ [.lst xs])
def fYes : ET := fun _ h => .ok true h
abbrev W0 : WX := fun _ _ _ _ => False
theorem Sm.updOut {K : PySem.W.Frag} {m : Mp} {h : HC} {H : Hp} (S : Sm K m h H) {p : Addr} {vs : List V} {o : HO} (hp : p ∉ m.ad) (e : H p = some (.lst vs)) : Sm K m h (upd H p o) ∧ ∀ q us, H q = some (.tup us) → upd H p o q = some (.tup us) := by
  have ht : ∀ q us, H q = some (.tup us) → upd H p o q = some (.tup us) := fun q us eq => by
    rw [upd_ne (fun z => by rw [z, e] at eq; cases eq)]
    exact eq
  refine ⟨⟨S.len, S.nd, S.scr.upd (fun o w z => by rw [e] at z; cases z), fun i c a hc ha => ?_⟩, ht⟩
  refine (S.cell i c a hc ha).mono_ (fun _ _ z => z) ⟨rfl, rfl⟩ ht (upd_ne ?_)
  rintro rfl
  exact hp (List.mem_of_getElem? ha)
section
variable {K : PySem.W.Frag} {W : WX} {fi : EI} {g : EG} {fc : ET} {fa : EE} {vs : List Nat}
theorem tLc_of (own : List Nat) (σ : L2.St) (H : Hp) (Q : VK) (q : rE K W (fLc fi own g fc fa) σ H Q) : tLc (rI K W fi) (rG K own g) (rT K W0 fc) (rE K W0 fa) own σ H Q := by
  obtain ⟨m, s, h, S, r, p⟩ := q
  refine ⟨m, s, h, S, r, ?_⟩
  unfold fLc at p
  cases e : fi s h with
  | exc c h1 => rw [e] at p; exact p
  | bad => rw [e] at p; exact p
  | ok x h1 =>
    obtain ⟨items, G⟩ := x
    rw [e] at p
    intro m1 H1 J E1 S1 hw P hP
    have p1 := post_ext p E1
    dsimp only [Res.bind] at p1
    refine ⟨fun i n H' => n = items.length - i ∧ i ≤ items.length ∧ ∃ m' h' acc us, Ext m1 m' H1 H' ∧ Sm K m' h' H' ∧ Rs m' H' (wipeD s own) (wipe σ own) ∧ P ∉ m'.ad ∧ H' P = some (.lst us) ∧ RelDs m' H' acc us ∧ acc.length ≤ BIG ∧
        post RelD K W σ m1 H1 Q ((lcLoop G g fc fa (wipeD s own) (items.drop i) acc h').bind fun xs h2 => .ok (.ref h2.length) (h2 ++ [.lst xs])), ⟨items.length, by simp, Nat.zero_le _, m1, h1, [], [], ?_⟩, ?_⟩
    · obtain ⟨S2, E2⟩ := S1.newT (o := .lst []) hP
      refine ⟨E2, S2, ((r.mono S E1).mono S1 E2).wipe own, S1.freshOut hP, upd_same, RelDs.nil, Nat.zero_le _, ?_⟩
      simpa [Res.bind] using p1
    · rintro i n H' ⟨rfl, hi, m', h', acc, us, E', S', r', hPm, hPv, ra, hal, p'⟩
      by_cases hlt : i < items.length
      · have ed : items.drop i = items[i] :: items.drop (i + 1) := (List.drop_eq_getElem_cons hlt)
        rw [ed] at p'
        unfold lcLoop at p'
        by_cases hc : chk G h' = true
        · rw [if_pos hc] at p'
          obtain ⟨w1, w2⟩ := hw m' h' H' E' S' hc
          obtain ⟨go, yl⟩ := w1 i items[i] (by simp [hlt])
          refine .inr ⟨go, _, fun H2 q => ⟨items.length - (i + 1), by omega, q⟩, fun x H'' y => ?_⟩
          obtain ⟨Ey, Sy, ry⟩ := yl x H'' y
          cases e2 : g items[i] (wipeD s own) with
          | none => rw [e2] at p'; exact p'.elim
          | some s1 =>
            rw [e2] at p'
            refine ⟨m', wipeD s own, h', items[i], s1, Sy, r'.mono S' Ey, ry, e2, fun σ2 r2 w2' => ⟨by rw [w2']; exact wipe_wipe σ own, m', s1, h', Sy, r2, ?_⟩⟩
            dsimp only at p'
            cases e3 : fc s1 h' with
            | exc c h2 => rw [e3] at p'; exact p'.elim
            | bad => rw [e3] at p'; exact p'.elim
            | ok b h2 =>
              rw [e3] at p'
              intro m3 H3 b' E3 S3 q3
              obtain rfl : b = b' := q3
              have hP3 := E3.fr P _ hPm (Ey.fr P _ hPm hPv).2
              have ra3 := (ra.mono S' Ey).mono Sy E3
              have E13 := (E'.trans Ey).trans E3
              have r3 := (r'.mono S' Ey).mono Sy E3
              cases b with
              | false =>
                rw [if_neg Bool.false_ne_true]
                exact ⟨rfl, hlt, m3, h2, acc, us, E13, S3, r3, hP3.1, hP3.2, ra3, hal, p'⟩
              | true =>
                rw [if_pos rfl]
                refine ⟨m3, s1, h2, S3, r2.mono Sy E3, ?_⟩
                dsimp only at p'
                cases e4 : fa s1 h2 with
                | exc c h2 => rw [e4] at p'; exact p'.elim
                | bad => rw [e4] at p'; exact p'.elim
                | ok yd h3 =>
                  rw [e4] at p'
                  intro m4 H4 yv E4 S4 q4
                  dsimp only at p'
                  by_cases hl : acc.length < BIG
                  · rw [if_pos hl] at p'
                    have hP4 := E4.fr P _ hP3.1 hP3.2
                    have ra4 := ra3.mono S3 E4
                    refine ⟨us, hP4.2, by rw [← ra.len]; exact Nat.lt_of_lt_of_le hl big_le, ?_⟩
                    obtain ⟨S5, t5⟩ := S4.updOut (o := .lst (us ++ [yv])) hP4.1 hP4.2
                    have E14 := E13.trans E4
                    refine ⟨rfl, hlt, m4, h3, acc ++ [yd], us ++ [yv], ⟨E14.le, E14.sc, fun z o hz ez => ?_⟩, S5, ?_, hP4.1, upd_same, ?_, by simp; omega, p'⟩
                    · have := E14.fr z o hz ez
                      exact ⟨this.1, by rw [upd_ne (ne_of_none ez hP)]; exact this.2⟩
                    · refine ⟨r3.1, fun j d hj => ?_⟩
                      obtain ⟨v, hv, hd⟩ := (r3.mono S3 E4).2 j d hj
                      exact ⟨v, hv, RelD.mono_ (fun _ _ z => z) ⟨rfl, rfl⟩ t5 _ _ hd⟩
                    · exact RelDs.mono_ (fun _ _ z => z) ⟨rfl, rfl⟩ t5 _ _ (ra4.append (RelDs.cons q4 RelDs.nil))
                  · rw [if_neg hl] at p'
                    exact p'.elim
        · rw [if_neg hc] at p'
          exact p'.elim
      · have ei : i = items.length := by omega
        subst ei
        rw [List.drop_length] at p'
        unfold lcLoop at p'
        by_cases hc : chk G h' = true
        · rw [if_pos hc] at p'
          obtain ⟨w1, w2⟩ := hw m' h' H' E' S' hc
          refine .inl ⟨w2, ?_⟩
          refine p' (m'.snoc P) H' (.ref P) ⟨fun n a z => ?_, E'.sc, fun z o hz ez => ?_⟩ (S'.adopt hPm ⟨us, hPv, ra⟩ (fun _ _ => trivial)) ?_
          · show (m'.ad ++ [P])[n]? = some a
            rw [List.getElem?_append_left (List.getElem?_eq_some_iff.mp (E'.le n a z)).1]
            exact E'.le n a z
          · have := E'.fr z o hz ez
            have hzp : z ≠ P := ne_of_none ez hP
            exact ⟨by simp [this.1, hzp, Mp.snoc], this.2⟩
          · simp only [RelD]
            exact ⟨P, by rw [S'.len]; exact Mp.last, rfl⟩
        · rw [if_neg hc] at p'
          exact p'.elim
end
end G9

set_option Elab.async false
set_option linter.all false
set_option maxRecDepth 100000
set_option maxHeartbeats 2000000
namespace G9
open PySem PySem.Spec PyProof.Rows L2

/-! ### enumerate of a tuple -/
def IteT (K : PySem.W.Frag) (a : Addr) : It where
  go := fun i H => ∃ (us : List V) (x : V), SqT K H a us ∧ us[i]? = some x
  yld := fun i H v H' => ∃ T x, v = .ref T ∧ H T = none ∧ H' = upd H T (.tup [.int (i : Nat), x]) ∧ ∀ us, SqT K H a us → us[i]? = some x
  stop := fun i H => ∃ us : List V, SqT K H a us ∧ us.length = i
theorem isTup_ne {h : Heap} {a b : Addr} {items : Array Value} {o : Obj} (p : IsTup h a items) (e : h.get? b = some o) (c : o.cls ≠ .type "tuple") : a ≠ b := by
  rintro rfl
  obtain ⟨o', e', c', _⟩ := p
  rw [e] at e'
  cases e'
  exact c c'
theorem turn_enumT {P : Program} {w : World} {K : PySem.W.Frag} {elts : List Expr} {kk : Nat} {tpos : Pos} (a en it : Addr) :
    Turn P w K (.Tuple elts kk tpos) (IteT K a) [en, it] en (fun i h => (∃ old, IsEnum h en it ((i : Nat) : Int) old) ∧ h.IsTupleIter it a i ∧ en ≠ it) where
  mem := List.mem_cons_self
  obj := fun i h st b hb => by
    obtain ⟨⟨old, he⟩, ⟨o, ho, hc, hd⟩, _⟩ := st
    rcases List.mem_cons.mp hb with rfl | hb
    · exact ⟨_, he, fun v q => nomatch q⟩
    · rw [List.mem_singleton.mp hb]
      exact ⟨o, ho, fun v q => by rw [hd] at q; cases q⟩
  keep := fun i h h' st k => by
    obtain ⟨⟨old, he⟩, hi, hne⟩ := st
    exact ⟨⟨old, k en List.mem_cons_self _ he⟩, hi.at fun o q => k it (by simp) o q, hne⟩
  item := by
    intro X hP hw hK hc i pins s σ H E I hf st hg
    subst hP hw hK
    obtain ⟨⟨old, he⟩, hit, hne⟩ := st
    obtain ⟨us, x, hq, hx⟩ := hg
    obtain ⟨its, rv, pt, hz⟩ := I.tuple hq
    obtain ⟨u, hu, ru⟩ := rv.get hx
    have hel : en < s.heap.objs.size := Heap.lt_size he
    obtain ⟨oi, hoi, hci, hdi⟩ := id hit
    have hil : it < s.heap.objs.size := Heap.lt_size hoi
    have hai : a ≠ it := isTup_ne pt hoi (by rw [hci]; decide)
    have hae : a ≠ en := isTup_ne pt he (show (Value.type "enumerate") ≠ Value.type "tuple" by decide)
    have hlt : i < its.toArray.size := by
      have := (List.getElem?_eq_some_iff.mp hu).1
      simpa using this
    refine wpAny_pyNext_enum_itemD (Draws.tuple (A := X.A.in1) (I.ok.hd hc) it a hai its.toArray) he ⟨hit, pt⟩ hlt hne (by simp [hne, Ne.symm hae]) fun y h' tk hy ho hst hT hsz hk => ?_
    have ey : y = u := by
      have h1 : its[i]? = some y := by simpa using hy
      rw [hu] at h1
      exact (Option.some.inj h1).symm
    subst ey
    refine ⟨_, rfl, wpAny_letOwnedTupleGo_enum (s := { s with heap := h', toks := tk + 1 }) ho fun h2 he2 sb => ?_⟩
    have hT2 : h2.get? s.heap.objs.size = some { cls := .type "tuple", data := .seq #[.int i tk, y] } := (sb.2 _ (Nat.ne_of_gt hel)).trans hT
    have new : ObjOk X.prog X.w (upd H s.heap.objs.size (.tup [.int (i : Nat), x])) h2 s.heap.objs.size (.tup [.int (i : Nat), x]) :=
      ⟨Nat.le_trans (show 2 ≤ BIG by decide) big_le, [.int i tk, y], .cons ⟨_, rfl⟩ (.cons ru .nil), ⟨_, hT2, rfl, _, rfl⟩⟩
    have kp : ∀ b o, b ∉ [en, it] → s.heap.get? b = some o → h2.get? b = some o := fun b o hb q => by
      have h1 : b ≠ en := fun z => hb (by simp [z])
      have h3 : b ≠ it := fun z => hb (by simp [z])
      exact (sb.2 b h1).trans (hk b o h1 h3 q)
    have J : Inv X pins σ (upd H s.heap.objs.size (.tup [.int (i : Nat), x])) { s with heap := h2, toks := tk + 1 } := I.turnedNew (ch := [en, it]) kp hf (Nat.le_refl _) new
    refine ⟨.ref s.heap.objs.size, _, J, rfl, ⟨_, x, rfl, I.hok.fresh (Nat.le_refl _), rfl, fun ws hws => by rw [I.tuple_inj hws hq]; exact hx⟩, ⟨⟨y, ?_⟩, hst.1.at fun o q => (sb.2 it (Ne.symm hne)).trans q, hne⟩, fun b hb => ?_⟩
    · have e1 : ((i + 1 : Nat) : Int) = (i : Int) + 1 := by omega
      rw [e1]
      exact he2
    · have hb' : b < s.heap.objs.size := by
        rcases List.mem_cons.mp hb with rfl | hb
        · exact hel
        · rw [List.mem_singleton.mp hb]
          exact hil
      rw [upd_ne (Nat.ne_of_lt hb')]
      exact (hf b hb).1
  done := by
    intro X hP hw hK hc i pins s σ H E I hf st hg
    subst hP hw hK
    obtain ⟨⟨old, he⟩, hit, hne⟩ := st
    obtain ⟨us, hq, hx⟩ := hg
    obtain ⟨its, rv, pt, hz⟩ := I.tuple hq
    obtain ⟨f0, f1, f2, f3, f4, f5⟩ := hf it (by simp)
    obtain ⟨oi, hoi, hci, hdi⟩ := id hit
    have hai : a ≠ it := isTup_ne pt hoi (by rw [hci]; decide)
    have hl : its.toArray.size = i := by rw [List.size_toArray, ← rv.length, hx]
    subst hl
    exact wpAny_pyNext_enum_endD (Draws.tuple (A := X.A.in1) (I.ok.hd hc) it a hai its.toArray) he ⟨hit, pt⟩ fun h' eb => ⟨rfl, I.turned (t' := s.toks) (fun b o hb q => eb b o hb q) f0 f1 f3 f4 f5⟩
  self := fun A i s Q E st h => by
    obtain ⟨⟨old, he⟩, _⟩ := st
    exact wpAny_pyIter_enum he h
set_option maxHeartbeats 1000000 in
theorem meets_enumT {t : Addr} {items : Array Value} :
    Meets (Builtin.«enumerate.__new__» ⟨[.type "enumerate", .ref t], []⟩) (fun _ R s => s.heap.IsTuple t items ∧
      R (.ok (.ret (.ref (s.heap.push { cls := .type "tuple_iterator", data := .fields #[.ref t, .int 0 0] }).objs.size)))
        { s with heap := (s.heap.push { cls := .type "tuple_iterator", data := .fields #[.ref t, .int 0 0] }).push { cls := .type "enumerate", data := .fields #[.none, .bool false, .ref s.heap.objs.size, rawInt 0, .none, .none] } }) :=
  .of_wp fun prog w A R s h => by
    obtain ⟨hp, g, d, tk, os⟩ := s
    obtain ⟨h1, h⟩ := h
    have hsub := sub_enumerate
    have go : ∀ {A' : Around} {E : Value → Shared → Prop} {Q : Value → Shared → Prop}, Q (.ref hp.objs.size) ⟨hp.push { cls := .type "tuple_iterator", data := .fields #[.ref t, .int 0 0] }, g, d, tk, os⟩ → wpAny (model prog w) A' (pyIter (.ref t)) Q E ⟨hp, g, d, tk, os⟩ :=
      fun q => (begins_tuple t items).iter prog w _ _ ⟨hp, g, d, tk, os⟩ _ h1 q
    wp_walk using go
    refine wpAny_stack_any fun st => wpAny_pure ?_
    split
    · rename_i c _ _ _ _ _
      cases (c == Value.type "enumerate")
      all_goals
        wp_walk using go
        exact ⟨_, rfl, h⟩
    · wp_walk using go
      exact ⟨_, rfl, h⟩
theorem call_enumT {prog : Program} {w : World} {A : Around} {E : Value → Shared → Prop} {s : Shared} {t : Addr} {items : Array Value} {Q : Value → Shared → Prop} (hT : s.heap.IsTuple t items)
    (h : ∀ h', IsEnum h' (s.heap.objs.size + 1) s.heap.objs.size 0 .none → h'.IsTupleIter s.heap.objs.size t 0 → (∀ b o, s.heap.get? b = some o → h'.get? b = some o) → Q (.ref (s.heap.objs.size + 1)) { s with heap := h' }) :
    wpAny (model prog w) A (call (.type "enumerate") [.ref t]) Q E s := by
  refine callType_new F.called_enumerate (by decide) (F.typeCall_enumerate_1 _) (F.newCall_enumerate_1 _) (fun obj => F.args_object_init_2 obj _) F.entry_enumerate_new (meets_enumT (t := t) (items := items)) ⟨hT, ?_⟩
  generalize hq : s.heap.push { cls := .type "tuple_iterator", data := .fields #[.ref t, .int 0 0] } = q
  have hz : q.objs.size = s.heap.objs.size + 1 := by rw [← hq]; exact Heap.size_push ..
  have hi : q.get? s.heap.objs.size = some { cls := .type "tuple_iterator", data := .fields #[.ref t, .int 0 0] } := by rw [← hq]; exact Heap.get?_push_size _ rfl
  have hk : ∀ b o, s.heap.get? b = some o → q.get? b = some o := fun b o e => by rw [← hq]; exact Heap.get?_push_of_some _ e
  have he : (q.push { cls := .type "enumerate", data := .fields #[.none, .bool false, .ref s.heap.objs.size, rawInt 0, .none, .none] }).get? q.objs.size = some { cls := .type "enumerate", data := .fields #[.none, .bool false, .ref s.heap.objs.size, rawInt 0, .none, .none] } := Heap.get?_push_size _ rfl
  show _ ∧ _
  rw [hz] at he ⊢
  exact ⟨⟨_, he, rfl⟩, h _ he ⟨_, Heap.get?_push_of_some _ hi, rfl, rfl⟩ fun b o x => Heap.get?_push_of_some _ (hk b o x)⟩
def iEnumT (K : PySem.W.Frag) (ta : TA) : TI := fun σ H R => ta σ H fun vs H1 => ∃ a us, vs = [.ref a] ∧ SqT K H1 a us ∧ R (IteT K a) H1
theorem pi_enumT {X : Cx} {e : Expr} {ta : TA} {p pos tpos : Pos} {elts : List Expr} {kk : Nat} (hg : Gl X "enumerate") (hm : X.mg "enumerate" = none) (ha : PA X [e] ta) (hs : starEach [e] X.env = [(false, eval e X.env)] := by rfl) :
    PI X (.Tuple elts kk tpos) (.Call (.Name "enumerate" p) [e] [] pos) (iEnumT X.K ta) := by
  refine ⟨fun pins s σ H R I h => ?_⟩
  refine Call_ (ld_blt I hg hm boot_enumerate (PyProof.Rows.callWith_type1 (thn (ha.run pos pins s σ H _ I h) fun ws s1 hh => ?_) hs rfl))
  obtain ⟨vs, H1, I1, r1, a, us, ev, hq, q⟩ := hh
  subst ev
  obtain ⟨w', rfl, rw'⟩ := vals1 r1
  cases rw'
  obtain ⟨its, rv, pt, hz⟩ := I1.tuple hq
  refine call_enumT pt fun h' he hit hk => wpAny_pyIter_enum he ?_
  have J : Inv X pins σ H1 { s1 with heap := h' } := I1.kept (t' := s1.toks) hk
  refine ⟨s1.heap.objs.size + 1, [s1.heap.objs.size + 1, s1.heap.objs.size], _, _, H1, rfl, J, turn_enumT a (s1.heap.objs.size + 1) s1.heap.objs.size, ⟨⟨.none, he⟩, hit, Nat.succ_ne_self _⟩, fun b hb => ?_, q⟩
  have hle : s1.heap.objs.size ≤ b := by
    rcases List.mem_cons.mp hb with rfl | hb
    · exact Nat.le_succ _
    · rw [List.mem_singleton.mp hb]
      exact Nat.le_refl _
  exact I1.fpOk hle (I1.hok.fresh hle)
def enumD (xs : List D) : List D := (List.range xs.length).zipWith (fun (i : Nat) d => .tup [.int (i : Int), d]) xs
theorem enumD_get {xs : List D} {i : Nat} {d : D} (e : (enumD xs)[i]? = some d) : ∃ x, xs[i]? = some x ∧ d = .tup [.int (i : Int), x] := by
  unfold enumD at e
  rw [List.getElem?_zipWith] at e
  cases q : xs[i]? with
  | none => simp [q] at e
  | some x =>
    have hi : i < xs.length := (List.getElem?_eq_some_iff.mp q).1
    rw [List.getElem?_range hi, q] at e
    simp at e
    exact ⟨x, rfl, e.symm⟩
theorem enumD_len (xs : List D) : (enumD xs).length = xs.length := by simp [enumD]
def fItEL (a : EE) : EI := fun s h => (a s h).bind fun x h1 => match x with
  | .ref n => (match h1[n]? with
    | some (.lst xs) => .ok (enumD xs, [(n, .lst xs)]) h1
    | _ => .bad)
  | _ => .bad
def fItET (a : EE) : EI := fun s h => (a s h).bind fun x h1 => match x with
  | .tup xs => .ok (enumD xs, []) h1
  | _ => .bad
section
variable {K : PySem.W.Frag} {m1 : Mp} {H1 : Hp} {h1 : HC}
theorem pair_new {m : Mp} {h : HC} {H : Hp} {T : Addr} {d1 d2 : D} {v1 v2 : V} (S : Sm K m h H) (hT : H T = none) (r1 : RelD m H d1 v1) (r2 : RelD m H d2 v2) :
    Ext m m H (upd H T (.tup [v1, v2])) ∧ Sm K m h (upd H T (.tup [v1, v2])) ∧ RelD m (upd H T (.tup [v1, v2])) (.tup [d1, d2]) (.ref T) := by
  obtain ⟨S1, E1⟩ := S.newT (o := .tup [v1, v2]) hT
  refine ⟨E1, S1, ?_⟩
  simp only [RelD]
  exact ⟨T, _, rfl, upd_same, RelDs.cons (r1.mono S E1) (RelDs.cons (r2.mono S E1) RelDs.nil)⟩
theorem walkS_enumT {a : Addr} {xs : List D} {vs : List V} (S1 : Sm K m1 h1 H1) (ha : H1 a = some (.tup vs)) (r : RelDs m1 H1 xs vs) : WalkS K m1 H1 (IteT K a) (enumD xs) [] := fun m' h' H' E S c => by
  have hq : SqT K H' a vs := SqT.of (S1.kept E a vs ha)
  have hr := r.mono S1 E
  refine ⟨fun i d e => ?_, ⟨vs, hq, by rw [enumD_len, hr.len]⟩⟩
  obtain ⟨x, ex, rfl⟩ := enumD_get e
  obtain ⟨v, hv2, hd⟩ := hr.get ex
  refine ⟨⟨vs, v, hq, hv2⟩, fun y H'' yl => ?_⟩
  obtain ⟨T, u, rfl, hT, rfl, hu⟩ := yl
  have := hu vs hq
  rw [hv2] at this
  cases this
  exact pair_new S hT (by simp [RelD]) hd
theorem walkS_enumL {n : Nat} {a : Addr} {xs : List D} (ha : m1.ad[n]? = some a) : WalkS K m1 H1 (Ite K a) (enumD xs) [(n, .lst xs)] := fun m' h' H' E S c => by
  obtain ⟨vs, hv, hr⟩ := S.cell n _ a (chk_one c) (E.le n a ha)
  have hq : SqL K H' a vs := SqL.of hv
  refine ⟨fun i d e => ?_, ⟨vs, hq, by rw [enumD_len, hr.len]; exact Nat.le_refl _⟩⟩
  obtain ⟨x, ex, rfl⟩ := enumD_get e
  obtain ⟨v, hv2, hd⟩ := hr.get ex
  refine ⟨⟨vs, v, hq, hv2⟩, fun y H'' yl => ?_⟩
  obtain ⟨T, u, rfl, hT, rfl, hu⟩ := yl
  have := hu vs hq
  rw [hv2] at this
  cases this
  exact pair_new S hT (by simp [RelD]) hd
end
section
variable {X : Cx} {W : WX} {e : Expr} {fa : EE} {p pos tpos : Pos} {elts : List Expr} {kk : Nat}
theorem si_enumT (hm : X.mg "enumerate" = none) (ha : PE X e (rE X.K W fa)) (hg : Gl X "enumerate" := by rfl) (hs : starEach [e] X.env = [(false, eval e X.env)] := by rfl) : PI X (.Tuple elts kk tpos) (.Call (.Name "enumerate" p) [e] [] pos) (rI X.K W (fItET fa)) :=
  si_val (pi_enumT hg hm (pa_cons ha pa_nil hs) hs) (fun σ H R q => rd_mono q fun v H1 ⟨m1, h1, d, S1, r1, xs, G, h2, e, _, k⟩ => by
    cases d with
    | tup ys =>
      cases e
      simp only [RelD] at r1
      obtain ⟨a, vs, rfl, ha, hr⟩ := r1
      exact ⟨a, vs, rfl, SqT.of ha, k _ (walkS_enumT S1 ha hr)⟩
    | _ => cases e) fun d h => by
    cases d with
    | tup ys => exact .inl ⟨_, _, rfl⟩
    | _ => exact .inr rfl
theorem si_enumL (hm : X.mg "enumerate" = none) (ha : PE X e (rE X.K W fa)) (hg : Gl X "enumerate" := by rfl) (hs : starEach [e] X.env = [(false, eval e X.env)] := by rfl) : PI X (.Tuple elts kk tpos) (.Call (.Name "enumerate" p) [e] [] pos) (rI X.K W (fItEL fa)) :=
  si_val (pi_enum hg hm (pa_cons ha pa_nil hs) hs) (fun σ H R q => rd_mono q fun v H1 ⟨m1, h1, d, S1, r1, xs, G, h2, e, _, k⟩ => by
    cases d with
    | ref n =>
      dsimp only at e
      simp only [RelD] at r1
      obtain ⟨a, ha, rfl⟩ := r1
      split at e
      · rename_i ys hy
        cases e
        obtain ⟨vs, hv, hr⟩ := S1.cell n _ a hy ha
        exact ⟨a, vs, rfl, SqL.of hv, k _ (walkS_enumL ha)⟩
      · cases e
    | _ => cases e) fun d h => by
    cases d with
    | ref n =>
      dsimp only
      split
      · exact .inl ⟨_, _, rfl⟩
      · exact .inr rfl
    | _ => exact .inr rfl
end
end G9

set_option Elab.async false
set_option linter.all false
set_option maxRecDepth 100000
set_option maxHeartbeats 2000000
namespace G9
open PySem PySem.Spec PyProof.Rows L2

/-! ### comprehensions as expressions and in an assignment -/
section
variable {X : Cx} {W : WX} {elt tg iter : Expr} {ifs : List Expr} {scope : Scope} {own : List (Str × Nat)} {pos spos : Pos} {fi : EI} {g : EG} {fc : ET} {fa : EE}
theorem PTsw {t t' : TT} (h : PTs X ifs t) (w : ∀ σ H Q, t' σ H Q → t σ H Q) : PTs X ifs t' := ⟨fun pins s σ H Q I q => h.run pins s σ H Q I (w _ _ _ q)⟩
theorem sts_nil : PTs X [] (rT X.K W0 fYes) := PTsw pts_nil fun σ H Q q => by
  obtain ⟨m, s, h, S, r, p⟩ := q
  exact p _ _ _ Ext.refl S rfl
theorem sts_one {c : Expr} (h : PT X c (rT X.K W0 fc)) : PTs X [c] (rT X.K W0 fc) := pts_one h
theorem se_lc (hc : X.calm = true) (hN : X.N.Nodup) (ok : BlkOk X.N X.env.scope scope own) (hi : PI X tg iter (rI X.K W fi))
    (hg : ∀ (s : Shared) (H : Hp) (C : Addr) (cl : List (Str × Addr)) (fp : List Addr), PG (X.blk s H scope (compEnvC scope cl C X.env) fp) tg (rG X.K (own.map (·.2)) g))
    (ht : ∀ (s : Shared) (H : Hp) (C : Addr) (cl : List (Str × Addr)) (fp : List Addr), PTs (X.blk s H scope (compEnvC scope cl C X.env) fp) ifs (rT X.K W0 fc))
    (he : ∀ (s : Shared) (H : Hp) (C : Addr) (cl : List (Str × Addr)) (fp : List Addr), PE (X.blk s H scope (compEnvC scope cl C X.env) fp) elt (rE X.K W0 fa)) (hs : ∀ x, foldedSetIterable iter X.env x = pure x := by intro _; rfl) :
    PE X (.ListComp elt [⟨tg, iter, ifs, 0⟩] scope pos) (rE X.K W (fLc fi (own.map (·.2)) g fc fa)) := PEw (pe_lc hc hN hi ok hg ht he hs) (tLc_of _)
theorem ss_setLc {i : Nat} {y : Str} {py : Pos} (hc : X.calm = true) (hN : X.N.Nodup) (ok : BlkOk X.N X.env.scope scope own)
    (hsw : swapsWith (.ListComp elt [⟨tg, iter, ifs, 0⟩] scope pos) (some (.Name y py)) spos.line X.env = pure true) (hi : PI X tg iter (rI X.K W fi))
    (hg : ∀ (s : Shared) (H : Hp) (C : Addr) (cl : List (Str × Addr)) (fp : List Addr), PG (X.blk s H scope (compEnvC scope cl C X.env) fp) tg (rG X.K (own.map (·.2)) g))
    (ht : ∀ (s : Shared) (H : Hp) (C : Addr) (cl : List (Str × Addr)) (fp : List Addr), PTs (X.blk s H scope (compEnvC scope cl C X.env) fp) ifs (rT X.K W0 fc))
    (he : ∀ (s : Shared) (H : Hp) (C : Addr) (cl : List (Str × Addr)) (fp : List Addr), PE (X.blk s H scope (compEnvC scope cl C X.env) fp) elt (rE X.K W0 fa)) (hs : ∀ x, foldedSetIterable iter X.env x = pure x := by intro _; rfl)
    (hy : X.N[i]? = some y := by rfl) (hyl : X.env.scope.names.lookup y = some .local := by rfl) :
    PS X (.Assign [.Name y py] (.ListComp elt [⟨tg, iter, ifs, 0⟩] scope pos) spos) (rS X.K W (fSet i (fLc fi (own.map (·.2)) g fc fa))) :=
  PSw (ps_setLc hc hN hy hyl hsw hi ok hg ht he hs) fun En σ H q => by
    refine tLc_of _ σ H _ (rd_mono (rS_bind (R := RelD) (f := fLc fi (own.map (·.2)) g fc fa) (g := fun d s h1 => .nx (s.set i (some d)) h1) q) fun x H1 ⟨m1, s, h1, d1, S1, r1, q1, p1⟩ => ?_)
    exact p1 _ _ _ Ext.refl S1 (r1.set q1)
end

/-! ### more assignments -/
def fAsg (g : EG) (a : EE) : ES := fun s h => ofR s (a s h) fun d h1 => match g d s with
  | some s1 => .nx s1 h1
  | none => .bad
def fAugI (f : Int → Int → Int) (i : Nat) (a : EE) : ES := fun s h => match s[i]? with
  | some (some (.int x)) => ofR s (a s h) fun d h1 => (match d with
    | .int y => .nx (s.set i (some (.int (f x y)))) h1
    | _ => .bad)
  | _ => .bad
section
variable {X : Cx} {W : WX} {e tg : Expr} {fa : EE} {g : EG} {vs : List Nat} {pos : Pos}
theorem ss_asg (he : PE X e (rE X.K W fa)) (hg : PG X tg (rG X.K vs g)) (hs : swapsWithSole [tg] e pos.line X.env = pure false := by rfl) (hw : swappedStores [tg] e X.env = pure none := by rfl)
    (h1 : (assignEach [tg] X.env).map (·.2) = [assign tg X.env] := by rfl) : PS X (.Assign [tg] e pos) (rS X.K W (fAsg g fa)) := PSw (ps_asg he hg hs hw h1) fun En σ H q => by
  refine rd_mono (rS_bind (R := RelD) (f := fa) (g := fun d s h1 => match g d s with | some s1 => .nx s1 h1 | none => .bad) q) fun x H1 ⟨m1, s, h1, d1, S1, r1, q1, p1⟩ => ?_
  split at p1
  · rename_i s1 e1
    exact ⟨m1, s, h1, d1, s1, S1, r1, q1, e1, fun σ' r' _ => p1 _ _ _ Ext.refl S1 r'⟩
  · exact p1.elim
theorem ss_augAdd {i : Nat} {x : Str} {pos' : Pos} (hN : X.N.Nodup) (he : PE X e (rE X.K W fa)) (hi : X.N[i]? = some x := by rfl) (hx : Loc X.env.scope x := by first | exact Or.inl rfl | exact Or.inr rfl) (hf : X.fn x = true ∨ X.env.scope.names.lookup x = some .local := by first | exact .inl rfl | exact .inr rfl | assumption) :
    PS X (.AugAssign (.Name x pos') .Add e pos) (rS X.K W (fAugI (fun a b => a + b) i fa)) := PSw (ps_aug hN hi hx he ip_add hf) fun En σ H q => by
  obtain ⟨m, s, h, S, r, p⟩ := q
  unfold fAugI at p
  split at p
  · rename_i z ez
    obtain ⟨v, hv, hr⟩ := r.2 i _ ez
    simp only [RelD] at hr
    subst hr
    refine ⟨_, hv, ?_⟩
    refine ⟨m, s, h, S, r, ?_⟩
    cases e1 : fa s h with
    | ok d h1 =>
      rw [e1] at p
      intro m1 H1 y E1 S1 r1
      dsimp only [ofR] at p
      split at p
      · simp only [RelD] at r1
        exact ⟨_, _, rfl, r1, p _ _ _ E1 S1 ((r.mono S E1).set (by simp [RelD]))⟩
      · exact p.elim
    | exc c h1 => rw [e1] at p; exact fun m1 H1 E1 S1 => p m1 H1 σ E1 S1 (r.mono S E1)
    | bad => rw [e1] at p; exact p
  · exact p.elim
end

/-! ### built-ins by values -/
def bList : List D → HC → Res D
  | [.tup xs], h => newL xs h
  | [.ref n], h => (match asSeq h n with
    | some xs => newL xs h
    | none => .bad)
  | _, _ => .bad
def bTuple : List D → HC → Res D
  | [.tup xs], h => mkT xs h
  | [.ref n], h => (match asSeq h n with
    | some xs => mkT xs h
    | none => .bad)
  | _, _ => .bad
def intsD (xs : List D) : Option (List Int) := optAll (xs.map fun d => match d with
  | .int i => some i
  | _ => none)
def bSum : List D → HC → Res D
  | [.ref n], h => (match asSeq h n with
    | some xs => (match intsD xs with
      | some ns => .ok (.int ns.sum) h
      | none => .bad)
    | none => .bad)
  | _, _ => .bad
def maxI : List Int → Int
  | [] => 0
  | [x] => x
  | x :: xs => max x (maxI xs)
def minI : List Int → Int
  | [] => 0
  | [x] => x
  | x :: xs => min x (minI xs)
def bMax : List D → HC → Res D
  | [.int a, .int b], h => .ok (.int (if b > a then b else a)) h
  | [.ref n], h => (match asSeq h n with
    | some xs => (match intsD xs with
      | some (x :: ns) => .ok (.int (maxI (x :: ns))) h
      | _ => .bad)
    | none => .bad)
  | _, _ => .bad
def bMin : List D → HC → Res D
  | [.int a, .int b], h => .ok (.int (if b < a then b else a)) h
  | [.ref n], h => (match asSeq h n with
    | some xs => (match intsD xs with
      | some (x :: ns) => .ok (.int (minI (x :: ns))) h
      | _ => .bad)
    | none => .bad)
  | _, _ => .bad
section
variable {K : PySem.W.Frag} {m : Mp} {h : HC} {H : Hp}
theorem intsD_ok : ∀ {xs : List D} {vs : List V} {ns : List Int}, RelDs m H xs vs → intsD xs = some ns → vs = ns.map V.int
  | [], vs, ns, r, e => by
    simp only [RelDs] at r
    simp [intsD, optAll] at e
    subst e r
    rfl
  | d :: ds, vs, ns, r, e => by
    simp only [RelDs] at r
    obtain ⟨v, ws, rfl, h1, h2⟩ := r
    unfold intsD at e
    rw [List.map_cons] at e
    cases d with
    | int i =>
      simp only [RelD] at h1
      subst h1
      cases q2 : optAll (ds.map fun d => match d with | .int i => some i | _ => none) with
      | none => simp [optAll, q2] at e
      | some us =>
        simp [optAll, q2] at e
        subst e
        rw [List.map_cons, intsD_ok h2 q2]
    | _ => simp [optAll] at e
theorem cs_list : ClS K (fun xs H Q => ∃ p ys, xs = [.ref p] ∧ (SqL K H p ys ∨ SqT K H p ys) ∧ ∀ l, H l = none → Q (.ref l) (upd H l (.lst ys))) bList := by
  intro W σ m h H ds vs Q S r p
  unfold bList at p
  split at p
  · obtain ⟨v, rfl, rv⟩ := r.one
    simp only [RelD] at rv
    obtain ⟨a, us, rfl, ha, hr⟩ := rv
    exact newL_ok S hr p fun _ k => ⟨a, us, rfl, .inr (SqT.of ha), k⟩
  · split at p
    · rename_i xs hx
      obtain ⟨v, rfl, rv⟩ := r.one
      obtain ⟨a, us, rfl, _, hs, hr⟩ := S.seq rv hx
      exact newL_ok S hr p fun _ k => ⟨a, us, rfl, .inl hs, k⟩
    · exact p.elim
  · exact p.elim
theorem cs_tuple : ClS K (fun xs H Q => ∃ p ys, xs = [.ref p] ∧ ((SqL K H p ys ∧ ∀ l, H l = none → Q (.ref l) (upd H l (.tup ys))) ∨ (SqT K H p ys ∧ Q (.ref p) H))) bTuple := by
  intro W σ m h H ds vs Q S r p
  unfold bTuple at p
  split at p
  · obtain ⟨v, rfl, rv⟩ := r.one
    simp only [RelD] at rv
    obtain ⟨a, us, rfl, ha, hr⟩ := rv
    exact mkT_ok S hr p fun _ _ k => ⟨a, us, rfl, .inr ⟨SqT.of ha, k a ha⟩⟩
  · split at p
    · rename_i xs hx
      obtain ⟨v, rfl, rv⟩ := r.one
      obtain ⟨a, us, rfl, _, hs, hr⟩ := S.seq rv hx
      exact mkT_ok S hr p fun _ k _ => ⟨a, us, rfl, .inl ⟨hs, k⟩⟩
    · exact p.elim
  · exact p.elim
theorem cs_sum : ClS K (rSum K) bSum := by
  intro W σ m h H ds vs Q S r p
  unfold bSum at p
  split at p
  · split at p
    · rename_i xs hx
      split at p
      · rename_i ns hn
        obtain ⟨v, rfl, rv⟩ := r.one
        obtain ⟨a, us, rfl, _, hs, hr⟩ := S.seq rv hx
        have e := intsD_ok hr hn
        subst e
        exact ⟨a, ns, rfl, hs, p _ _ _ Ext.refl S (by simp [RelD])⟩
      · exact p.elim
    · exact p.elim
  · exact p.elim
theorem maxI_is : ∀ (x : Int) (ns : List Int), maxI (x :: ns) ∈ x :: ns ∧ ∀ y ∈ x :: ns, y ≤ maxI (x :: ns)
  | x, [] => by simp [maxI]
  | x, z :: ns => by
    obtain ⟨h1, h2⟩ := maxI_is z ns
    have e : maxI (x :: z :: ns) = max x (maxI (z :: ns)) := rfl
    rw [e]
    refine ⟨?_, fun y hy => ?_⟩
    · by_cases hc : x ≤ maxI (z :: ns)
      · rw [Int.max_eq_right hc]
        exact List.mem_cons_of_mem _ h1
      · rw [Int.max_eq_left (by omega)]
        exact List.mem_cons_self
    · rcases List.mem_cons.mp hy with rfl | hy
      · omega
      · have := h2 y hy
        omega
theorem minI_is : ∀ (x : Int) (ns : List Int), minI (x :: ns) ∈ x :: ns ∧ ∀ y ∈ x :: ns, minI (x :: ns) ≤ y
  | x, [] => by simp [minI]
  | x, z :: ns => by
    obtain ⟨h1, h2⟩ := minI_is z ns
    have e : minI (x :: z :: ns) = min x (minI (z :: ns)) := rfl
    rw [e]
    refine ⟨?_, fun y hy => ?_⟩
    · by_cases hc : x ≤ minI (z :: ns)
      · rw [Int.min_eq_left hc]
        exact List.mem_cons_self
      · rw [Int.min_eq_right (by omega)]
        exact List.mem_cons_of_mem _ h1
    · rcases List.mem_cons.mp hy with rfl | hy
      · omega
      · have := h2 y hy
        omega
def rMaxAll (K : PySem.W.Frag) : List V → Hp → VK → Prop := fun xs H Q => (∃ i j, xs = [.int i, .int j] ∧ Q (.int (if j > i then j else i)) H) ∨ rMax K xs H Q
def rMinAll (K : PySem.W.Frag) : List V → Hp → VK → Prop := fun xs H Q => (∃ i j, xs = [.int i, .int j] ∧ Q (.int (if j < i then j else i)) H) ∨ rMin K xs H Q
theorem call_maxAll {X : Cx} (hc : X.calm = true) : CallR X (.builtin "max") (rMaxAll X.K) := CallR.or (call_max2 hc) (cr_max hc)
theorem call_minAll {X : Cx} (hc : X.calm = true) : CallR X (.builtin "min") (rMinAll X.K) := CallR.or (call_min2 hc) (cr_min hc)
theorem cs_max : ClS K (rMaxAll K) bMax := by
  intro W σ m h H ds vs Q S r p
  unfold bMax at p
  split at p
  · obtain ⟨v, w, rfl, r1, r2⟩ := r.two
    simp only [RelD] at r1 r2
    subst r1 r2
    exact .inl ⟨_, _, rfl, p _ _ _ Ext.refl S (by simp [RelD])⟩
  · split at p
    · rename_i xs hx
      split at p
      · rename_i x ns hn
        obtain ⟨v, rfl, rv⟩ := r.one
        obtain ⟨a, us, rfl, _, hs, hr⟩ := S.seq rv hx
        have e := intsD_ok hr hn
        subst e
        obtain ⟨e1, e2⟩ := maxI_is x ns
        refine .inr ⟨a, x :: ns, rfl, hs, by simp, fun z h1 h2 => ?_⟩
        have ez : z = maxI (x :: ns) := Int.le_antisymm (e2 z h1) (h2 _ e1)
        rw [ez]
        exact p _ _ _ Ext.refl S (by simp [RelD])
      · exact p.elim
    · exact p.elim
  · exact p.elim
theorem cs_min : ClS K (rMinAll K) bMin := by
  intro W σ m h H ds vs Q S r p
  unfold bMin at p
  split at p
  · obtain ⟨v, w, rfl, r1, r2⟩ := r.two
    simp only [RelD] at r1 r2
    subst r1 r2
    exact .inl ⟨_, _, rfl, p _ _ _ Ext.refl S (by simp [RelD])⟩
  · split at p
    · rename_i xs hx
      split at p
      · rename_i x ns hn
        obtain ⟨v, rfl, rv⟩ := r.one
        obtain ⟨a, us, rfl, _, hs, hr⟩ := S.seq rv hx
        have e := intsD_ok hr hn
        subst e
        obtain ⟨e1, e2⟩ := minI_is x ns
        refine .inr ⟨a, x :: ns, rfl, hs, by simp, fun z h1 h2 => ?_⟩
        have ez : z = minI (x :: ns) := Int.le_antisymm (h2 _ e1) (e2 z h1)
        rw [ez]
        exact p _ _ _ Ext.refl S (by simp [RelD])
      · exact p.elim
    · exact p.elim
  · exact p.elim
end

/-! ### sorting -/
section
variable {α β : Type} {lt : α → α → Bool}
def insO (lt : α → α → Bool) (y : α) : List α → List α
  | [] => [y]
  | x :: l => if lt y x = true then y :: x :: l else x :: insO lt y l
def sortO (lt : α → α → Bool) (xs : List α) : List α := xs.foldl (fun acc y => insO lt y acc) []
theorem insO_split (O : SrtO.Swo lt) (y : α) : ∀ l : List α, SrtO.Srtd lt l → ∃ M N, l = M ++ N ∧ insO lt y l = M ++ y :: N ∧ (∀ x ∈ M, lt y x = false) ∧ ∀ x ∈ N, lt y x = true
  | [], _ => ⟨[], [], rfl, rfl, by simp, by simp⟩
  | x :: l, h => by
    unfold insO
    rcases SrtO.bcase (lt y x) with q | q
    · rw [if_pos q]
      exact ⟨[], x :: l, rfl, rfl, by simp, O.lt_all h q⟩
    · rw [if_neg (by rw [q]; decide)]
      obtain ⟨M, N, e1, e2, h1, h2⟩ := insO_split O y l (List.pairwise_cons.mp h).2
      refine ⟨x :: M, N, by rw [e1]; rfl, by rw [e2]; rfl, fun z hz => ?_, h2⟩
      rcases List.mem_cons.mp hz with rfl | hz
      · exact q
      · exact h1 z hz
theorem sortO_fold (O : SrtO.Swo lt) : ∀ (xs acc pre : List α), SrtO.Srtd lt acc → SrtO.Stb lt acc pre → SrtO.Srtd lt (xs.foldl (fun acc y => insO lt y acc) acc) ∧ SrtO.Stb lt (xs.foldl (fun acc y => insO lt y acc) acc) (pre ++ xs)
  | [], acc, pre, h1, h2 => ⟨h1, by simpa using h2⟩
  | y :: xs, acc, pre, h1, h2 => by
    obtain ⟨M, N, e1, e2, h3, h4⟩ := insO_split O y acc h1
    subst e1
    have s1 := SrtO.ins_srtd O h1 h3 h4
    have s2 := SrtO.ins_stb O h4 h2
    rw [← e2] at s1 s2
    have := sortO_fold O xs (insO lt y (M ++ N)) (pre ++ [y]) s1 s2
    simpa using this
theorem sortO_ok (O : SrtO.Swo lt) (xs : List α) : SrtO.Srtd lt (sortO lt xs) ∧ SrtO.Stb lt (sortO lt xs) xs := by
  have := sortO_fold O xs [] [] List.Pairwise.nil (SrtO.Stb.refl [])
  simpa [sortO] using this
theorem sortO_uniq (O : SrtO.Swo lt) {xs ys : List α} (h1 : SrtO.Srtd lt ys) (h2 : SrtO.Stb lt ys xs) : ys = sortO lt xs := by
  obtain ⟨s1, s2⟩ := sortO_ok O xs
  refine SrtO.stb_uniq O h1 s1 (h2.trans ⟨s2.perm.symm, fun x => (s2.cls x).symm⟩)
end
section
variable {m : Mp} {H : Hp}
theorem insO_rel {ltd : D → D → Bool} {ltv : V → V → Bool} {P : D → Prop} (hl : ∀ d e v w, P d → P e → RelD m H d v → RelD m H e w → ltd d e = ltv v w) {d : D} {v : V} (hd : P d) (rd : RelD m H d v) : ∀ {ds : List D} {vs : List V}, (∀ x ∈ ds, P x) → RelDs m H ds vs → RelDs m H (insO ltd d ds) (insO ltv v vs)
  | [], vs, hp, r => by
    simp only [RelDs] at r
    subst r
    exact RelDs.cons rd RelDs.nil
  | e :: ds, vs, hp, r => by
    simp only [RelDs] at r
    obtain ⟨w, ws, rfl, h1, h2⟩ := r
    unfold insO
    rw [hl d e v w hd (hp e List.mem_cons_self) rd h1]
    by_cases hc : ltv v w = true
    · rw [if_pos hc, if_pos hc]
      exact RelDs.cons rd (RelDs.cons h1 h2)
    · rw [if_neg hc, if_neg hc]
      exact RelDs.cons h1 (insO_rel hl hd rd (fun x hx => hp x (List.mem_cons_of_mem _ hx)) h2)
theorem insO_all {ltd : D → D → Bool} {P : D → Prop} {d : D} (hd : P d) : ∀ {ds : List D}, (∀ x ∈ ds, P x) → ∀ x ∈ insO ltd d ds, P x
  | [], hp, x, hx => by
    have : x = d := by simpa [insO] using hx
    rw [this]
    exact hd
  | e :: ds, hp, x, hx => by
    unfold insO at hx
    split at hx
    · rcases List.mem_cons.mp hx with rfl | hx
      · exact hd
      · exact hp x hx
    · rcases List.mem_cons.mp hx with rfl | hx
      · exact hp _ List.mem_cons_self
      · exact insO_all hd (fun x hx => hp x (List.mem_cons_of_mem _ hx)) x hx
theorem sortO_rel {ltd : D → D → Bool} {ltv : V → V → Bool} {P : D → Prop} (hl : ∀ d e v w, P d → P e → RelD m H d v → RelD m H e w → ltd d e = ltv v w) : ∀ {ds : List D} {vs : List V}, (∀ x ∈ ds, P x) → RelDs m H ds vs → RelDs m H (sortO ltd ds) (sortO ltv vs) := by
  have key : ∀ (ds : List D) (vs : List V) (as : List D) (us : List V), (∀ x ∈ ds, P x) → (∀ x ∈ as, P x) → RelDs m H ds vs → RelDs m H as us → RelDs m H (ds.foldl (fun acc y => insO ltd y acc) as) (vs.foldl (fun acc y => insO ltv y acc) us) := by
    intro ds
    induction ds with
    | nil => intro vs as us _ _ r q; simp only [RelDs] at r; subst r; exact q
    | cons d ds ih =>
      intro vs as us hp ha r q
      simp only [RelDs] at r
      obtain ⟨w, ws, rfl, h1, h2⟩ := r
      exact ih ws _ _ (fun x hx => hp x (List.mem_cons_of_mem _ hx)) (insO_all (hp d List.mem_cons_self) ha) h2 (insO_rel hl (hp d List.mem_cons_self) h1 ha q)
  intro ds vs hp r
  exact key ds vs [] [] hp (by simp) r RelDs.nil
end
def keyP : D → Option (Int × Int)
  | .tup [.int a, .int b] => some (a, b)
  | _ => none
def ltPD (d e : D) : Bool := match keyP d, keyP e with
  | some p, some q => SrtO.lexB p q
  | _, _ => false
def bSorted : List D → HC → Res D
  | [.ref n], h => (match asSeq h n with
    | some xs => (match intsD xs with
      | some ns => newL ((sortO (fun a b => decide (a < b)) ns).map D.int) h
      | none => if xs.all (fun d => (keyP d).isSome) = true then newL (sortO ltPD xs) h else .bad)
    | none => .bad)
  | _, _ => .bad
def rSortedAll (K : PySem.W.Frag) : List V → Hp → VK → Prop := fun vs H Q => rSortedI K vs H Q ∨ rSortedPO K vs H Q
theorem call_sortedAll {X : Cx} : CallR X (.builtin "sorted") (rSortedAll X.K) := CallR.or cr_sortedI cr_sortedPO
def kOf (H : Hp) : V → Int × Int
  | .ref t => (match H t with
    | some (.tup [.int i, .int j]) => (i, j)
    | _ => (0, 0))
  | _ => (0, 0)
theorem keyP_ok {m : Mp} {H : Hp} {d : D} {v : V} {p : Int × Int} (r : RelD m H d v) (e : keyP d = some p) : ∃ t, v = .ref t ∧ H t = some (.tup [.int (kOf H v).1, .int (kOf H v).2]) ∧ kOf H v = p := by
  unfold keyP at e
  split at e
  · cases e
    simp only [RelD] at r
    obtain ⟨t, us, rfl, ht, hr⟩ := r
    obtain ⟨u, w, rfl, r1, r2⟩ := hr.two
    simp only [RelD] at r1 r2
    subst r1 r2
    have e2 : ∀ x y : Int, H t = some (.tup [.int x, .int y]) → kOf H (.ref t) = (x, y) := fun x y hxy => by
      unfold kOf
      simp only [hxy]
    rw [e2 _ _ ht]
    exact ⟨t, rfl, ht, rfl⟩
  · cases e
theorem swo_lt : SrtO.Swo (fun a b : Int => decide (a < b)) := ⟨fun x y h => by simp at h ⊢; omega, fun x y z h1 h2 => by simp at h1 h2 ⊢; omega⟩
theorem newL_sorted {K : PySem.W.Frag} : ClS K (rSortedAll K) bSorted := by
  intro W σ m h H ds vs Q S r p
  unfold bSorted at p
  split at p
  · split at p
    · rename_i xs hx
      obtain ⟨v, rfl, rv⟩ := r.one
      obtain ⟨a, us, rfl, _, hs, hr⟩ := S.seq rv hx
      split at p
      · rename_i ns hn
        have e := intsD_ok hr hn
        subst e
        refine newL_ok S (RelDs.ints (m := m) (H := H)) p fun _ k => .inl ⟨a, ns, rfl, hs, fun ns' q hp hw hq => ?_⟩
        obtain ⟨s1, s2⟩ := sortO_ok swo_lt ns
        have es : ns' = sortO (fun a b => decide (a < b)) ns := PySem.W.ksm_same (hp.trans s2.perm.symm) hw (s1.imp fun {x y} hxy => by simpa using hxy)
        rw [es]
        exact k q hq
      · split at p
        · rename_i hall
          have hk : ∀ d ∈ xs, ∃ q, keyP d = some q := fun d hd => by
            have := List.all_eq_true.mp hall d hd
            exact Option.isSome_iff_exists.mp this
          have hl : ∀ d e v w, (∃ q, keyP d = some q) → (∃ q, keyP e = some q) → RelD m H d v → RelD m H e w → ltPD d e = ltP (kOf H) v w := fun d e v w ⟨q1, h1⟩ ⟨q2, h2⟩ rd re => by
            obtain ⟨_, _, _, k1⟩ := keyP_ok rd h1
            obtain ⟨_, _, _, k2⟩ := keyP_ok re h2
            unfold ltPD
            rw [h1, h2]
            show SrtO.lexB q1 q2 = SrtO.lexB (kOf H v) (kOf H w)
            rw [k1, k2]
          refine newL_ok S (sortO_rel hl hk hr) p fun _ k => .inr ⟨a, us, kOf H, rfl, hs, fun x hx => ?_, fun ys q h1 h2 hq => ?_⟩
          · obtain ⟨i, hi⟩ := List.mem_iff_getElem?.mp hx
            obtain ⟨d, hd, rd⟩ := hr.get2 hi
            obtain ⟨z, hz⟩ := hk d (List.mem_of_getElem? hd)
            obtain ⟨t, e1, e2, _⟩ := keyP_ok rd hz
            exact ⟨t, e1, e2⟩
          · rw [sortO_uniq (ltP_swo (kOf H)) h1 h2]
            exact k q hq
        · exact p.elim
    · exact p.elim
  · exact p.elim
end G9

set_option Elab.async false
set_option linter.all false
set_option maxRecDepth 100000
set_option maxHeartbeats 2000000
namespace G9
open PySem PySem.Spec PyProof.Rows L2

/-! ### methods of built-in things -/
def hasTy (T : String) (h : HC) : D → Bool
  | .str _ => decide (T = "str")
  | .ref n => (match h[n]? with
    | some (.lst _) => decide (T = "list")
    | some (.dk _) => decide (T = "dict")
    | some (.dt _) => decide (T = "dict")
    | _ => false)
  | _ => false
theorem hasTy_ok {K : PySem.W.Frag} {m : Mp} {h : HC} {H : Hp} {d : D} {v : V} {T : String} (S : Sm K m h H) (r : RelD m H d v) (e : hasTy T h d = true) : tyV K T v H := by
  unfold hasTy at e
  split at e
  · simp only [RelD] at r
    subst r
    show T = "str"
    exact of_decide_eq_true e
  · simp only [RelD] at r
    obtain ⟨a, ha, rfl⟩ := r
    split at e
    · rename_i xs hx
      obtain ⟨vs, hv, _⟩ := S.cell _ _ a hx ha
      exact .inl ⟨of_decide_eq_true e, vs, SqL.of hv⟩
    · rename_i xs hx
      obtain ⟨vs, hv, _⟩ := S.cell _ _ a hx ha
      exact .inr (.inr (.inl ⟨of_decide_eq_true e, .inl ⟨vs, hv⟩⟩))
    · rename_i xs hx
      obtain ⟨vs, hv, _⟩ := S.cell _ _ a hx ha
      exact .inr (.inr (.inl ⟨of_decide_eq_true e, .inr ⟨vs, hv⟩⟩))
    · cases e
  · cases e
def MtS (K : PySem.W.Frag) (r : V → List V → Hp → VK → Prop) (f : D → List D → HC → Res D) : Prop :=
  ∀ (W : WX) (σ : L2.St) (m : Mp) (h : HC) (H : Hp) (d : D) (ds : List D) (v : V) (vs : List V) (Q : VK), Sm K m h H → RelD m H d v → RelDs m H ds vs → post RelD K W σ m H Q (f d ds h) → r v vs H Q
def fMt (T : String) (f : D → List D → HC → Res D) (o : EE) (as : EA) : EE := fun s h => (o s h).bind fun x h1 => if hasTy T h1 x = true then (as s h1).bind fun xs h2 => f x xs h2 else .bad
def fMt0 (T : String) (f : D → List D → HC → Res D) (o : EE) : EE := fun s h => (o s h).bind fun x h1 => if hasTy T h1 x = true then f x [] h1 else .bad
section
variable {X : Cx} {W : WX} {o e : Expr} {es : List Expr} {fo : EE} {as : EA} {name : Str} {apos cpos : Pos} {T id : String} {r : V → List V → Hp → VK → Prop} {f : D → List D → HC → Res D}
theorem se_mt (pa : PlainAttrs T) (slot : Slot T name id) (hty : typeOf (.builtin id) = pure (.type "method_descriptor")) (hm : MtR X id r) (hs' : MtS X.K r f) (ho : PE X o (rE X.K W fo)) (ha : PA X (e :: es) (rA X.K W as))
    (hbase : attributeBase o name X.env (eval o X.env) = eval o X.env := by rfl)
    (hfew : ((backTo cpos (starEach (e :: es) X.env)).all (fun x => !x.1) && (backToKw cpos (keywordEach [] X.env)).all (fun x => x.1.isSome)
      && decide ((e :: es).length + ([] : List Keyword).length + (if ([] : List Keyword).isEmpty then 0 else 1) < 30)) = true := by rfl)
    (hline : (apos.endLine == cpos.line) = true := by rfl) (hs : starEach (e :: es) X.env = (false, eval e X.env) :: starEach es X.env := by rfl) (hplain : (backTo cpos (starEach es X.env)).any (·.1) = false := by rfl) :
    PE X (.Call (.Attribute o name apos) (e :: es) [] cpos) (rE X.K W (fMt T f fo as)) :=
  PEw (pe_bm pa slot hty hm ho ha hbase hfew hline hs hplain) fun σ H Q q => by
    refine rd_mono (rd_bind (R := RelD) (f := fo) (g := fun x s h1 => if hasTy T h1 x = true then (as s h1).bind fun xs h2 => f x xs h2 else .bad) q) fun x H1 ⟨m1, s, h1, d1, S1, r1, q1, p1⟩ => ?_
    split at p1
    · rename_i ht
      refine ⟨hasTy_ok S1 q1 ht, m1, s, h1, S1, r1, ?_⟩
      cases e2 : as s h1 with
      | ok ds h2 =>
        rw [e2] at p1
        exact fun m2 H2 us E2 S2 q2 => hs' W σ m2 h2 H2 d1 ds x us Q S2 (q1.mono S1 E2) q2 (post_ext p1 E2)
      | exc c h2 => rw [e2] at p1; exact p1
      | bad => rw [e2] at p1; exact p1
    · exact p1.elim
theorem se_mt0 (pa : PlainAttrs T) (slot : Slot T name id) (hty : typeOf (.builtin id) = pure (.type "method_descriptor")) (hm : MtR X id r) (hs' : MtS X.K r f) (ho : PE X o (rE X.K W fo))
    (hbase : attributeBase o name X.env (eval o X.env) = eval o X.env := by rfl) (hline : (apos.endLine == cpos.line) = true := by rfl) : PE X (.Call (.Attribute o name apos) [] [] cpos) (rE X.K W (fMt0 T f fo)) :=
  PEw (pe_bm0 pa slot hty hm ho hbase hline) fun σ H Q q => by
    refine rd_mono (rd_bind (R := RelD) (f := fo) (g := fun x s h1 => if hasTy T h1 x = true then f x [] h1 else .bad) q) fun x H1 ⟨m1, s, h1, d1, S1, r1, q1, p1⟩ => ?_
    split at p1
    · rename_i ht
      exact ⟨hasTy_ok S1 q1 ht, hs' W σ m1 h1 H1 d1 [] x [] Q S1 q1 RelDs.nil p1⟩
    · exact p1.elim
end
/-- a list is written anew -/
theorem Sm.setL {K : PySem.W.Frag} {m : Mp} {h : HC} {H : Hp} (S : Sm K m h H) {n : Nat} {a : Addr} {vs us : List V} {ys : List D} (ha : m.ad[n]? = some a) (hv : H a = some (.lst vs)) (r : RelDs m H ys us) :
    Sm K m (h.set n (.lst ys)) (upd H a (.lst us)) ∧ Ext m m H (upd H a (.lst us)) := by
  have ht : ∀ q ws, H q = some (.tup ws) → upd H a (.lst us) q = some (.tup ws) := fun q ws e => by
    rw [upd_ne (fun z => by rw [z, hv] at e; cases e)]
    exact e
  exact S.setC ha ⟨us, upd_same, RelDs.mono_ (fun _ _ z => z) ⟨rfl, rfl⟩ ht _ _ r⟩
def setCell (h : HC) (n : Nat) (c : Cell) : HC := h.set n c
def mAppend : D → List D → HC → Res D
  | .ref n, [y], h => (match h[n]? with
    | some (.lst xs) => if xs.length < BIG then .ok .non (h.set n (.lst (xs ++ [y]))) else .bad
    | _ => .bad)
  | _, _, _ => .bad
def mExtend : D → List D → HC → Res D
  | .ref n, [.ref k], h => (match h[n]?, h[k]? with
    | some (.lst xs), some (.lst ys) => if xs.length + ys.length ≤ BIG then .ok .non (h.set n (.lst (xs ++ ys))) else .bad
    | _, _ => .bad)
  | _, _, _ => .bad
def mPop : D → List D → HC → Res D
  | .ref n, [], h => (match h[n]? with
    | some (.lst xs) => (match xs[xs.length - 1]? with
      | some y => .ok y (h.set n (.lst xs.dropLast))
      | none => .bad)
    | _ => .bad)
  | .ref n, [.int i], h => (match h[n]? with
    | some (.lst xs) => if -(2 ^ 63) ≤ i ∧ i < 2 ^ 63 then (match seqIndex? i xs.length with
      | some k => (match xs[k]? with
        | some y => .ok y (h.set n (.lst (xs.eraseIdx k)))
        | none => .bad)
      | none => .bad) else .bad
    | _ => .bad)
  | _, _, _ => .bad
def mClear : D → List D → HC → Res D
  | .ref n, [], h => (match h[n]? with
    | some (.lst _) => .ok .non (h.set n (.lst []))
    | _ => .bad)
  | _, _, _ => .bad
section
variable {K : PySem.W.Frag}
theorem ms_append : MtS K rAppend mAppend := by
  intro W σ m h H d ds v vs Q S rd r p
  unfold mAppend at p
  split at p
  · split at p
    · rename_i xs hx
      split at p
      · rename_i hl
        obtain ⟨a, us, rfl, ha, hv, hr⟩ := S.lst rd hx
        obtain ⟨y, rfl, ry⟩ := r.one
        obtain ⟨S1, E1⟩ := S.setL ha hv (hr.append (RelDs.cons ry RelDs.nil))
        exact ⟨a, us, y, rfl, rfl, hv, by rw [← hr.len]; exact Nat.lt_of_lt_of_le hl big_le, p _ _ _ E1 S1 (by simp [RelD])⟩
      · exact p.elim
    · exact p.elim
  · exact p.elim
theorem ms_extend : MtS K rExtend mExtend := by
  intro W σ m h H d ds v vs Q S rd r p
  unfold mExtend at p
  split at p
  · split at p
    · rename_i xs ys hx hy
      split at p
      · rename_i hl
        obtain ⟨a, us, rfl, ha, hv, hr⟩ := S.lst rd hx
        obtain ⟨y, rfl, ry⟩ := r.one
        obtain ⟨b, ws, rfl, hb, hw, hrb⟩ := S.lst ry hy
        obtain ⟨S1, E1⟩ := S.setL ha hv (hr.append hrb)
        exact ⟨a, b, us, ws, rfl, rfl, hv, hw, by rw [← hr.len, ← hrb.len]; exact Nat.le_trans hl big_le, p _ _ _ E1 S1 (by simp [RelD])⟩
      · exact p.elim
    · exact p.elim
  · exact p.elim
theorem RelDs.dropLast {m : Mp} {H : Hp} {ds : List D} {vs : List V} (r : RelDs m H ds vs) : RelDs m H ds.dropLast vs.dropLast := by
  rw [List.dropLast_eq_take, List.dropLast_eq_take, ← r.len]
  exact r.take _
def rPopAll : V → List V → Hp → VK → Prop := fun x vs H Q => rPop x vs H Q ∨ rPopAt x vs H Q
theorem mt_popAll {X : Cx} : MtR X "list.pop" rPopAll := MtR.or mt_pop mt_popAt
theorem ms_pop : MtS K rPopAll mPop := by
  intro W σ m h H d ds v vs Q S rd r p
  unfold mPop at p
  split at p
  · split at p
    · rename_i xs hx
      split at p
      · rename_i y hy
        obtain ⟨a, us, rfl, ha, hv, hr⟩ := S.lst rd hx
        simp only [RelDs] at r
        subst r
        obtain ⟨w, hw, rw'⟩ := hr.get hy
        obtain ⟨S1, E1⟩ := S.setL ha hv hr.dropLast
        exact .inl ⟨a, us, w, rfl, rfl, hv, by rw [← hr.len]; exact hw, p _ _ _ E1 S1 (rw'.mono S E1)⟩
      · exact p.elim
    · exact p.elim
  · split at p
    · rename_i xs hx
      split at p
      · rename_i hi
        split at p
        · rename_i k hk
          split at p
          · rename_i y hy
            obtain ⟨a, us, rfl, ha, hv, hr⟩ := S.lst rd hx
            obtain ⟨w, rfl, rw'⟩ := r.one
            simp only [RelD] at rw'
            subst rw'
            obtain ⟨z, hz, rz⟩ := hr.get hy
            obtain ⟨S1, E1⟩ := S.setL ha hv (hr.erase k)
            exact .inr ⟨a, us, _, k, z, rfl, rfl, hv, hi.1, hi.2, by rw [← hr.len]; exact hk, hz, p _ _ _ E1 S1 (rz.mono S E1)⟩
          · exact p.elim
        · exact p.elim
      · exact p.elim
    · exact p.elim
  · exact p.elim
theorem ms_clear : MtS K rClear mClear := by
  intro W σ m h H d ds v vs Q S rd r p
  unfold mClear at p
  split at p
  · split at p
    · rename_i xs hx
      obtain ⟨a, us, rfl, ha, hv, hr⟩ := S.lst rd hx
      simp only [RelDs] at r
      subst r
      obtain ⟨S1, E1⟩ := S.setL (us := []) ha hv RelDs.nil
      exact ⟨a, us, rfl, rfl, hv, p _ _ _ E1 S1 (by simp [RelD])⟩
    · exact p.elim
  · exact p.elim
/-- texts of a list -/
def strsD (xs : List D) : Option (List Str) := optAll (xs.map fun d => match d with
  | .str i => some i
  | _ => none)
theorem strsD_ok {m : Mp} {H : Hp} : ∀ {xs : List D} {vs : List V} {ns : List Str}, RelDs m H xs vs → strsD xs = some ns → vs = ns.map V.str
  | [], vs, ns, r, e => by
    simp only [RelDs] at r
    simp [strsD, optAll] at e
    subst e r
    rfl
  | d :: ds, vs, ns, r, e => by
    simp only [RelDs] at r
    obtain ⟨v, ws, rfl, h1, h2⟩ := r
    unfold strsD at e
    rw [List.map_cons] at e
    cases d with
    | str i =>
      simp only [RelD] at h1
      subst h1
      cases q2 : optAll (ds.map fun d => match d with | .str i => some i | _ => none) with
      | none => simp [optAll, q2] at e
      | some us =>
        simp [optAll, q2] at e
        subst e
        rw [List.map_cons, strsD_ok h2 q2]
    | _ => simp [optAll] at e
def joinOk (a : Str) (ys : List Str) : Bool := decide ((ys.map (·.length)).sum + ys.length * a.length ≤ BIG)
def mJoin : D → List D → HC → Res D
  | .str a, [.ref n], h => (match asSeq h n with
    | some xs => (match strsD xs with
      | some ys => if joinOk a ys = true then .ok (.str (Txt.join a ys)) h else .bad
      | none => .bad)
    | none => .bad)
  | .str a, [.tup xs], h => (match strsD xs with
      | some ys => if joinOk a ys = true then .ok (.str (Txt.join a ys)) h else .bad
      | none => .bad)
  | _, _, _ => .bad
theorem big24 : BIG ≤ 16777216 := by decide
theorem ms_join : MtS K (fun x xs H Q => ∃ a p, ∃ ys : List Str, x = .str a ∧ xs = [.ref p] ∧ (SqL K H p (ys.map V.str) ∨ SqT K H p (ys.map V.str)) ∧
    (ys.map (·.length)).sum + ys.length * a.length ≤ 16777216 ∧ Q (.str (Txt.join a ys)) H) mJoin := by
  intro W σ m h H d ds v vs Q S rd r p
  unfold mJoin at p
  split at p
  · split at p
    · rename_i xs hx
      split at p
      · rename_i ys hy
        split at p
        · rename_i hj
          obtain ⟨w, rfl, rw'⟩ := r.one
          obtain ⟨a, us, rfl, _, hs, hr⟩ := S.seq rw' hx
          simp only [RelD] at rd
          have e := strsD_ok hr hy
          subst e
          exact ⟨_, a, ys, rd, rfl, .inl hs, Nat.le_trans (of_decide_eq_true hj) big24, p _ _ _ Ext.refl S (by simp [RelD])⟩
        · exact p.elim
      · exact p.elim
    · exact p.elim
  · split at p
    · rename_i ys hy
      split at p
      · rename_i hj
        obtain ⟨w, rfl, rw'⟩ := r.one
        simp only [RelD] at rw' rd
        obtain ⟨a, us, rfl, ha, hr⟩ := rw'
        have e := strsD_ok hr hy
        subst e
        exact ⟨_, a, ys, rd, rfl, .inr (SqT.of ha), Nat.le_trans (of_decide_eq_true hj) big24, p _ _ _ Ext.refl S (by simp [RelD])⟩
      · exact p.elim
    · exact p.elim
  · exact p.elim
end

/-! ### dicts -/
def toKey : D → Option Key
  | .int i => some (.inl i)
  | .str s => some (.inr s)
  | _ => none
def valD {κ : Type} [DecidableEq κ] (kvs : List (κ × D)) (k : κ) : Option D := (kvs.find? fun kv => decide (kv.1 = k)).map (·.2)
def putD {κ : Type} [DecidableEq κ] (kvs : List (κ × D)) (k : κ) (v : D) : List (κ × D) :=
  if (kvs.any fun kv => decide (kv.1 = k)) = true then kvs.map fun kv => if kv.1 = k then (kv.1, v) else kv else kvs ++ [(k, v)]
def mergeD (kvs : List (Key × D)) : List (Key × D) := kvs.foldl (fun acc kv => putD acc kv.1 kv.2) []
section
variable {m : Mp} {H : Hp} {κ : Type} [DecidableEq κ]
theorem toKey_ok {d : D} {v : V} {k : Key} (e : toKey d = some k) (r : RelD m H d v) : v = kV k := by
  cases d <;> simp [toKey] at e <;> subst e <;> simp only [RelD] at r <;> exact r
theorem RelK.val : ∀ {kvs : List (κ × D)} {vs : List (κ × V)} {k : κ} {d : D}, RelK m H kvs vs → valD kvs k = some d → ∃ v, valV vs k = some v ∧ RelD m H d v
  | [], vs, k, d, r, e => by simp [valD] at e
  | q :: kvs, vs, k, d, r, e => by
    simp only [RelK] at r
    obtain ⟨v, ws, rfl, hk, h1, h2⟩ := r
    by_cases hc : q.1 = k
    · simp [valD, List.find?_cons, hc] at e
      subst e
      exact ⟨v.2, by rw [valV_pos (by rw [← hk]; exact hc)], h1⟩
    · have e2 : valD kvs k = some d := by simpa [valD, List.find?_cons, hc] using e
      obtain ⟨w, hw, hr⟩ := RelK.val h2 e2
      exact ⟨w, by rw [valV_neg (by rw [← hk]; exact hc)]; exact hw, hr⟩
theorem RelK.valN : ∀ {kvs : List (κ × D)} {vs : List (κ × V)} {k : κ}, RelK m H kvs vs → valD kvs k = none → valV vs k = none
  | [], vs, k, r, e => by simp only [RelK] at r; subst r; rfl
  | q :: kvs, vs, k, r, e => by
    simp only [RelK] at r
    obtain ⟨v, ws, rfl, hk, h1, h2⟩ := r
    by_cases hc : q.1 = k
    · simp [valD, List.find?_cons, hc] at e
    · have e2 : valD kvs k = none := by simpa [valD, List.find?_cons, hc] using e
      rw [valV_neg (by rw [← hk]; exact hc)]
      exact RelK.valN h2 e2
theorem RelK.any : ∀ {kvs : List (κ × D)} {vs : List (κ × V)} (k : κ), RelK m H kvs vs → (kvs.any fun kv => decide (kv.1 = k)) = vs.any fun kv => decide (kv.1 = k)
  | [], vs, k, r => by simp only [RelK] at r; subst r; rfl
  | q :: kvs, vs, k, r => by
    simp only [RelK] at r
    obtain ⟨v, ws, rfl, hk, h1, h2⟩ := r
    rw [List.any_cons, List.any_cons, hk, RelK.any k h2]
theorem RelK.repl {d : D} {v : V} (rd : RelD m H d v) : ∀ {kvs : List (κ × D)} {vs : List (κ × V)} (k : κ), RelK m H kvs vs → RelK m H (kvs.map fun kv => if kv.1 = k then (kv.1, d) else kv) (vs.map fun kv => if kv.1 = k then (kv.1, v) else kv)
  | [], vs, k, r => by simp only [RelK] at r; subst r; simp [RelK]
  | q :: kvs, vs, k, r => by
    simp only [RelK] at r
    obtain ⟨w, ws, rfl, hk, h1, h2⟩ := r
    rw [List.map_cons, List.map_cons]
    simp only [RelK]
    refine ⟨_, _, rfl, ?_, ?_, RelK.repl rd k h2⟩
    · by_cases hc : q.1 = k
      · rw [if_pos hc, if_pos (by rw [← hk]; exact hc)]
        exact hk
      · rw [if_neg hc, if_neg (by rw [← hk]; exact hc)]
        exact hk
    · by_cases hc : q.1 = k
      · rw [if_pos hc, if_pos (by rw [← hk]; exact hc)]
        exact rd
      · rw [if_neg hc, if_neg (by rw [← hk]; exact hc)]
        exact h1
theorem RelK.snoc {d : D} {v : V} (rd : RelD m H d v) : ∀ {kvs : List (κ × D)} {vs : List (κ × V)} (k : κ), RelK m H kvs vs → RelK m H (kvs ++ [(k, d)]) (vs ++ [(k, v)])
  | [], vs, k, r => by
    simp only [RelK] at r
    subst r
    simp only [List.nil_append, RelK]
    exact ⟨_, _, rfl, rfl, rd, rfl⟩
  | q :: kvs, vs, k, r => by
    simp only [RelK] at r
    obtain ⟨w, ws, rfl, hk, h1, h2⟩ := r
    simp only [List.cons_append, RelK]
    exact ⟨_, _, rfl, hk, h1, RelK.snoc rd k h2⟩
theorem RelK.put {d : D} {v : V} (rd : RelD m H d v) {kvs : List (κ × D)} {vs : List (κ × V)} (k : κ) (r : RelK m H kvs vs) : RelK m H (putD kvs k d) (putK vs k v) := by
  unfold putD putK
  rw [r.any k]
  split
  · exact r.repl rd k
  · exact r.snoc rd k
theorem RelK.len : ∀ {kvs : List (κ × D)} {vs : List (κ × V)}, RelK m H kvs vs → kvs.length = vs.length
  | [], vs, r => by simp only [RelK] at r; subst r; rfl
  | q :: kvs, vs, r => by
    simp only [RelK] at r
    obtain ⟨w, ws, rfl, hk, h1, h2⟩ := r
    simp [RelK.len h2]
end
def optKeys (xs : List D) : Option (List Key) := optAll (xs.map toKey)
theorem optKeys_ok {m : Mp} {H : Hp} : ∀ {xs : List D} {vs : List V} {ks : List Key}, RelDs m H xs vs → optKeys xs = some ks → vs = ks.map kV
  | [], vs, ns, r, e => by
    simp only [RelDs] at r
    simp [optKeys, optAll] at e
    subst e r
    rfl
  | d :: ds, vs, ns, r, e => by
    simp only [RelDs] at r
    obtain ⟨v, ws, rfl, h1, h2⟩ := r
    unfold optKeys at e
    rw [List.map_cons] at e
    cases q : toKey d with
    | none => simp [optAll, q] at e
    | some k =>
      cases q2 : optAll (ds.map toKey) with
      | none => simp [optAll, q, q2] at e
      | some us =>
        simp [optAll, q, q2] at e
        subst e
        rw [List.map_cons, optKeys_ok h2 q2, toKey_ok q h1]
/-- what a dict holds under a key -/
def dGet (h : HC) (x y : D) : Option (Option D) := match x with
  | .ref n => (match h[n]? with
    | some (.dk kvs) => (toKey y).map fun k => valD kvs k
    | some (.dt kvs) => (match y with
      | .tup ks => (optKeys ks).map fun k => valD kvs k
      | _ => none)
    | _ => none)
  | _ => none
theorem dGet_ok {K : PySem.W.Frag} {m : Mp} {h : HC} {H : Hp} {x y : D} {vx vy : V} {o : Option D} (S : Sm K m h H) (rx : RelD m H x vx) (ry : RelD m H y vy) (e : dGet h x y = some o) :
    ∃ a, vx = .ref a ∧ match o with
      | some d => ∃ v, DGet H a vy (some v) ∧ RelD m H d v
      | none => DGet H a vy none := by
  cases x with
  | ref n =>
    simp only [RelD] at rx
    obtain ⟨a, ha, rfl⟩ := rx
    refine ⟨a, rfl, ?_⟩
    simp only [dGet] at e
    split at e
    · rename_i kvs hk
      obtain ⟨vs, hv, hr⟩ := S.cell n _ a hk ha
      cases q : toKey y with
      | none => rw [q] at e; cases e
      | some k =>
        rw [q] at e
        simp at e
        have ey := toKey_ok q ry
        subst ey
        cases o with
        | some d =>
          obtain ⟨v, h1, h2⟩ := hr.val e
          exact ⟨v, by rw [← h1]; exact DGet.k hv, h2⟩
        | none =>
          have h1 := hr.valN e
          show DGet H a (kV k) none
          rw [← h1]
          exact DGet.k hv
    · rename_i kvs hk
      obtain ⟨vs, hv, hr⟩ := S.cell n _ a hk ha
      cases y with
      | tup ks =>
        simp only [RelD] at ry
        obtain ⟨b, us, rfl, hb, hrb⟩ := ry
        dsimp only at e
        cases q : optKeys ks with
        | none => rw [q] at e; cases e
        | some k =>
          rw [q] at e
          simp at e
          have eu := optKeys_ok hrb q
          subst eu
          cases o with
          | some d =>
            obtain ⟨v, h1, h2⟩ := hr.val e
            exact ⟨v, by rw [← h1]; exact DGet.t hv hb, h2⟩
          | none =>
            have h1 := hr.valN e
            show DGet H a (.ref b) none
            rw [← h1]
            exact DGet.t hv hb
      | _ => cases e
    · cases e
  | _ => simp [dGet] at e
def opDGet (x y : D) (h : HC) : Res D := match dGet h x y with
  | some (some d) => .ok d h
  | _ => .bad
def rDG : R2 := fun x y H Q => ∃ a v, x = .ref a ∧ DGet H a y (some v) ∧ Q v H
theorem os_dget {K : PySem.W.Frag} : OpS K rDG opDGet := by
  intro W σ m h H d1 d2 v1 v2 Q S r1 r2 p
  unfold opDGet at p
  split at p
  · rename_i d e
    obtain ⟨a, rfl, v, g, hr⟩ := dGet_ok S r1 r2 e
    exact ⟨a, v, rfl, g, p _ _ _ Ext.refl S hr⟩
  · exact p.elim
section
variable {X : Cx} {W : WX} {a b : Expr} {fa fb : EE} {pos : Pos}
theorem se_dget (hu : X.A.units + 1 < cLine) (ha : PE X a (rE X.K W fa)) (hb : PE X b (rE X.K W fb)) (hs : NoSl b := by intro _ _; rfl) : PE X (.Subscript a b pos) (rE X.K W (fOp opDGet fa fb)) :=
  PEw (pe_dget hu ha hb hs) (tOp_of (r := rDG) os_dget)
end
/-- displays -/
def RelPs (m : Mp) (H : Hp) : List (D × D) → List (V × V) → Prop
  | [], vs => vs = []
  | d :: ds, vs => ∃ v vs', vs = v :: vs' ∧ RelD m H d.1 v.1 ∧ RelD m H d.2 v.2 ∧ RelPs m H ds vs'
def fPairs : List (EE × EE) → SD → HC → Res (List (D × D))
  | [], _, h => .ok [] h
  | (k, v) :: r, s, h => (k s h).bind fun x h1 => (v s h1).bind fun y h2 => (fPairs r s h2).bind fun ps h3 => .ok ((x, y) :: ps) h3
def keysP (ps : List (D × D)) : Option (List (Key × D)) := optAll (ps.map fun p => (toKey p.1).map fun k => (k, p.2))
def fDisp (ps : List (EE × EE)) : EE := fun s h => (fPairs ps s h).bind fun qs h1 => match keysP qs with
  | some kvs => if kvs.length ≤ 15 then .ok (.ref h1.length) (h1 ++ [.dk (mergeD kvs)]) else .bad
  | none => .bad
def fDisp0 : EE := fun _ h => .ok (.ref h.length) (h ++ [.dk []])
def fDisp0T : EE := fun _ h => .ok (.ref h.length) (h ++ [.dt []])
section
variable {K : PySem.W.Frag} {W : WX}
theorem RelPs.mono {m m' : Mp} {h : HC} {H H' : Hp} (S : Sm K m h H) (E : Ext m m' H H') : ∀ {ds : List (D × D)} {vs : List (V × V)}, RelPs m H ds vs → RelPs m' H' ds vs
  | [], vs, r => r
  | d :: ds, vs, r => by
    simp only [RelPs] at r ⊢
    obtain ⟨v, ws, rfl, h1, h2, h3⟩ := r
    exact ⟨v, ws, rfl, h1.mono S E, h2.mono S E, RelPs.mono S E h3⟩
theorem tPairs_of : ∀ (l : List (EE × EE)) (σ : L2.St) (H : Hp) (Q : List (V × V) → Hp → Prop), rd RelPs K W (fPairs l) σ H Q → tPairs (l.map fun q => (rE K W q.1, rE K W q.2)) σ H Q
  | [], σ, H, Q, q => by
    obtain ⟨m, s, h, S, r, p⟩ := q
    exact p m H [] Ext.refl S rfl
  | (k, v) :: l, σ, H, Q, q => by
    refine rd_mono (rd_bind (R := RelD) (f := k) (g := fun x s h1 => (v s h1).bind fun y h2 => (fPairs l s h2).bind fun ps h3 => .ok ((x, y) :: ps) h3) q) fun x H1 ⟨m1, s, h1, d1, S1, r1, q1, p1⟩ => ?_
    refine ⟨m1, s, h1, S1, r1, ?_⟩
    show post RelD K W σ m1 H1 _ (v s h1)
    cases e : v s h1 with
    | ok d2 h2 =>
      rw [e] at p1
      intro m2 H2 y E2 S2 q2
      have p2 := post_ext p1 E2
      refine tPairs_of l σ H2 _ ⟨m2, s, h2, S2, r1.mono S1 E2, ?_⟩
      dsimp only [Res.bind] at p2
      cases e3 : fPairs l s h2 with
      | ok ps h3 =>
        rw [e3] at p2
        intro m3 H3 vs E3 S3 q3
        refine p2 m3 H3 _ E3 S3 ?_
        simp only [RelPs]
        exact ⟨_, _, rfl, (q1.mono S1 E2).mono S2 E3, q2.mono S2 E3, q3⟩
      | exc c h3 => rw [e3] at p2; exact p2
      | bad => rw [e3] at p2; exact p2
    | exc c h2 => rw [e] at p1; exact p1
    | bad => rw [e] at p1; exact p1
theorem keysP_ok {m : Mp} {H : Hp} : ∀ {ps : List (D × D)} {vs : List (V × V)} {kvs : List (Key × D)}, RelPs m H ps vs → keysP ps = some kvs → ∃ ws : List (Key × V), vs = ws.map (fun kv => (kV kv.1, kv.2)) ∧ RelK m H kvs ws
  | [], vs, kvs, r, e => by
    simp only [RelPs] at r
    simp [keysP, optAll] at e
    subst e r
    exact ⟨[], rfl, rfl⟩
  | p :: ps, vs, kvs, r, e => by
    simp only [RelPs] at r
    obtain ⟨v, ws, rfl, h1, h2, h3⟩ := r
    unfold keysP at e
    rw [List.map_cons] at e
    cases q : toKey p.1 with
    | none => simp [optAll, q] at e
    | some k =>
      cases q2 : optAll (ps.map fun p => (toKey p.1).map fun k => (k, p.2)) with
      | none => simp [optAll, q, q2] at e
      | some us =>
        simp [optAll, q, q2] at e
        subst e
        obtain ⟨zs, e1, e2⟩ := keysP_ok h3 q2
        refine ⟨(k, v.2) :: zs, by rw [List.map_cons, ← e1, ← toKey_ok q h1], ?_⟩
        simp only [RelK]
        exact ⟨_, _, rfl, rfl, h2, e2⟩
theorem RelK.merge {m : Mp} {H : Hp} : ∀ {kvs : List (Key × D)} {vs : List (Key × V)} {as : List (Key × D)} {us : List (Key × V)}, RelK m H kvs vs → RelK m H as us → RelK m H (kvs.foldl (fun acc kv => putD acc kv.1 kv.2) as) (mergeK us vs)
  | [], vs, as, us, r, q => by simp only [RelK] at r; subst r; exact q
  | p :: kvs, vs, as, us, r, q => by
    simp only [RelK] at r
    obtain ⟨w, ws, rfl, hk, h1, h2⟩ := r
    have := RelK.merge h2 (q.put h1 p.1)
    rw [hk] at this
    show RelK m H (kvs.foldl (fun acc kv => putD acc kv.1 kv.2) (putD as p.1 p.2)) _
    rw [hk]
    exact this
/-- a thing that is laid ahead, then filled, then is a cell -/
theorem fill_ok {m1 m2 : Mp} {h2 : HC} {H1 H2 : Hp} {p : Addr} {o o2 : HO} {c : Cell} (hp : H1 p = none) (hm : p ∉ m1.ad) (hn : ∀ us, o ≠ .tup us) (hn2 : ∀ o' u, o ≠ .frz o' u) (E : Ext m1 m2 (upd H1 p o) H2) (S2 : Sm K m2 h2 H2)
    (hc : (∀ q us, H2 q = some (.tup us) → upd H2 p o2 q = some (.tup us)) → CellAtD K m2 (upd H2 p o2) p c) :
    H2 p = some o ∧ Sm K (m2.snoc p) (h2 ++ [c]) (upd H2 p o2) ∧ Ext m1 (m2.snoc p) H1 (upd H2 p o2) := by
  obtain ⟨hm2, hp2⟩ := E.fr p o hm upd_same
  have ht : ∀ q us, H2 q = some (.tup us) → upd H2 p o2 q = some (.tup us) := fun q us e => by
    rw [upd_ne (fun z => by rw [z, hp2] at e; exact hn us (Option.some.inj e))]
    exact e
  have S3 : Sm K m2 h2 (upd H2 p o2) := ⟨S2.len, S2.nd, S2.scr.upd (fun o' u z => by rw [hp2] at z; exact hn2 o' u (Option.some.inj z)), fun i c' a h1 h3 => (S2.cell i c' a h1 h3).mono_ (fun _ _ z => z) ⟨rfl, rfl⟩ ht (upd_ne (fun z => hm2 (z ▸ List.mem_of_getElem? h3)))⟩
  refine ⟨hp2, S3.adopt hm2 (hc ht) (fun _ _ => trivial), ⟨fun n a z => ?_, E.sc, fun z o' hz ez => ?_⟩⟩
  · have := E.le n a z
    show (m2.ad ++ [p])[n]? = some a
    rw [List.getElem?_append_left (List.getElem?_eq_some_iff.mp this).1]
    exact this
  · have hzp : z ≠ p := ne_of_none ez hp
    have := E.fr z o' hz (by rw [upd_ne hzp]; exact ez)
    exact ⟨by simp [this.1, hzp, Mp.snoc], by rw [upd_ne hzp]; exact this.2⟩
end
section
variable {X : Cx} {W : WX} {pos : Pos} {keys : List (Option Expr)} {values : List Expr} {ps : List (EE × EE)}
theorem se_disp (h : PPs X pos keys values (ps.map fun q => (rE X.K W q.1, rE X.K W q.2))) (hall : keys.all (·.isSome) = true := by rfl) (hl : keys.length = values.length := by rfl) (h0 : keys ≠ [] := by exact List.cons_ne_nil _ _)
    (h15 : keys.length ≤ 15 := by decide) : PE X (.Dict keys values pos) (rE X.K W (fDisp ps)) := PEw (pe_disp h hall hl h0 h15) fun σ H Q q => by
  obtain ⟨m, s, hc, S, r, p⟩ := q
  intro P hP
  obtain ⟨S1, E1⟩ := S.newT (o := .dK []) hP
  refine tPairs_of ps σ _ _ ⟨m, s, hc, S1, r.mono S E1, ?_⟩
  unfold fDisp at p
  cases e : fPairs ps s hc with
  | ok qs h1 =>
    rw [e] at p
    intro m2 H2 us E2 S2 r2
    dsimp only [Res.bind] at p
    split at p
    · rename_i kvs hk
      split at p
      · rename_i hl
        obtain ⟨ws, e1, e2⟩ := keysP_ok r2 hk
        obtain ⟨f1, f2, f3⟩ := fill_ok (o2 := .dK (mergeK [] ws)) (c := .dk (mergeD kvs)) hP (S.freshOut hP) (fun us z => by cases z) (fun _ _ z => by cases z) E2 S2 fun ht => ⟨_, upd_same, RelK.mono_ (fun _ _ z => z) ⟨rfl, rfl⟩ ht _ _ (RelK.merge e2 rfl)⟩
        refine ⟨f1, ws, e1, by rw [← e2.len]; exact hl, p _ _ _ f3 f2 ?_⟩
        simp only [RelD]
        exact ⟨P, by rw [S2.len]; exact Mp.last, rfl⟩
      · exact p.elim
    · exact p.elim
  | exc c h1 => rw [e] at p; exact fun m2 H2 E2 S2 => p m2 H2 (E1.trans E2) S2
  | bad => rw [e] at p; exact p
theorem se_disp0 : PE X (.Dict [] [] pos) (rE X.K W fDisp0) := PEw pe_dnewK fun σ H Q q => by
  obtain ⟨m, s, hc, S, r, p⟩ := q
  intro P hP
  obtain ⟨S1, E1⟩ := S.newC (o := .dK []) (c := .dk []) hP ⟨_, upd_same, rfl⟩
  refine p _ _ _ E1 S1 ?_
  simp only [RelD]
  exact ⟨P, by rw [S.len]; exact Mp.last, rfl⟩
theorem se_disp0T : PE X (.Dict [] [] pos) (rE X.K W fDisp0T) := PEw pe_dnewT fun σ H Q q => by
  obtain ⟨m, s, hc, S, r, p⟩ := q
  intro P hP
  obtain ⟨S1, E1⟩ := S.newC (o := .dT []) (c := .dt []) hP ⟨_, upd_same, rfl⟩
  refine p _ _ _ E1 S1 ?_
  simp only [RelD]
  exact ⟨P, by rw [S.len]; exact Mp.last, rfl⟩
end
end G9

set_option Elab.async false
set_option linter.all false
set_option maxRecDepth 100000
set_option maxHeartbeats 2000000
/-! sets of texts, made of a tuple: how many unlike ones there are -/
namespace G9
open PySem PySem.Spec PyProof.Rows L2
def dnF (l : List Str) : List Str × Nat := l.foldl (fun p x => (p.1 ++ [x], if p.1.any (· == x) = true then p.2 else p.2 + 1)) ([], 0)
/-- how many unlike texts -/
def dn (l : List Str) : Nat := (dnF l).2
theorem dnF_snoc (l : List Str) (x : Str) : dnF (l ++ [x]) = ((dnF l).1 ++ [x], if (dnF l).1.any (· == x) = true then (dnF l).2 else (dnF l).2 + 1) := by
  unfold dnF
  rw [List.foldl_append]
  rfl
theorem dnF_fst (l : List Str) : (dnF l).1 = l := by
  have key : ∀ (r : List Str) (p : List Str × Nat), (r.foldl (fun p x => (p.1 ++ [x], if p.1.any (· == x) = true then p.2 else p.2 + 1)) p).1 = p.1 ++ r := by
    intro r
    induction r with
    | nil => intro p; simp
    | cons x r ih => intro p; rw [List.foldl_cons, ih]; simp
  simpa [dnF] using key l ([], 0)
theorem dn_snoc (l : List Str) (x : Str) : dn (l ++ [x]) = if l.any (· == x) = true then dn l else dn l + 1 := by
  unfold dn
  rw [dnF_snoc, dnF_fst]
theorem dn_le : ∀ n (l : List Str), l.length = n → dn l ≤ n
  | 0, l, h => by
    have : l = [] := List.length_eq_zero_iff.mp h
    subst this
    exact Nat.le_refl _
  | n + 1, l, h => by
    rcases List.eq_nil_or_concat l with rfl | ⟨r, x, hrx⟩
    · simp at h
    · rw [List.concat_eq_append] at hrx
      subst hrx
      have hr : r.length = n := by simpa using h
      have := dn_le n r hr
      rw [dn_snoc]
      split <;> omega
theorem take_snoc {l : List Str} {i : Nat} (h : i < l.length) : l.take (i + 1) = l.take i ++ [l.getD i Str.empty] := by
  rw [List.take_succ, List.getElem?_eq_getElem h]
  simp [List.getD, h]
section
variable {prog : Program} {w : World} {A : Around} {R : Result → Shared → Prop} {it : Addr} {fp wr : List Addr} {G : Array GenState → Array GenState → Prop} {n : Nat} {P : Nat → Value → Prop} {Tn : Nat → Shared → Prop}
theorem setLoop (Wk : WalksS prog w A.in1 it fp wr G n P Tn) (z : Addr) (hz : z ∉ fp) (xs : List Str) (hsz : xs.length = n) (hn1 : n ≤ 1000)
    (hval : ∀ i v, P i v → ∃ t, v = .str (xs.getD i Str.empty) t) :
    ∀ (k i : Nat) (s : Shared), n - i = k → i ≤ n → Tn i s → s.heap.SetOf (PySem.strKind prog w) z (fun y => (xs.take i).any (· == y)) (dn (xs.take i)) →
      (∀ s', Moved (z :: wr) G s s' → s'.heap.SetOf (PySem.strKind prog w) z (fun y => (xs.take n).any (· == y)) (dn (xs.take n)) → R (.ok (.ret .none)) s') →
      codeAny (model prog w) A (.builtin "set.update.loop" ⟨[.ref z, .ref it], []⟩) R s := by
  have hzw : z ∉ wr := fun q => hz (Wk.sub _ q)
  have up : ∀ b ∈ wr, b ∈ z :: wr := fun b q => List.mem_cons_of_mem _ q
  intro k
  induction k with
  | zero =>
    intro i s hk hi ht hS hR
    obtain rfl : i = n := by omega
    refine codeAny_builtin PyProof.Rows.F.entry_set_update_loop ?_
    rw [Around.under_plainId PyProof.Rows.F.plain_set_update_loop _]
    refine wpAny_bind (m := pyNext (.ref it)) (Wk.done s _ _ ht fun s1 mv => ?_)
    obtain ⟨o, es, ep, tb, ho, rest⟩ := hS
    exact wpAny_pure (hR s1 (mv.mono up) ⟨o, es, ep, tb, mv.heap z _ hzw ho, rest⟩)
  | succ k ih =>
    intro i s hk hi ht hS hR
    have hlt : i < n := by omega
    refine codeAny_builtin PyProof.Rows.F.entry_set_update_loop ?_
    rw [Around.under_plainId PyProof.Rows.F.plain_set_update_loop _]
    refine wpAny_bind (m := pyNext (.ref it)) (Wk.item i s _ _ hlt ht fun v s1 hP ht1 mv => ?_)
    obtain ⟨t, rfl⟩ := hval i v hP
    generalize hx : xs.getD i Str.empty = x at *
    have hS1 : s1.heap.SetOf (PySem.strKind prog w) z (fun y => (xs.take i).any (· == y)) (dn (xs.take i)) := by
      obtain ⟨o, es, ep, tb, ho, rest⟩ := hS
      exact ⟨o, es, ep, tb, mv.heap z _ hzw ho, rest⟩
    refine wpAny_bind (m := holding [Value.str x t] (setAdd z (.str x t))) (wpAny_holding ?_)
    unfold setAdd
    refine wpAny_holding (wpAny_bind ((PySem.strKind prog w).pyHash (k := x) (strKind_is _ _ _ _) ?_))
    have hd : dn (xs.take i) ≤ i := dn_le i _ (by rw [List.length_take]; omega)
    refine wpAny_setAddHashed_of (knd := PySem.strKind prog w) (s := { s1 with toks := s1.toks + 1 }) (strKind_is _ _ _ _) rfl hS1 (by unfold scanBound; omega) fun h' sb hS2 => ?_
    have et : xs.take (i + 1) = xs.take i ++ [x] := by rw [take_snoc (by omega), hx]
    have hS3 : h'.SetOf (PySem.strKind prog w) z (fun y => (xs.take (i + 1)).any (· == y)) (dn (xs.take (i + 1))) := by
      refine SetOf_congr hS2 (fun y => ?_) ?_
      · rw [et, List.any_append, List.any_cons, List.any_nil, Bool.or_false]
        congr 1
        by_cases e : y = x
        · subst e; simp
        · have q : (x == y) = false := beq_eq_false_iff_ne.mpr fun e' => e e'.symm
          rw [q]
          exact decide_eq_false e
      · rw [et, dn_snoc]
    refine wpAny_pure ⟨plainId_quiet PyProof.Rows.F.plain_set_update_loop _, ih (i + 1) _ (by omega) hlt (Wk.frame _ s1 _ _ ht1 (Nat.le_succ _) fun b hb o e => ?_) hS3 fun s2 mv2 hS4 => ?_⟩
    · have hbz : b ≠ z := fun q => hz (q ▸ hb)
      exact (sb.2 b hbz).trans e
    · refine hR s2 (Moved.trans Wk.gtrans ((mv.mono up).then_heap (Nat.le_succ _) fun b o hb e => ?_) mv2) hS4
      have hbz : b ≠ z := fun q => hb (by rw [q]; exact List.mem_cons_self)
      exact (sb.2 b hbz).trans e
end
/-- a set that was just made -/
abbrev fso (led : Bool) : Obj := { cls := .type "set", dict := none, data := .set #[] 0 (.fresh 0 0 led) }
section
variable {prog : Program} {w : World} {A : Around} {E : Value → Shared → Prop} {s : Shared}
set_option maxHeartbeats 3200000 in
theorem setTup {l : Addr} {items : Array Value} {xs : List Str} {Q : Value → Shared → Prop} (hh : A.handled = none) (hl : s.heap.IsTuple l items) (hi : PyProof.Rows.StrsAre items.toList xs) (hn1 : xs.length ≤ 1000)
    (h : ∀ (h' : Heap) (tk : Nat), h'.SetOf (PySem.strKind prog w) s.heap.objs.size (fun y => xs.any (· == y)) (dn xs) → (∀ b o, b < s.heap.objs.size → s.heap.get? b = some o → h'.get? b = some o) → Q (.ref s.heap.objs.size) { s with heap := h', toks := tk }) :
    wpAny (model prog w) A (call (.type "set") [.ref l]) Q E s := by
  obtain ⟨c, tl, hmro⟩ := PySem.F.called_set.mro
  have hmade := PySem.F.called_set.made
  have hsub := PySem.F.called_set.sub
  have hsz : xs.length = items.size := by rw [← StrsAre.len_eq hi, Array.length_toList]
  have hfull : xs.take items.size = xs := by rw [← hsz, List.take_length]
  refine wpAny_call (codeAny_of_tree ?_)
  show wpAny _ _ (callAny (.type "set") _) _ _ _
  refine wpAny_pure ⟨Code.quiet_builtin _ (by decide +kernel), codeAny_builtin PySem.F.entry_type_call ?_⟩
  rw [Around.under_plain (weight_type_call_type "set" [.ref l] []) rfl]
  have nt := PySem.F.called_set.notType
  have cc := PySem.F.called_set.canCreate
  have tc := PySem.F.typeCall_set_1 (.ref l)
  repeat (any_goals (first | assumption | wp_step))
  refine codeAny_mono (code_set_new_1 (.ref l) (E := E) (Q₁ := fun obj s1 => ∃ led : Bool, obj = .ref s.heap.objs.size ∧ s1 = { s with heap := s.heap.push (fso led) }) fun led => ⟨led, rfl, rfl⟩) fun r s1 hr => ?_
  cases r with
  | error e => exact hr
  | ok fl =>
    cases fl with
    | ret obj =>
      obtain ⟨led, rfl, rfl⟩ := hr
      have hS : (s.heap.push (fso led)).get? s.heap.objs.size = some (fso led) := Heap.get?_push_size _ rfl
      have hT : Shared.TypeIs { s with heap := s.heap.push (fso led) } (.ref s.heap.objs.size) "set" := ⟨_, hS, rfl⟩
      have il := PySem.F.called_set.init.lookup
      have ib := PySem.F.called_set.init.bind (.ref s.heap.objs.size)
      repeat (any_goals (first | assumption | wp_step))
      refine codeAny_mono (codeAny_call_builtin (R := wants (fun r s2 => r = .none ∧ ∃ h' tk, s2 = { s with heap := h', toks := tk } ∧ h'.SetOf (PySem.strKind prog w) s.heap.objs.size (fun y => xs.any (· == y)) (dn xs) ∧
          ∀ b o, b < s.heap.objs.size → s.heap.get? b = some o → h'.get? b = some o) E) PySem.F.called_set.init.plain PySem.F.entry_set_init (check_set_init_1 hT ?_)) fun r2 s2 hr2 => ?_
      · obtain ⟨⟨oc, od, dt, osl⟩, hol, hcl, nl, hdl⟩ := hl
        replace hcl : oc = .type "tuple" := hcl
        replace hdl : dt = .seq items nl := hdl
        subst hcl hdl
        have hol1 : (s.heap.push (fso led)).get? l = some { cls := .type "tuple", dict := od, data := .seq items nl, slots := osl } := Heap.get?_push_of_some _ hol
        have s1 := PySem.F.sub_tuple_set
        have s2 := PySem.F.sub_tuple_frozenset
        have s3 : (Value.type "tuple" == Value.type "dict") = false := by decide
        have hl1 : (s.heap.push (fso led)).IsTuple l items := ⟨_, hol1, rfl, nl, rfl⟩
        unfold Builtin.«set.__init__» noKeywords Builtin.Frozenset.updateFrom
        generalize hPI : pyIter = PI
        wp_walk
        subst hPI
        refine wpAny_pyIter_tuple hl1 (wpAny_bind (wpAny_runValue ?_))
        have hlS : l < s.heap.objs.size := Heap.lt_size hol
        have hh3 : A.in1.in1.in1.handled = none := by simp [hh]
        have hsp : (s.heap.push (fso led)).objs.size = s.heap.objs.size + 1 := Heap.size_push ..
        have hne : l ≠ (s.heap.push (fso led)).objs.size := by rw [hsp]; exact Nat.ne_of_lt (Nat.lt_succ_of_lt hlS)
        have hout : s.heap.objs.size ∉ [(s.heap.push (fso led)).objs.size, l] := by
          simp only [List.mem_cons, List.not_mem_nil, or_false, not_or]
          rw [hsp]
          exact ⟨Nat.ne_of_lt (Nat.lt_succ_self _), Nat.ne_of_gt hlS⟩
        refine setLoop ((Walks.tuple hh3 _ l hne items).toS) s.heap.objs.size hout xs hsz (by rw [← hsz]; exact hn1) (fun i v hv => SS.strs_at hi i v (by rw [Array.getElem?_toList]; exact hv)) (items.size - 0) 0 _ (by omega) (Nat.zero_le _)
          ⟨⟨_, Heap.get?_push_size _ rfl, rfl, rfl⟩, hl1.push _⟩ ?ka ?kb
        case ka =>
          refine PyProof.Rows.SetOf_congr ((PyProof.Rows.setObjOf_fresh (knd := PySem.strKind prog w) led).setOf (Heap.get?_push_of_some _ hS) (by unfold scanBound; omega)) (fun _ => rfl) rfl
        case kb =>
          intro s3 mv hS3
          rw [hfull] at hS3
          obtain ⟨h3, g3, d3, t3, o3⟩ := s3
          obtain rfl : g3 = s.gens := mv.gens
          obtain rfl : d3 = s.drawn := mv.drawn
          obtain rfl : o3 = s.os := mv.os
          show wpAny _ _ _ _ _ _
          refine wpAny_pure ?_
          show wpAny _ _ (ret Value.none) _ _ _
          refine wpAny_pure ⟨rfl, h3, t3, rfl, hS3, fun b o hb e => ?_⟩
          refine mv.heap b o ?_ (Heap.get?_push_of_some _ (Heap.get?_push_of_some _ e))
          simp only [List.mem_cons, List.not_mem_nil, or_false, not_or]
          rw [hsp]
          exact ⟨Nat.ne_of_lt hb, Nat.ne_of_lt (Nat.lt_succ_of_lt hb)⟩
      · cases r2 with
        | error e => exact hr2
        | ok fl2 =>
          cases fl2 with
          | ret r =>
            obtain ⟨rfl, h', tk, rfl, hS', hk'⟩ := hr2
            repeat (any_goals (first | assumption | wp_step))
            exact h _ _ hS' hk'
          | _ => exact hr2.elim
    | _ => exact hr.elim
end
/-- len(set(t)), t a tuple of texts -/
def tLenSetT (K : PySem.W.Frag) (ta : TE) : TE := fun σ H Q => ta σ H fun x H1 => ∃ l, ∃ xs : List Str, x = .ref l ∧ SqT K H1 l (xs.map V.str) ∧ xs.length ≤ 1000 ∧ Q (.int (dn xs)) H1
section
variable {X : Cx} {W : WX} {a : Expr} {fa : EE} {p p2 q pos : Pos}
theorem pe_lenSetT {ta : TE} (hc : X.calm = true) (hg : Gl X "len") (hm : X.mg "len" = none) (hg2 : Gl X "set") (hm2 : X.mg "set" = none) (ha : PE X a ta)
    (na : starEach [a] X.env = (false, eval a X.env) :: starEach [] X.env := by rfl) : PE X (.Call (.Name "len" p) [.Call (.Name "set" p2) [a] [] q] [] pos) (tLenSetT X.K ta) := by
  refine ⟨fun pins s σ H Q I h => Call_ (ld_blt I hg hm boot_len (PyProof.Rows.callWith_builtin1 (PyProof.Rows.args_cons (Call_ (ld_blt I hg2 hm2 boot_set ?_)) rfl) rfl rfl))⟩
  refine PyProof.Rows.callWith_type1 (PyProof.Rows.args_cons (thn (ha.run pins s σ H _ I h) fun v s1 hh => PyProof.Rows.args_nil ?_) na) na rfl
  obtain ⟨x, H1, I1, r1, l, xs, rfl, hq, h1, q1⟩ := hh
  cases r1
  obtain ⟨its, r, pt, hz⟩ := I1.tuple hq
  refine setTup (I1.ok.hd hc) pt (by simpa using strsAre_of r) h1 fun h' tk hS hk => PyProof.Rows.args_nil ?_
  obtain ⟨o, es, ep, t, ho, hex, hd, _, _, _, hf, hn⟩ := hS
  have J : Inv X pins σ H1 { s1 with heap := h', toks := tk } := I1.kept fun b o e => hk b o (Heap.lt_size e) e
  have hle := dn_le xs.length xs rfl
  exact call_len_set ho hex hd hf (by rw [hn]; omega) ⟨.int (dn xs), H1, J.tok _, ⟨_, by rw [hn]⟩, q1⟩
def fLenSet (a : EE) : EE := fun s h => (a s h).bind fun x h1 => match x with
  | .tup ds => (match strsD ds with
    | some xs => if xs.length ≤ 1000 then .ok (D.int (dn xs)) h1 else .bad
    | none => .bad)
  | _ => .bad
theorem se_lenSet (hc : X.calm = true) (hm : X.mg "len" = none) (hm2 : X.mg "set" = none) (ha : PE X a (rE X.K W fa)) (hg : Gl X "len" := by rfl) (hg2 : Gl X "set" := by rfl)
    (na : starEach [a] X.env = (false, eval a X.env) :: starEach [] X.env := by rfl) : PE X (.Call (.Name "len" p) [.Call (.Name "set" p2) [a] [] q] [] pos) (rE X.K W (fLenSet fa)) :=
  PEw (pe_lenSetT hc hg hm hg2 hm2 ha na) fun σ H Q q => by
    refine rd_mono (rd_bind (R := RelD) (f := fa) (g := fun x s h1 => match x with
      | .tup ds => (match strsD ds with
        | some xs => if xs.length ≤ 1000 then .ok (D.int (dn xs)) h1 else .bad
        | none => .bad)
      | _ => .bad) q) fun x H1 ⟨m1, s, h1, d1, S1, r1, q1, p1⟩ => ?_
    cases d1 with
    | tup ds =>
      dsimp only at p1
      simp only [RelD] at q1
      obtain ⟨t, us, rfl, ht, hr⟩ := q1
      split at p1
      · rename_i xs hx
        split at p1
        · rename_i hl
          have e := strsD_ok hr hx
          subst e
          exact ⟨t, xs, rfl, SqT.of ht, hl, p1 _ _ _ Ext.refl S1 (by simp [RelD])⟩
        · exact p1.elim
      · exact p1.elim
    | _ => exact p1.elim
end
end G9

set_option Elab.async false
set_option linter.all false
set_option maxRecDepth 100000
set_option maxHeartbeats 2000000
namespace G9
open PySem PySem.Spec PyProof.Rows L2
theorem bt_int : bootBuiltins "int" = some (.type "int") := by decide +kernel
theorem bt_bool : bootBuiltins "bool" = some (.type "bool") := by decide +kernel
theorem bt_str : bootBuiltins "str" = some (.type "str") := by decide +kernel
theorem bt_tuple : bootBuiltins "tuple" = some (.type "tuple") := by decide +kernel
theorem bt_list : bootBuiltins "list" = some (.type "list") := by decide +kernel
theorem bt_dict : bootBuiltins "dict" = some (.type "dict") := by decide +kernel
theorem bt_len : bootBuiltins "len" = some (.builtin "len") := by decide +kernel
theorem bt_max : bootBuiltins "max" = some (.builtin "max") := by decide +kernel
theorem bt_min : bootBuiltins "min" = some (.builtin "min") := by decide +kernel
theorem bt_sum : bootBuiltins "sum" = some (.builtin "sum") := by decide +kernel
theorem bt_sorted : bootBuiltins "sorted" = some (.builtin "sorted") := by decide +kernel
section
variable {X : Cx} {W : WX} {a b c : Expr} {fa fb fc : EE} {pos : Pos} {k : Nat}
theorem hu1 (hr : Room k X.A) : X.A.units + 1 < cLine := by have := hr.un; omega
theorem hu64 (hr : Room k X.A) : X.A.units + 64 < cLine := by have := hr.un; omega
theorem hu65 (hr : Room k X.A) : X.A.units + 65 < cLine := by have := hr.un; omega
theorem xadd (ha : PE X a (rE X.K W fa)) (hb : PE X b (rE X.K W fb)) : PE X (.BinOp a .Add b pos) (rE X.K W (fOp opAdd fa fb)) := se_op op_addAll os_add ha hb
theorem xsub (ha : PE X a (rE X.K W fa)) (hb : PE X b (rE X.K W fb)) : PE X (.BinOp a .Sub b pos) (rE X.K W (fOp opSub fa fb)) := se_op op_sub os_sub ha hb
theorem xmul (ha : PE X a (rE X.K W fa)) (hb : PE X b (rE X.K W fb)) : PE X (.BinOp a .Mult b pos) (rE X.K W (fOp opMul fa fb)) := se_op op_mulAll os_mul ha hb
theorem xmod (ha : PE X a (rE X.K W fa)) (hb : PE X b (rE X.K W fb)) : PE X (.BinOp a .Mod b pos) (rE X.K W (fOp opMod fa fb)) := se_op op_mod os_mod ha hb
theorem xdiv (ha : PE X a (rE X.K W fa)) (hb : PE X b (rE X.K W fb)) : PE X (.BinOp a .FloorDiv b pos) (rE X.K W (fOp opDiv fa fb)) := se_op op_fdiv os_div ha hb
theorem xpow (ha : PE X a (rE X.K W fa)) (hb : PE X b (rE X.K W fb)) : PE X (.BinOp a .Pow b pos) (rE X.K W (fOp opPow fa fb)) := se_op op_pow os_pow ha hb
/-- a comparison's two halves, for expressions, tests and chains -/
structure CmpS (X : Cx) (o : CmpOp) (op : D → D → HC → Res D) : Prop where
  ex : ∃ r, OpR X (compareOp o) r ∧ OpS X.K r op
theorem c_eq (hr : Room k X.A) : CmpS X .Eq opEq := ⟨_, op_eqD (hu64 hr), os_eq⟩
theorem c_ne (hr : Room k X.A) : CmpS X .NotEq opNe := ⟨_, op_neD (hu64 hr), os_ne⟩
theorem c_lt : CmpS X .Lt opLt := ⟨_, op_lt, os_I⟩
theorem c_le : CmpS X .LtE opLe := ⟨_, op_le, os_I⟩
theorem c_gt : CmpS X .Gt opGt := ⟨_, op_gt, os_I⟩
theorem c_ge : CmpS X .GtE opGe := ⟨_, op_ge, os_I⟩
theorem c_in (hr : Room k X.A) : CmpS X .In opIn := ⟨_, op_inAll (hu65 hr), os_in⟩
theorem c_notIn (hr : Room k X.A) : CmpS X .NotIn opNotIn := ⟨_, op_notInAll (hu65 hr), os_notIn⟩
theorem c_is : CmpS X .Is opIsN := ⟨_, op_isN1, os_isN⟩
theorem c_isNot : CmpS X .IsNot opNotN := ⟨_, op_notN1, os_notN⟩
variable {o o' : CmpOp} {op op' : D → D → HC → Res D}
theorem xc (C : CmpS X o op) (ha : PE X a (rE X.K W fa)) (hb : PE X b (rE X.K W fb)) (hm : behindInMarks o b = false := by first | exact nomark _ | rfl) : PE X (.Compare a [o] [b] pos) (rE X.K W (fOp op fa fb)) :=
  let ⟨_, ho, hs⟩ := C.ex
  se_cmp ho hs ha hb hm
theorem tc (C : CmpS X o op) (ha : PE X a (rE X.K W fa)) (hb : PE X b (rE X.K W fb)) (hm : behindInMarks o b = false := by first | exact nomark _ | rfl) : PT X (.Compare a [o] [b] pos) (rT X.K W (fBo (fOp op fa fb))) :=
  let ⟨_, ho, hs⟩ := C.ex
  st_cmp ho hs ha hb hm
theorem xc2 (C : CmpS X o op) (C' : CmpS X o' op') (ha : PE X a (rE X.K W fa)) (hb : PE X b (rE X.K W fb)) (hc : PE X c (rE X.K W fc)) (hm : lastMarks [o, o'] [b, c] = false := by with_unfolding_all rfl) : PE X (.Compare a [o, o'] [b, c] pos) (rE X.K W (fChain op op' fa fb fc)) :=
  let ⟨_, ho, hs⟩ := C.ex
  let ⟨_, ho', hs'⟩ := C'.ex
  se_chain ho hs ho' hs' ha hb hc hm
theorem tc2 (C : CmpS X o op) (C' : CmpS X o' op') (ha : PE X a (rE X.K W fa)) (hb : PE X b (rE X.K W fb)) (hc : PE X c (rE X.K W fc)) (hm : lastMarks [o, o'] [b, c] = false := by with_unfolding_all rfl) : PT X (.Compare a [o, o'] [b, c] pos) (rT X.K W (fBo (fChain op op' fa fb fc))) :=
  let ⟨_, ho, hs⟩ := C.ex
  let ⟨_, ho', hs'⟩ := C'.ex
  st_chain ho hs ho' hs' ha hb hc hm
/-- - x -/
def fNeg (a : EE) : EE := fun s h => (a s h).bind fun x h1 => match x with
  | .int i => .ok (.int (-i)) h1
  | _ => .bad
theorem xneg (ha : PE X a (rE X.K W fa)) : PE X (.UnaryOp .USub a pos) (rE X.K W (fNeg fa)) := PEw (pe_un un_neg ha) fun σ H Q q => by
  refine rd_mono (rd_bind (R := RelD) (f := fa) (g := fun x s h1 => match x with | .int i => .ok (D.int (-i)) h1 | _ => .bad) q) fun x H1 ⟨m1, s, h1, d1, S1, r1, q1, p1⟩ => ?_
  cases d1 with
  | int i =>
    simp only [RelD] at q1
    exact ⟨i, q1, p1 _ _ _ Ext.refl S1 (by simp [RelD])⟩
  | _ => exact p1.elim
end
section
variable {X : Cx} {W : WX} {e : Expr} {es : List Expr} {as : EA} {p pos : Pos}
theorem xlen (hm : X.mg "len" = none) (ha : PA X (e :: es) (rA X.K W as)) (hg : Gl X "len" := by rfl) (he : starEach (e :: es) X.env = (false, eval e X.env) :: starEach es X.env := by rfl) (hpl : (backTo pos (starEach es X.env)).any (·.1) = false := by rfl) :
    PE X (.Call (.Name "len" p) (e :: es) [] pos) (rE X.K W (fCl bLen as)) := se_clB call_lenAll cs_len hm bt_len ha hg (by decide) (by decide) he hpl
theorem xsum (hc : X.calm = true) (hm : X.mg "sum" = none) (ha : PA X (e :: es) (rA X.K W as)) (hg : Gl X "sum" := by rfl) (he : starEach (e :: es) X.env = (false, eval e X.env) :: starEach es X.env := by rfl) (hpl : (backTo pos (starEach es X.env)).any (·.1) = false := by rfl) :
    PE X (.Call (.Name "sum" p) (e :: es) [] pos) (rE X.K W (fCl bSum as)) := se_clB (cr_sum hc) cs_sum hm bt_sum ha hg (by decide) (by decide) he hpl
theorem xmax (hc : X.calm = true) (hm : X.mg "max" = none) (ha : PA X (e :: es) (rA X.K W as)) (hg : Gl X "max" := by rfl) (he : starEach (e :: es) X.env = (false, eval e X.env) :: starEach es X.env := by rfl) (hpl : (backTo pos (starEach es X.env)).any (·.1) = false := by rfl) :
    PE X (.Call (.Name "max" p) (e :: es) [] pos) (rE X.K W (fCl bMax as)) := se_clB (call_maxAll hc) cs_max hm bt_max ha hg (by decide) (by decide) he hpl
theorem xmin (hc : X.calm = true) (hm : X.mg "min" = none) (ha : PA X (e :: es) (rA X.K W as)) (hg : Gl X "min" := by rfl) (he : starEach (e :: es) X.env = (false, eval e X.env) :: starEach es X.env := by rfl) (hpl : (backTo pos (starEach es X.env)).any (·.1) = false := by rfl) :
    PE X (.Call (.Name "min" p) (e :: es) [] pos) (rE X.K W (fCl bMin as)) := se_clB (call_minAll hc) cs_min hm bt_min ha hg (by decide) (by decide) he hpl
theorem xsorted (hm : X.mg "sorted" = none) (ha : PA X (e :: es) (rA X.K W as)) (hg : Gl X "sorted" := by rfl) (he : starEach (e :: es) X.env = (false, eval e X.env) :: starEach es X.env := by rfl) (hpl : (backTo pos (starEach es X.env)).any (·.1) = false := by rfl) :
    PE X (.Call (.Name "sorted" p) (e :: es) [] pos) (rE X.K W (fCl bSorted as)) := se_clB call_sortedAll newL_sorted hm bt_sorted ha hg (by decide) (by decide) he hpl
theorem xlist (hm : X.mg "list" = none) (ha : PA X (e :: es) (rA X.K W as)) (hg : Gl X "list" := by rfl) (he : starEach (e :: es) X.env = (false, eval e X.env) :: starEach es X.env := by rfl) (hpl : (backTo pos (starEach es X.env)).any (·.1) = false := by rfl) :
    PE X (.Call (.Name "list" p) (e :: es) [] pos) (rE X.K W (fCl bList as)) := se_clT call_list_of cs_list hm bt_list ha hg (by decide) (by decide) he hpl
theorem xtuple (hm : X.mg "tuple" = none) (ha : PA X (e :: es) (rA X.K W as)) (hg : Gl X "tuple" := by rfl) (he : starEach (e :: es) X.env = (false, eval e X.env) :: starEach es X.env := by rfl) (hpl : (backTo pos (starEach es X.env)).any (·.1) = false := by rfl) :
    PE X (.Call (.Name "tuple" p) (e :: es) [] pos) (rE X.K W (fCl bTuple as)) := se_clT call_tuple_of cs_tuple hm bt_tuple ha hg (by decide) (by decide) he hpl
end

/-! ### a def without arguments -/
def fCall0 (fm : List D → HC → Res D) : EE := fun _ h => fm [] h
section
variable {X : Cx} {W : WX} {x : Str} {k : Nat} {fm : List D → HC → Res D} {p pos : Pos}
theorem tCall0_of {f : Addr} {fd : FuncData} {ps : List Str} {sp : Sp} (F : FnOk X.prog X.w X.K X.mg X.base (L2.CX X.prog X.w) k f fd ps sp) (hr : Room k X.A) (hm : X.mg x = some (.ref f)) (hk : PySem.W.keepIn X.K (.ref f) = true) (hb : Binds X.K fd ps []) (tk : Takes X W) (hg : Gl X x) (hdb : (x == ("__debug__" : Str)) = false) :
    PE X (.Call (.Name x p) [] [] pos) (tCallS sp (WE W) tNil) := by
  refine ⟨fun pins s σ H Q I h => wpAny_Call_Name_kw (ld_glob I hg hm ?_ hdb)⟩
  exact PySem.W.callWith_K0 I.kIn hk (run_fnS (us := []) (E := WE W) F hr hb (passAt tk σ) I .nil h)
theorem se_call0 (F : Fn X.prog X.w X.K X.mg X.base x k 0 fm) (hr : Room k X.A) (tk : Takes X W) (hg : Gl X x := by rfl) (hdb : (x == ("__debug__" : Str)) = false := by decide) : PE X (.Call (.Name x p) [] [] pos) (rE X.K W (fCall0 fm)) := by
  obtain ⟨f, fd, ps, G, hm, hk, hb⟩ := F.ex
  refine PEw (tCall0_of G hr hm hk hb tk hg hdb) fun σ H Q q => ?_
  obtain ⟨m, s, h, S, r, p⟩ := q
  exact ⟨m, h, [], S, RelDs.nil, rfl, postF_of p⟩
end
end G9

set_option Elab.async false
set_option linter.all false
set_option maxRecDepth 100000
set_option maxHeartbeats 2000000
namespace G9
open PySem PySem.Spec PyProof.Rows L2
theorem exf_of {K : PySem.W.Frag} {h : Heap} {mg : Str → Option Value} {x : Str} (X : K.In h) (G : h.Ns mainGlobals mg) (g : (He.Fa.glo x).ok K = true) (c : (He.Fa.exc x).ok K = true) : ExF K mg x :=
  ⟨(He.exc_ok c).1, He.glo_ok X G g, (He.exc_ok c).2.1, (He.exc_ok c).2.2.1, (He.exc_ok c).2.2.2⟩
/-- the law's own promise: nothing is let out -/
def spLaw (K : PySem.W.Frag) (fm : List D → HC → Res D) : Sp := fun vs H Q _ => spF K fm 1 vs H Q (fun _ _ _ => False)
theorem law_ok {P : Program} {w : World} {K : PySem.W.Frag} {mg : Str → Option Value} {base : Heap} {k : Nat} {f : Addr} {fd : FuncData} {ps : List Str} {fm : List D → HC → Res D} (F : FnOk P w K mg base (L2.CX P w) k f fd ps (spF K fm 1)) : FnOk P w K mg base L2.CX0 k f fd ps (spLaw K fm) :=
  ⟨fun vs H Q E q => F.len vs H Q _ q, fun A outer s H args us vs Q E hr he hb hv hs => codeAny_mono (F.run A outer s H args us vs Q _ hr he hb hv hs) fun r s' z => by
    unfold CR at z ⊢
    split at z
    · exact z
    · exact z
    · obtain ⟨_, _, _, _, _, _, _, _, _, _, _, _, z⟩ := z
      exact z.elim⟩
theorem law_sp {K : PySem.W.Frag} {fm : List D → HC → Res D} {H : Hp} {a : Addr} {ns : List Int} {E : XK} (hO : Only H) (hS : SqL K H a (ns.map V.int)) (z : ∃ h', fm [.scr ns] [] = .ok (.bl true) h') : spLaw K fm [.ref a] H (fun v _ => v = .bl true) E := by
  obtain ⟨h', e⟩ := z
  refine ⟨⟨[], a, ns⟩, [], [.scr ns], ⟨rfl, by simp, .of hS hO, fun i c b h => by simp at h⟩, .cons (by simp [RelD]) .nil, rfl, ?_⟩
  rw [e]
  intro m' H' v _ _ r
  simpa [RelD] using r
end G9

set_option Elab.async false
set_option linter.all false
set_option maxRecDepth 100000
set_option maxHeartbeats 2000000
namespace G9
open PySem PySem.Spec PyProof.Rows L2
/-! ### what is never reached -/
def fBad : EE := fun _ _ => .bad
def fBadT : ET := fun _ _ => .bad
def fBadS : ES := fun _ _ => .bad
section
variable {X : Cx} {W : WX}
theorem se_bad {e : Expr} : PE X e (rE X.K W fBad) := ⟨fun pins s σ H Q I q => by
  obtain ⟨_, _, _, _, _, p⟩ := q
  exact p.elim⟩
theorem st_bad {e : Expr} : PT X e (rT X.K W fBadT) := ⟨fun pins s σ H Q I q => by
  obtain ⟨_, _, _, _, _, p⟩ := q
  exact p.elim⟩
theorem ss_bad {st : Stmt} : PS X st (rS X.K W fBadS) := ⟨fun pins s σ H Q I q => by
  obtain ⟨_, _, _, _, _, p⟩ := q
  exact p.elim⟩
theorem ss_bads {st : List Stmt} : PSs X st (rS X.K W fBadS) := ⟨fun pins s σ H Q I q => by
  obtain ⟨_, _, _, _, _, p⟩ := q
  exact p.elim⟩
end
/-! ### try -/
/-- which clause takes which class -/
abbrev Tab := Str → Str → Option Bool
def handle (T : Tab) (c : Str) : List (Str × ES) → ES
  | [], s, h => .exc c s h
  | (y, f) :: r, s, h => match T c y with
    | some true => f s h
    | some false => handle T c r s h
    | none => .bad
def fTry (T : Tab) (f : ES) (hs : List (Str × ES)) : ES := fun s h => match f s h with
  | .exc c s1 h1 => handle T c hs s1 h1
  | r => r
def TabOk (K : PySem.W.Frag) (T : Tab) : Prop := ∀ c y b, T c y = some b → PySem.W.exmOne K (.ref (He.ga K c)) (.ref (He.ga K y)) = some b
/-- a table made of rows -/
def tabOf (l : List (Str × Str × Bool)) : Tab := fun c y => (l.find? fun r => decide (r.1 = c) && decide (r.2.1 = y)).map (·.2.2)
theorem tabOf_ok {K : PySem.W.Frag} {l : List (Str × Str × Bool)} (h : ∀ r ∈ l, PySem.W.exmOne K (.ref (He.ga K r.1)) (.ref (He.ga K r.2.1)) = some r.2.2) : TabOk K (tabOf l) := fun c y b e => by
  unfold tabOf at e
  cases q : l.find? (fun r => decide (r.1 = c) && decide (r.2.1 = y)) with
  | none => rw [q] at e; cases e
  | some r =>
    rw [q] at e
    have h1 := List.find?_some q
    have h2 := List.mem_of_find?_eq_some q
    simp at h1 e
    obtain ⟨rfl, rfl⟩ := h1
    rw [h r h2, e]
section
variable {X : Cx} {W : WX}
def hdL (K : PySem.W.Frag) (W : WX) (hs : List (Str × ES)) : List (Value × (Addr → Value → Option Addr → TS)) := hs.map fun p => (Value.ref (He.ga K p.1), fun _ _ _ => rS K W p.2)
theorem sh_nil : HdsOk X [] (hdL X.K W []) := .nil
theorem sh_cons {y : Str} {f : ES} {hs : List (Str × ES)} {b₀ : Stmt} {suite : List Stmt} {np pos' : Pos} {hds : List ExceptHandler} (hg : X.mg y = some (.ref (He.ga X.K y)))
    (hsu : ∀ (a : Addr) (oe : Obj) (pn : List (Addr × Obj)), PSs (X.suite a ((a, oe) :: pn)) (b₀ :: suite) (rS X.K W f)) (r : HdsOk X hds (hdL X.K W hs)) (hgl : Gl X y := by rfl) (hdb : (y == ("__debug__" : Str)) = false := by decide) :
    HdsOk X (.ExceptHandler (some (.Name y np)) none (b₀ :: suite) pos' :: hds) (hdL X.K W ((y, f) :: hs)) :=
  .cons ⟨hgl, hdb, .inl hg⟩ (fun a oe cls d pn _ _ => hsu a oe pn) r
theorem handle_ok {T : Tab} (hT : TabOk X.K T) {En : Ends} {c : Str} {m m1 : Mp} {H H1 : Hp} {s1 : SD} {h1 : HC} {σ : L2.St} (E : Ext m m1 H H1) (S : Sm X.K m1 h1 H1) (r : Rs m1 H1 s1 σ) : ∀ hs : List (Str × ES), postS X.K W m H En (handle T c hs s1 h1) → wMany X.K W En (hdL X.K W hs) (.ref (He.ga X.K c)) none σ H1
  | [], p => p m1 H1 σ E S r
  | (y, f) :: hs, p => by
    unfold handle at p
    cases e : T c y with
    | none => rw [e] at p; exact p.elim
    | some b =>
      rw [e] at p
      cases b with
      | true => exact ⟨true, hT c y true e, fun _ a _ => ⟨m1, s1, h1, S, r, postS_ext p E⟩, fun z => by cases z⟩
      | false => exact ⟨false, hT c y false e, (fun z => by cases z), fun _ => handle_ok hT E S r hs p⟩
theorem ss_try {T : Tab} {f : ES} {hs : List (Str × ES)} {body : List Stmt} {h₀ : ExceptHandler} {hds : List ExceptHandler} {pos : Pos} (hT : TabOk X.K T) (tk : Takes X W) (hstk : X.stack = X.env :: X.outer) (hfr : X.env.frame = some X.env.locals)
    (hb : ∀ (W' : WX) (pn : List (Addr × Obj)) (xe : Value → Shared → Prop), Takes (X.tr pn xe) W' → PassesOwn (model X.prog X.w) X.A X.env xe → PSs (X.tr pn xe) body (rS X.K W' f))
    (hh : HdsOk X (h₀ :: hds) (hdL X.K W hs)) : PS X (.Try body (h₀ :: hds) [] [] pos) (rS X.K W (fTry T f hs)) :=
  PSw (ps_try_many (tb := fun W' => rS X.K W' f) hstk hfr tk hb hh) fun En σ H q => by
    obtain ⟨m, s, h, S, r, p⟩ := q
    refine ⟨m, s, h, S, r, ?_⟩
    unfold fTry at p
    cases e : f s h with
    | nx s1 h1 => rw [e] at p; exact p
    | ret d h1 => rw [e] at p; exact p
    | bk s1 h1 => rw [e] at p; exact p
    | ct s1 h1 => rw [e] at p; exact p
    | bad => rw [e] at p; exact p
    | exc c s1 h1 =>
      rw [e] at p
      exact fun m' H' σ' E S' r' => handle_ok hT E S' r' hs p
end
end G9

set_option Elab.async false
set_option linter.all false
set_option maxRecDepth 100000
set_option maxHeartbeats 2000000
namespace G9
open PySem PySem.Spec PyProof.Rows L2
/-! ### zip of a list with a tuple -/
/-- a thing that stands at it and at l alone -/
def Stays (it l : Addr) (J : Heap → Prop) : Prop := ∀ (c : Addr) (h h' : Heap), it ≠ c → l ≠ c → Heap.ExtBut c h h' → J h → J h'
structure NxI (it l : Addr) (J J' : Heap → Prop) (x : Value) : Prop where
  run : ∀ {prog : Program} {w : World} {A : Around} {E : Value → Shared → Prop} {s : Shared} {Q : Value → Shared → Prop}, J s.heap → (∀ h', J' h' → Heap.SameBut it s.heap h' → Q x { s with heap := h' }) → wpAny (model prog w) A (Builtin.SmallTypes.nextOf (.ref it)) Q E s
  st : Stays it l J
  st' : Stays it l J'
structure NxE (it l : Addr) (J : Heap → Prop) : Prop where
  run : ∀ {prog : Program} {w : World} {A : Around} {E : Value → Shared → Prop} {s : Shared} {Q : Value → Shared → Prop}, A.handled = none → J s.heap → (∀ h' e, Heap.ExtBut it s.heap h' → (∃ o, h'.get? e = some o ∧ o.cls = .type "StopIteration") → E (.ref e) { s with heap := h' }) → wpAny (model prog w) A (Builtin.SmallTypes.nextOf (.ref it)) Q E s
  st : Stays it l J
def JL (it l : Addr) (xs : Array Value) (k : Nat) (h : Heap) : Prop := h.IsListIter it l k ∧ h.IsList l xs
def JT (it l : Addr) (xs : Array Value) (k : Nat) (h : Heap) : Prop := h.IsTupleIter it l k ∧ h.IsTuple l xs
theorem JL.stays {it l : Addr} {xs : Array Value} {k : Nat} : Stays it l (JL it l xs k) := fun c h h' a b e ⟨q, r⟩ => ⟨q.extBut e a, r.extBut e b⟩
theorem JT.stays {it l : Addr} {xs : Array Value} {k : Nat} : Stays it l (JT it l xs k) := fun c h h' a b e ⟨q, r⟩ => ⟨q.extBut e a, r.extBut e b⟩
theorem JL.nx {it l : Addr} {xs : Array Value} {k : Nat} {x : Value} (hx : xs[k]? = some x) (hne : l ≠ it) : NxI it l (JL it l xs k) (JL it l xs (k + 1)) x :=
  ⟨fun ⟨q, r⟩ g => wpAny_nextOf_list_item q r hx fun h' a b => g h' ⟨a, r.extBut b.extBut hne⟩ b, JL.stays, JL.stays⟩
theorem JT.nx {it l : Addr} {xs : Array Value} {k : Nat} {x : Value} (hx : xs[k]? = some x) (hne : l ≠ it) : NxI it l (JT it l xs k) (JT it l xs (k + 1)) x :=
  ⟨fun ⟨q, r⟩ g => RZ.nextOf_tuple_item q r hx fun h' a b => g h' ⟨a, r.extBut b.extBut hne⟩ b, JT.stays, JT.stays⟩
theorem JL.ex {it l : Addr} {xs : Array Value} {k : Nat} (hx : xs[k]? = none) : NxE it l (JL it l xs k) :=
  ⟨fun hh ⟨q, r⟩ g => wpAny_nextOf_list_end hh q r hx g, JL.stays⟩
theorem JT.ex {it l : Addr} {xs : Array Value} {k : Nat} (hx : xs[k]? = none) : NxE it l (JT it l xs k) :=
  ⟨fun hh ⟨q, r⟩ g => RZ.nextOf_tuple_end hh q r hx g, JT.stays⟩
section
variable {prog : Program} {w : World} {A : Around} {E : Value → Shared → Prop} {s : Shared} {zp TI TO i1 i2 l1 l2 : Addr} {J1 J1' J2 J2' : Heap → Prop} {x y a b : Value}
theorem zipM_item {Q : Value → Shared → Prop} (D : ZipApart zp TI TO i1 i2 l1 l2) (gz : IsZip s.heap zp TI TO .none) (gI : PySem.IsPair s.heap TI (.ref i1) (.ref i2)) (gO : PySem.IsPair s.heap TO a b) (n1 : NxI i1 l1 J1 J1' x) (n2 : NxI i2 l2 J2 J2' y) (j1 : J1 s.heap) (j2 : J2 s.heap)
    (hQ : ∀ h', IsZip h' zp TI TO (rawInt s.heap.objs.size) → PySem.IsPair h' TO x y → J1' h' → J2' h' → PySem.IsPair h' s.heap.objs.size x y → h'.objs.size = s.heap.objs.size + 1 →
      (∀ c o, c ∉ [zp, TO, i1, i2] → s.heap.get? c = some o → h'.get? c = some o) → Q (.ref s.heap.objs.size) { s with heap := h' }) :
    wpAny (model prog w) A (Builtin.«zip.__next__» ⟨[.ref zp], []⟩) (fun fin s' => ∃ v, fin = .done (.ret v) ∧ Q v s') E s := by
  show wpAny _ _ (field (.ref zp) 2 >>= _) _ _ _
  refine wpAny_bind (wpAny_field gz rfl (x := .bool false) rfl ?_)
  show wpAny _ _ (field (.ref zp) 3 >>= _) _ _ _
  refine wpAny_bind (wpAny_field gz rfl (x := .ref TI) rfl ?_)
  refine wpAny_bind (wpAny_seqItems gI rfl ?_)
  show wpAny _ _ (Builtin.SmallTypes.ownedTupleIsFree (.ref zp) >>= _) _ _ _
  refine wpAny_bind ?_
  simp only [Builtin.SmallTypes.ownedTupleIsFree]
  refine wpAny_bind (wpAny_field gz rfl (x := .none) rfl (wpAny_pure ?_))
  simp only [if_true]
  refine wpAny_bind (wpAny_rule ?_)
  refine wpAny_bind (wpAny_field gz rfl (x := .ref TO) rfl ?_)
  refine wpAny_bind (wpAny_setField_rec gz (by simp) fun k1 gz1 m1 => ?_)
  replace gz1 : IsZip k1 zp TI TO .ellipsis := gz1
  refine wpAny_bind ?_
  simp only [List.forIn_cons, List.forIn_nil, List.zipIdx_cons, List.zipIdx_nil]
  refine wpAny_bind (wpAny_bind (wpAny_onRaise ?_))
  show wpAny _ _ (Builtin.SmallTypes.nextOf (Value.ref i1) >>= _) _ _ _
  refine wpAny_bind (n1.run (n1.st _ _ _ D.i1z D.l1z m1.extBut j1) fun k2 j1' m2 => wpAny_pure ?_)
  have gO2 : PySem.IsPair k2 TO a b := m2.extBut _ _ D.TOi1 (m1.extBut _ _ D.TOz gO)
  refine wpAny_bind (wpAny_seqItems gO2 rfl ?_)
  refine wpAny_bind (wpAny_updateSeq_pair gO2 fun k3 gO3 m3 => ?_)
  replace gO3 : PySem.IsPair k3 TO x b := gO3
  refine wpAny_bind (wpAny_letGo (wpAny_pure ?_))
  refine wpAny_bind (wpAny_bind (wpAny_onRaise ?_))
  show wpAny _ _ (Builtin.SmallTypes.nextOf (Value.ref i2) >>= _) _ _ _
  have j2a := n2.st _ _ _ D.TOi2.symm D.l2TO m3.extBut (n2.st _ _ _ D.i12.symm D.l2i1 m2.extBut (n2.st _ _ _ D.i2z D.l2z m1.extBut j2))
  refine wpAny_bind (n2.run j2a fun k4 j2' m4 => wpAny_pure ?_)
  have gO4 : PySem.IsPair k4 TO x b := m4.extBut _ _ D.TOi2 gO3
  refine wpAny_bind (wpAny_seqItems gO4 rfl ?_)
  refine wpAny_bind (wpAny_updateSeq_pair gO4 fun k5 gO5 m5 => ?_)
  replace gO5 : PySem.IsPair k5 TO x y := gO5
  refine wpAny_bind (wpAny_letGo (wpAny_pure (wpAny_pure ?_)))
  refine wpAny_bind (wpAny_seqItems gO5 rfl ?_)
  refine wpAny_bind (wpAny_newTuple ?_)
  have esz : k5.objs.size = s.heap.objs.size := m5.1.trans (m4.1.trans (m3.1.trans (m2.1.trans m1.1)))
  have gz5 : IsZip k5 zp TI TO .ellipsis := m5.extBut _ _ (Ne.symm D.TOz) (m4.extBut _ _ (Ne.symm D.i2z) (m3.extBut _ _ (Ne.symm D.TOz) (m2.extBut _ _ (Ne.symm D.i1z) gz1)))
  have kp5 : ∀ c o, c ∉ [zp, TO, i1, i2] → s.heap.get? c = some o → k5.get? c = some o := fun c o hc e => by
    simp at hc
    obtain ⟨c1, c2, c3, c4⟩ := hc
    exact m5.extBut _ _ c2 (m4.extBut _ _ c4 (m3.extBut _ _ c2 (m2.extBut _ _ c3 (m1.extBut _ _ c1 e))))
  have j15 := n1.st' _ _ _ D.TOi1.symm D.l1TO m5.extBut (n1.st' _ _ _ D.i12 D.l1i2 m4.extBut (n1.st' _ _ _ D.TOi1.symm D.l1TO m3.extBut j1'))
  have j25 := n2.st' _ _ _ D.TOi2.symm D.l2TO m5.extBut j2'
  have zlt : zp < k5.objs.size := Heap.lt_size gz5
  show wpAny _ _ (Builtin.SmallTypes.ownedTupleHandOut (.ref zp) (.ref k5.objs.size) >>= _) _ _ _
  refine wpAny_bind ?_
  simp only [Builtin.SmallTypes.ownedTupleHandOut]
  have gz6 : IsZip (k5.push { cls := .type "tuple", data := .seq #[x, y] }) zp TI TO .ellipsis := Heap.get?_push_of_some _ gz5
  refine wpAny_bind (wpAny_setField_rec gz6 (by simp) fun k7 gz7 m7 => ?_)
  replace gz7 : IsZip k7 zp TI TO (rawInt k5.objs.size) := gz7
  refine wpAny_setField_rec gz7 (by simp) fun k8 gz8 m8 => ?_
  replace gz8 : IsZip k8 zp TI TO (rawInt k5.objs.size) := gz8
  have up : Heap.ExtBut zp k5 k8 := fun c o c1 e => m8.extBut _ _ c1 (m7.extBut _ _ c1 (Heap.get?_push_of_some _ e))
  have gT : PySem.IsPair k8 k5.objs.size x y := m8.extBut _ _ (Nat.ne_of_gt zlt) (m7.extBut _ _ (Nat.ne_of_gt zlt) (Heap.get?_push_size _ rfl))
  have esz8 : k8.objs.size = k5.objs.size + 1 := by rw [m8.1, m7.1, Heap.size_push]
  rw [esz] at gz8 gT esz8
  refine wpAny_pure ⟨_, rfl, ?_⟩
  show Q (.ref k5.objs.size) _
  rw [esz]
  refine hQ k8 gz8 (up _ _ D.TOz gO5) (n1.st' _ _ _ D.i1z D.l1z up j15) (n2.st' _ _ _ D.i2z D.l2z up j25) gT esz8 fun c o hc e => ?_
  have c1 : c ≠ zp := fun q => hc (by simp [q])
  exact up c o c1 (kp5 c o hc e)
theorem zipM_end {Q : Fin → Shared → Prop} (hh : A.handled = none) (D : ZipApart zp TI TO i1 i2 l1 l2) (gz : IsZip s.heap zp TI TO .none) (gI : PySem.IsPair s.heap TI (.ref i1) (.ref i2)) (gO : PySem.IsPair s.heap TO a b)
    (hend : (NxE i1 l1 J1 ∧ J1 s.heap) ∨ (NxI i1 l1 J1 J1' x ∧ J1 s.heap ∧ NxE i2 l2 J2 ∧ J2 s.heap))
    (hE : ∀ h' e, (∀ c o, c ∉ [zp, TO, i1, i2] → s.heap.get? c = some o → h'.get? c = some o) → (∃ o, h'.get? e = some o ∧ o.cls = .type "StopIteration") → E (.ref e) { s with heap := h' }) :
    wpAny (model prog w) A (Builtin.«zip.__next__» ⟨[.ref zp], []⟩) Q E s := by
  show wpAny _ _ (field (.ref zp) 2 >>= _) _ _ _
  refine wpAny_bind (wpAny_field gz rfl (x := .bool false) rfl ?_)
  show wpAny _ _ (field (.ref zp) 3 >>= _) _ _ _
  refine wpAny_bind (wpAny_field gz rfl (x := .ref TI) rfl ?_)
  refine wpAny_bind (wpAny_seqItems gI rfl ?_)
  show wpAny _ _ (Builtin.SmallTypes.ownedTupleIsFree (.ref zp) >>= _) _ _ _
  refine wpAny_bind ?_
  simp only [Builtin.SmallTypes.ownedTupleIsFree]
  refine wpAny_bind (wpAny_field gz rfl (x := .none) rfl (wpAny_pure ?_))
  simp only [if_true]
  refine wpAny_bind (wpAny_rule ?_)
  refine wpAny_bind (wpAny_field gz rfl (x := .ref TO) rfl ?_)
  refine wpAny_bind (wpAny_setField_rec gz (by simp) fun k1 gz1 m1 => ?_)
  replace gz1 : IsZip k1 zp TI TO .ellipsis := gz1
  refine wpAny_bind ?_
  simp only [List.forIn_cons, List.forIn_nil, List.zipIdx_cons, List.zipIdx_nil]
  refine wpAny_bind (wpAny_bind (wpAny_onRaise ?_))
  show wpAny _ _ (Builtin.SmallTypes.nextOf (Value.ref i1) >>= _) _ _ _
  have ez : ∀ {k : Heap} {e : Addr} {f0 : Value} {oe : Obj}, IsZip k zp TI TO f0 → k.get? e = some oe → oe.cls = .type "StopIteration" → e ≠ zp := fun g1 g2 g3 q => by
    subst q
    rw [g1] at g2
    cases g2
    simp at g3
  rcases hend with ⟨n1, j1⟩ | ⟨n1, j1, n2, j2⟩
  · refine wpAny_bind (n1.run hh (n1.st _ _ _ D.i1z D.l1z m1.extBut j1) fun k2 e m2 he => ?_)
    obtain ⟨oe, hoe, hce⟩ := he
    have gz2 : IsZip k2 zp TI TO .ellipsis := m2 _ _ (Ne.symm D.i1z) gz1
    refine wpAny_setField_rec gz2 (by simp) fun k3 _ m3 => hE k3 e (fun c o hc q => ?_) ⟨oe, m3.extBut _ _ (ez gz2 hoe hce) hoe, hce⟩
    simp at hc
    obtain ⟨c1, c2, c3, c4⟩ := hc
    exact m3.extBut _ _ c1 (m2 _ _ c3 (m1.extBut _ _ c1 q))
  · refine wpAny_bind (n1.run (n1.st _ _ _ D.i1z D.l1z m1.extBut j1) fun k2 _ m2 => wpAny_pure ?_)
    have gO2 : PySem.IsPair k2 TO a b := m2.extBut _ _ D.TOi1 (m1.extBut _ _ D.TOz gO)
    refine wpAny_bind (wpAny_seqItems gO2 rfl ?_)
    refine wpAny_bind (wpAny_updateSeq_pair gO2 fun k3 gO3 m3 => ?_)
    refine wpAny_bind (wpAny_letGo (wpAny_pure ?_))
    refine wpAny_bind (wpAny_bind (wpAny_onRaise ?_))
    show wpAny _ _ (Builtin.SmallTypes.nextOf (Value.ref i2) >>= _) _ _ _
    have j2a := n2.st _ _ _ D.TOi2.symm D.l2TO m3.extBut (n2.st _ _ _ D.i12.symm D.l2i1 m2.extBut (n2.st _ _ _ D.i2z D.l2z m1.extBut j2))
    refine wpAny_bind (n2.run hh j2a fun k4 e m4 he => ?_)
    obtain ⟨oe, hoe, hce⟩ := he
    have gz4 : IsZip k4 zp TI TO .ellipsis := m4 _ _ (Ne.symm D.i2z) (m3.extBut _ _ (Ne.symm D.TOz) (m2.extBut _ _ (Ne.symm D.i1z) gz1))
    refine wpAny_setField_rec gz4 (by simp) fun k5 _ m5 => hE k5 e (fun c o hc q => ?_) ⟨oe, m5.extBut _ _ (ez gz4 hoe hce) hoe, hce⟩
    simp at hc
    obtain ⟨c1, c2, c3, c4⟩ := hc
    exact m5.extBut _ _ c1 (m4 _ _ c4 (m3.extBut _ _ c2 (m2.extBut _ _ c3 (m1.extBut _ _ c1 q))))
end
end G9

set_option Elab.async false
set_option linter.all false
set_option maxRecDepth 100000
set_option maxHeartbeats 2000000
namespace G9
open PySem PySem.Spec PyProof.Rows L2
section
variable {prog : Program} {w : World} {A : Around} {E : Value → Shared → Prop} {s : Shared} {zp TI TO i1 i2 l1 l2 : Addr} {J1 J1' J2 J2' : Heap → Prop} {x y a b : Value}
theorem nextM_item {Q : Option Value → Shared → Prop} (D : ZipApart zp TI TO i1 i2 l1 l2) (gz : IsZip s.heap zp TI TO .none) (gI : PySem.IsPair s.heap TI (.ref i1) (.ref i2)) (gO : PySem.IsPair s.heap TO a b) (n1 : NxI i1 l1 J1 J1' x) (n2 : NxI i2 l2 J2 J2' y) (j1 : J1 s.heap) (j2 : J2 s.heap)
    (hQ : ∀ h', IsZip h' zp TI TO (rawInt s.heap.objs.size) → PySem.IsPair h' TO x y → J1' h' → J2' h' → PySem.IsPair h' s.heap.objs.size x y → h'.objs.size = s.heap.objs.size + 1 →
      (∀ c o, c ∉ [zp, TO, i1, i2] → s.heap.get? c = some o → h'.get? c = some o) → Q (some (.ref s.heap.objs.size)) { s with heap := h' }) :
    wpAny (model prog w) A (pyNext (.ref zp)) Q E s := by
  have ty : s.TypeIs (.ref zp) "zip" := ⟨_, gz, rfl⟩
  unfold pyNext
  refine wpAny_bind (wpAny_attempt (wpAny_callSpecial?_slot (name := Str.ofString "__next__") ty F.slot_zip_next (wpAny_call_entry F.slot_zip_next ty F.entry_zip_next ?_ (F.args_zip_next_1 _))))
  exact zipM_item D gz gI gO n1 n2 j1 j2 fun h' a1 a2 a3 a4 a5 a6 a7 => wpAny_pure (hQ h' a1 a2 a3 a4 a5 a6 a7)
theorem nextM_end {Q : Option Value → Shared → Prop} (hh : A.handled = none) (D : ZipApart zp TI TO i1 i2 l1 l2) (gz : IsZip s.heap zp TI TO .none) (gI : PySem.IsPair s.heap TI (.ref i1) (.ref i2)) (gO : PySem.IsPair s.heap TO a b)
    (hend : (NxE i1 l1 J1 ∧ J1 s.heap) ∨ (NxI i1 l1 J1 J1' x ∧ J1 s.heap ∧ NxE i2 l2 J2 ∧ J2 s.heap))
    (hQ : ∀ h', (∀ c o, c ∉ [zp, TO, i1, i2] → s.heap.get? c = some o → h'.get? c = some o) → Q none { s with heap := h' }) : wpAny (model prog w) A (pyNext (.ref zp)) Q E s := by
  have ty : s.TypeIs (.ref zp) "zip" := ⟨_, gz, rfl⟩
  unfold pyNext
  refine wpAny_bind (wpAny_attempt (wpAny_callSpecial?_slot (name := Str.ofString "__next__") ty F.slot_zip_next (wpAny_call_entry F.slot_zip_next ty F.entry_zip_next ?_ (F.args_zip_next_1 _))))
  refine zipM_end hh D gz gI gO hend fun h' e kp he => ?_
  obtain ⟨o, ho, hc⟩ := he
  exact wpAny_bind (wpAny_isInstance (T := "StopIteration") (b := true) ⟨o, ho, hc⟩ isSubtype_stop (wpAny_pure (hQ _ kp)))
end
/-- what is told of a list and a tuple walked together -/
def ItzM (K : PySem.W.Frag) (a b : Addr) : It where
  go := fun i H => ∃ (xs ys : List V) (x y : V), SqL K H a xs ∧ SqT K H b ys ∧ xs[i]? = some x ∧ ys[i]? = some y
  yld := fun i H v H' => ∃ T x y, v = .ref T ∧ H T = none ∧ H' = upd H T (.tup [x, y]) ∧ (∀ xs, SqL K H a xs → xs[i]? = some x) ∧ ∀ ys, SqT K H b ys → ys[i]? = some y
  stop := fun i H => ∃ xs ys : List V, SqL K H a xs ∧ SqT K H b ys ∧ (xs.length ≤ i ∨ ys.length ≤ i)
theorem five {c zp TI TO i1 i2 : Addr} (h : c ∈ [zp, TI, TO, i1, i2]) : c = zp ∨ c = TI ∨ c = TO ∨ c = i1 ∨ c = i2 := by simpa using h
theorem turn_zipM {P : Program} {w : World} {K : PySem.W.Frag} {elts : List Expr} {kk : Nat} {tpos : Pos} {a b zp TI TO i1 i2 : Addr} (D : ZipApart zp TI TO i1 i2 a b) :
    Turn P w K (.Tuple elts kk tpos) (ItzM K a b) [zp, TI, TO, i1, i2] zp (fun i h => IsZip h zp TI TO .none ∧ PySem.IsPair h TI (.ref i1) (.ref i2) ∧ (∃ x y, PySem.IsPair h TO x y) ∧ h.IsListIter i1 a i ∧ h.IsTupleIter i2 b i) where
  mem := List.mem_cons_self
  obj := fun i h st c hc => by
    obtain ⟨gz, gI, ⟨u, v, gO⟩, ⟨o1, e1, _, d1⟩, ⟨o2, e2, _, d2⟩⟩ := st
    rcases five hc with rfl | rfl | rfl | rfl | rfl
    · exact ⟨_, gz, nofun⟩
    · exact ⟨_, gI, nofun⟩
    · exact ⟨_, gO, nofun⟩
    · exact ⟨o1, e1, fun v q => by rw [d1] at q; cases q⟩
    · exact ⟨o2, e2, fun v q => by rw [d2] at q; cases q⟩
  keep := fun i h h' st k => by
    obtain ⟨gz, gI, ⟨u, v, gO⟩, q1, q2⟩ := st
    exact ⟨k zp (by simp) _ gz, k TI (by simp) _ gI, ⟨u, v, k TO (by simp) _ gO⟩, q1.at fun o q => k i1 (by simp) o q, q2.at fun o q => k i2 (by simp) o q⟩
  item := by
    intro X hP hw hK hc i pins s σ H E I hf st hg
    subst hP hw hK
    obtain ⟨gz, gI, ⟨u0, v0, gO⟩, q1, q2⟩ := st
    obtain ⟨xs, ys, x, y, sx, sy, hx, hy⟩ := hg
    obtain ⟨its, rv, p1, _⟩ := I.list sx
    obtain ⟨its2, rv2, p2, _⟩ := I.tuple sy
    obtain ⟨u, hu, ru⟩ := rv.get hx
    obtain ⟨v, hv, rv'⟩ := rv2.get hy
    have zl : zp < s.heap.objs.size := Heap.lt_size gz
    refine nextM_item D gz gI gO (JL.nx (xs := its.toArray) (x := u) (by simpa using hu) D.l1i1) (JT.nx (xs := its2.toArray) (x := v) (by simpa using hv) D.l2i2) ⟨q1, p1.isList⟩ ⟨q2, p2⟩ fun h' gz' gO' j1 j2 gT esz kp => ?_
    refine ⟨_, rfl, wpAny_letOwnedTupleGo_zip (s := { s with heap := h' }) gz' fun h2 gz2 sb => ?_⟩
    have gT2 : h2.get? s.heap.objs.size = some { cls := .type "tuple", data := .seq #[u, v] } := (sb.2 _ (Nat.ne_of_gt zl)).trans gT
    have new : ObjOk X.prog X.w (upd H s.heap.objs.size (.tup [x, y])) h2 s.heap.objs.size (.tup [x, y]) :=
      ⟨Nat.le_trans (show 2 ≤ BIG by decide) big_le, [u, v], .cons ru (.cons rv' .nil), ⟨_, gT2, rfl, _, rfl⟩⟩
    have kp2 : ∀ c o, c ∉ [zp, TI, TO, i1, i2] → s.heap.get? c = some o → h2.get? c = some o := fun c o hb q => by
      have c1 : c ≠ zp := fun z => hb (by simp [z])
      refine (sb.2 c c1).trans (kp c o (fun z => hb ?_) q)
      simp at z ⊢
      rcases z with z | z | z | z <;> simp [z]
    have J := I.turnedNew (t' := s.toks) (ch := [zp, TI, TO, i1, i2]) kp2 hf (Nat.le_refl _) new
    refine ⟨.ref s.heap.objs.size, _, J, rfl, ⟨_, x, y, rfl, I.hok.fresh (Nat.le_refl _), rfl, fun l hl => by rw [I.list_inj hl sx]; exact hx, fun l hl => by rw [I.tuple_inj hl sy]; exact hy⟩, ⟨gz2, ?_, ⟨u, v, (sb.2 _ D.TOz).trans gO'⟩, j1.1.at fun o q => (sb.2 _ D.i1z).trans q, j2.1.at fun o q => (sb.2 _ D.i2z).trans q⟩, fun c hcm => ?_⟩
    · refine (sb.2 _ D.TIz).trans (kp _ _ (fun z => ?_) gI)
      simp at z
      rcases z with z | z | z | z
      · exact D.TIz z
      · exact D.TITO z
      · exact D.TIi1 z
      · exact D.TIi2 z
    · have hlt : c < s.heap.objs.size := by
        obtain ⟨_, e1, _⟩ := q1
        obtain ⟨_, e2, _⟩ := q2
        rcases five hcm with rfl | rfl | rfl | rfl | rfl
        · exact zl
        · exact Heap.lt_size gI
        · exact Heap.lt_size gO
        · exact Heap.lt_size e1
        · exact Heap.lt_size e2
      rw [upd_ne (Nat.ne_of_lt hlt)]
      exact (hf c hcm).1
  done := by
    intro X hP hw hK hc i pins s σ H E I hf st hg
    subst hP hw hK
    obtain ⟨gz, gI, ⟨u0, v0, gO⟩, q1, q2⟩ := st
    obtain ⟨xs, ys, sx, sy, hend⟩ := hg
    obtain ⟨its, rv, p1, _⟩ := I.list sx
    obtain ⟨its2, rv2, p2, _⟩ := I.tuple sy
    have e1 := rv.length
    have e2 := rv2.length
    have fin : ∀ h' : Heap, (∀ c o, c ∉ [zp, TO, i1, i2] → s.heap.get? c = some o → h'.get? c = some o) → ∀ c o, c ∉ [zp, TI, TO, i1, i2] → s.heap.get? c = some o → h'.get? c = some o := fun h' kp c o hb q => kp c o (fun z => hb (by simp at z ⊢; rcases z with z | z | z | z <;> simp [z])) q
    by_cases hx : xs.length ≤ i
    · exact nextM_end (J1' := fun _ => True) (J2 := fun _ => True) (x := .none) (I.ok.hd hc) D gz gI gO (.inl ⟨JL.ex (xs := its.toArray) (by simp; omega), q1, p1.isList⟩) fun h' kp => ⟨rfl, I.turnedL (t' := s.toks) (fin h' kp) hf⟩
    · have hy : ys.length ≤ i := by omega
      have hu : its.toArray[i]? = some (its[i]'(by omega)) := by simp
      exact nextM_end (I.ok.hd hc) D gz gI gO (.inr ⟨JL.nx hu D.l1i1, ⟨q1, p1.isList⟩, JT.ex (xs := its2.toArray) (by simp; omega), q2, p2⟩) fun h' kp => ⟨rfl, I.turnedL (t' := s.toks) (fin h' kp) hf⟩
  self := fun A i s Q E st h => wpAny_pyIter_zip st.1 h
/-! the call -/
abbrev zM1 (h : Heap) (p : Addr) : Heap := h.push { cls := .type "list_iterator", data := .fields #[.ref p, .int 0 0] }
abbrev zM2 (h : Heap) (p q : Addr) : Heap := (zM1 h p).push { cls := .type "tuple_iterator", data := .fields #[.ref q, .int 0 0] }
abbrev zM3 (h : Heap) (p q : Addr) : Heap := (zM2 h p q).push { cls := .type "tuple", data := .seq #[.ref h.objs.size, .ref (zM1 h p).objs.size] }
abbrev zM4 (h : Heap) (p q : Addr) : Heap := (zM3 h p q).push { cls := .type "tuple", data := .seq #[.none, .none] }
abbrev zM5 (h : Heap) (p q : Addr) : Heap := (zM4 h p q).push { cls := .type "zip", data := .fields #[.none, .bool false, .bool false, .ref (zM2 h p q).objs.size, .ref (zM3 h p q).objs.size] }
theorem meets_zipM (p q : Addr) (xs ys : Array Value) :
    Meets (Builtin.«zip.__new__» ⟨[.type "zip", .ref p, .ref q], []⟩) (fun _ R s => s.heap.IsList p xs ∧ s.heap.IsTuple q ys ∧ R (.ok (.ret (.ref (zM4 s.heap p q).objs.size))) { s with heap := zM5 s.heap p q }) :=
  .of_wp fun prog w A R s h => by
    obtain ⟨hp, g, d, tk, os⟩ := s
    obtain ⟨f1, f2, h⟩ := h
    have hsub := sub_zip
    have L1 : Heap.IsList (Shared.heap ⟨hp, g, d, tk, os⟩) p xs := f1
    have L2 : Heap.IsTuple (Shared.heap ⟨zM1 hp p, g, d, tk, os⟩) q ys := Heap.IsTuple.push f2 _
    wp_walk using wpAny_pyIter_list L1, wpAny_pyIter_tuple L2
    exact ⟨_, rfl, h⟩
theorem call_zipM {prog : Program} {w : World} {A : Around} {E : Value → Shared → Prop} {s : Shared} {p q : Addr} {xs ys : Array Value} {Q : Value → Shared → Prop} (f1 : s.heap.IsList p xs) (f2 : s.heap.IsTuple q ys)
    (h : ∀ h', IsZip h' (s.heap.objs.size + 4) (s.heap.objs.size + 2) (s.heap.objs.size + 3) .none → PySem.IsPair h' (s.heap.objs.size + 2) (.ref s.heap.objs.size) (.ref (s.heap.objs.size + 1)) →
      PySem.IsPair h' (s.heap.objs.size + 3) .none .none → h'.IsListIter s.heap.objs.size p 0 → h'.IsTupleIter (s.heap.objs.size + 1) q 0 → (∀ c o, s.heap.get? c = some o → h'.get? c = some o) → Q (.ref (s.heap.objs.size + 4)) { s with heap := h' }) :
    wpAny (model prog w) A (call (.type "zip") [.ref p, .ref q]) Q E s := by
  refine callType_new F.called_zip (by decide) (F.typeCall_zip_2 _ _) (F.newCall_zip_2 _ _) (fun obj => F.args_object_init_3 obj _ _) F.entry_zip_new (meets_zipM p q xs ys) ⟨f1, f2, ?_⟩
  have k1 : (zM1 s.heap p).objs.size = s.heap.objs.size + 1 := Heap.size_push ..
  have k2 : (zM2 s.heap p q).objs.size = s.heap.objs.size + 2 := (Heap.size_push ..).trans (by rw [k1])
  have k3 : (zM3 s.heap p q).objs.size = s.heap.objs.size + 3 := (Heap.size_push ..).trans (by rw [k2])
  have k4 : (zM4 s.heap p q).objs.size = s.heap.objs.size + 4 := (Heap.size_push ..).trans (by rw [k3])
  have u5 : ∀ c o, (zM4 s.heap p q).get? c = some o → (zM5 s.heap p q).get? c = some o := fun c o e => Heap.get?_push_of_some _ e
  have u4 : ∀ c o, (zM3 s.heap p q).get? c = some o → (zM5 s.heap p q).get? c = some o := fun c o e => u5 c o (Heap.get?_push_of_some _ e)
  have u3 : ∀ c o, (zM2 s.heap p q).get? c = some o → (zM5 s.heap p q).get? c = some o := fun c o e => u4 c o (Heap.get?_push_of_some _ e)
  have u2 : ∀ c o, (zM1 s.heap p).get? c = some o → (zM5 s.heap p q).get? c = some o := fun c o e => u3 c o (Heap.get?_push_of_some _ e)
  have v5 : (zM5 s.heap p q).get? (zM4 s.heap p q).objs.size = some _ := Heap.get?_push_size _ rfl
  have v4 := u5 (zM3 s.heap p q).objs.size _ (Heap.get?_push_size _ rfl)
  have v3 := u4 (zM2 s.heap p q).objs.size _ (Heap.get?_push_size _ rfl)
  have v2 := u3 (zM1 s.heap p).objs.size _ (Heap.get?_push_size _ rfl)
  have v1 := u2 s.heap.objs.size _ (Heap.get?_push_size _ rfl)
  show _ ∧ _
  rw [k2, k3, k4] at v5
  rw [k1, k2] at v3
  rw [k3] at v4
  rw [k1] at v2
  rw [k4]
  exact ⟨⟨_, v5, rfl⟩, h _ v5 v3 v4 ⟨_, v1, rfl, rfl⟩ ⟨_, v2, rfl, rfl⟩ fun c o e => u2 c o (Heap.get?_push_of_some _ e)⟩
def iZipM (K : PySem.W.Frag) (ta : TA) : TI := fun σ H R => ta σ H fun vs H1 => ∃ a b xs ys, vs = [.ref a, .ref b] ∧ SqL K H1 a xs ∧ SqT K H1 b ys ∧ R (ItzM K a b) H1
theorem pi_zipM {X : Cx} {e e2 : Expr} {ta : TA} {p pos tpos : Pos} {elts : List Expr} {kk : Nat} (hg : Gl X "zip") (hm : X.mg "zip" = none) (ha : PA X [e, e2] ta)
    (hs : starEach [e, e2] X.env = (false, eval e X.env) :: starEach [e2] X.env := by rfl) (hpl : (backTo pos (starEach [e2] X.env)).any (·.1) = false := by rfl) :
    PI X (.Tuple elts kk tpos) (.Call (.Name "zip" p) [e, e2] [] pos) (iZipM X.K ta) := by
  refine ⟨fun pins s σ H R I h => ?_⟩
  refine Call_ (ld_blt I hg hm PyProof.Rows.boot_zip (PyProof.Rows.callWith_type1 (thn (ha.run pos pins s σ H _ I h) fun us s1 hh => ?_) hs hpl))
  obtain ⟨vs, H1, I1, r1, a, b, xs, ys, ev, hx, hy, q⟩ := hh
  subst ev
  obtain ⟨u, v, rfl, ru, rv⟩ := vals2 r1
  cases ru
  cases rv
  obtain ⟨its, r2, p1, _⟩ := I1.list hx
  obtain ⟨its2, r3, p2, _⟩ := I1.tuple hy
  obtain ⟨o2, ho2, _⟩ := id p2
  refine call_zipM (xs := its.toArray) (ys := its2.toArray) p1.isList p2 fun h' gz gI gO q1 q2 kp => wpAny_pyIter_zip gz ?_
  have J : Inv X pins σ H1 { s1 with heap := h' } := I1.kept (t' := s1.toks) kp
  refine ⟨s1.heap.objs.size + 4, [s1.heap.objs.size + 4, s1.heap.objs.size + 2, s1.heap.objs.size + 3, s1.heap.objs.size, s1.heap.objs.size + 1], _, _, H1, rfl, J, turn_zipM (PySem.W.ktu_apart s1.heap.objs.size a b p1.lt (Heap.lt_size ho2)), ⟨gz, gI, ⟨_, _, gO⟩, q1, q2⟩, fun c hc => ?_, q⟩
  have hle : s1.heap.objs.size ≤ c := by
    rcases five hc with rfl | rfl | rfl | rfl | rfl <;> omega
  exact I1.fpOk hle (I1.hok.fresh hle)
def zipD (xs ys : List D) : List D := List.zipWith (fun d e => .tup [d, e]) xs ys
theorem zipD_get {xs ys : List D} {i : Nat} {d : D} (e : (zipD xs ys)[i]? = some d) : ∃ x y, xs[i]? = some x ∧ ys[i]? = some y ∧ d = .tup [x, y] := by
  unfold zipD at e
  rw [List.getElem?_zipWith] at e
  cases q : xs[i]? with
  | none => simp [q] at e
  | some x =>
    cases q2 : ys[i]? with
    | none => simp [q, q2] at e
    | some y =>
      simp [q, q2] at e
      exact ⟨x, y, rfl, rfl, e.symm⟩
def fItZM (a b : EE) : EI := fun s h => (a s h).bind fun x h1 => (b s h1).bind fun y h2 => match x, y with
  | .ref n, .tup ys => (match h2[n]? with
    | some (.lst xs) => .ok (zipD xs ys, [(n, .lst xs)]) h2
    | _ => .bad)
  | _, _ => .bad
section
variable {K : PySem.W.Frag} {m1 : Mp} {H1 : Hp} {h1 : HC}
theorem walkS_zipM {n : Nat} {a b : Addr} {xs ys : List D} {us : List V} (S1 : Sm K m1 h1 H1) (ha : m1.ad[n]? = some a) (hb : H1 b = some (.tup us)) (r : RelDs m1 H1 ys us) : WalkS K m1 H1 (ItzM K a b) (zipD xs ys) [(n, .lst xs)] := fun m' h' H' E S c => by
  obtain ⟨vs, hv, hr⟩ := S.cell n _ a (chk_one c) (E.le n a ha)
  have hq : SqL K H' a vs := SqL.of hv
  have hq2 : SqT K H' b us := SqT.of (S1.kept E b us hb)
  have hr2 := r.mono S1 E
  refine ⟨fun i d e => ?_, ⟨vs, us, hq, hq2, ?_⟩⟩
  · obtain ⟨x, y, ex, ey, rfl⟩ := zipD_get e
    obtain ⟨v, hv2, hd⟩ := hr.get ex
    obtain ⟨u, hu2, hd2⟩ := hr2.get ey
    refine ⟨⟨vs, us, v, u, hq, hq2, hv2, hu2⟩, fun t H'' yl => ?_⟩
    obtain ⟨T, x', y', rfl, hT, rfl, h1, h2⟩ := yl
    have e1 := h1 vs hq
    have e2 := h2 us hq2
    rw [hv2] at e1
    rw [hu2] at e2
    cases e1
    cases e2
    exact pair_new S hT hd hd2
  · have e1 := hr.len
    have e2 := hr2.len
    simp only [zipD, List.length_zipWith]
    omega
end
section
variable {X : Cx} {W : WX} {e e2 : Expr} {fa fb : EE} {p pos tpos : Pos} {elts : List Expr} {kk : Nat}
theorem si_zipM (hm : X.mg "zip" = none) (ha : PE X e (rE X.K W fa)) (hb : PE X e2 (rE X.K W fb)) (hg : Gl X "zip" := by rfl) (hs : starEach [e, e2] X.env = (false, eval e X.env) :: starEach [e2] X.env := by rfl) (hs2 : starEach [e2] X.env = (false, eval e2 X.env) :: starEach [] X.env := by rfl) (hpl : (backTo pos (starEach [e2] X.env)).any (·.1) = false := by rfl) :
    PI X (.Tuple elts kk tpos) (.Call (.Name "zip" p) [e, e2] [] pos) (rI X.K W (fItZM fa fb)) := PIw (pi_zipM hg hm (pa_cons ha (pa_cons hb pa_nil hs2) hs) hs hpl) fun σ H R q => by
  obtain ⟨m, s, h, S, r, p⟩ := q
  refine ⟨m, s, h, S, r, ?_⟩
  unfold fItZM at p
  cases e1 : fa s h with
  | ok d1 h1 =>
    rw [e1] at p
    intro m1 H1 v1 E1 S1 r1
    refine ⟨m1, s, h1, S1, r.mono S E1, ?_⟩
    dsimp only [Res.bind] at p
    cases e2 : fb s h1 with
    | ok d2 h2 =>
      rw [e2] at p
      intro m2 H2 v2 E2 S2 r2
      dsimp only at p
      have r1' := r1.mono S1 E2
      cases d1 with
      | ref n =>
        cases d2 with
        | tup ys =>
          dsimp only at p
          simp only [RelD] at r1' r2
          obtain ⟨a, ha, rfl⟩ := r1'
          obtain ⟨b, us, rfl, hb, hr⟩ := r2
          obtain ⟨c, hc, hcc⟩ := S2.at_ ha
          rw [hc] at p
          cases c with
          | lst xs =>
            obtain ⟨vs, hv, _⟩ := hcc
            exact ⟨a, b, vs, us, rfl, SqL.of hv, SqT.of hb, p m2 H2 _ (E1.trans E2) S2 (walkS_zipM S2 ha hb hr)⟩
          | _ => exact p.elim
        | _ => exact p.elim
      | _ => exact p.elim
    | exc c h2 => rw [e2] at p; exact fun m' H' E' S' => p m' H' (E1.trans E') S'
    | bad => rw [e2] at p; exact p.elim
  | exc c h1 => rw [e1] at p; exact p
  | bad => rw [e1] at p; exact p.elim
end
end G9

set_option Elab.async false
set_option linter.all false
set_option maxRecDepth 100000
set_option maxHeartbeats 2000000
namespace G9
open PySem PySem.Spec PyProof.Rows L2
/-! ### sorted, of any data that can be compared -/
def sortBy {α : Type} (xs : List α) (ps : List PyData) : List α := ((xs.zip ps).mergeSort (PySem.W.dataLe false Prod.snd)).map Prod.fst
def rSortDat (K : PySem.W.Frag) : List V → Hp → VK → Prop := fun vs H Q => ∃ (a : Addr) (xs : List V) (ds : List PyData), vs = [V.ref a] ∧ SqL K H a xs ∧ DpAll K H xs ds ∧ PySem.W.AllAlike ds ∧ PySem.W.Sortable ds ∧ (∀ d ∈ ds, d.depth ≤ 9) ∧
  ∀ p, H p = none → Q (.ref p) (upd H p (.lst (sortBy xs ds)))
theorem DpAll.len {K : PySem.W.Frag} {H : Hp} : ∀ {vs : List V} {ds : List PyData}, DpAll K H vs ds → vs.length = ds.length
  | _, _, .nil => rfl
  | _, _, .cons _ t => by simp [DpAll.len t]
theorem each_zip {vs : List V} {us : List Value} (h : Vals vs us) : ∀ {ds : List PyData}, vs.length = ds.length → PySem.W.EachIs (fun u (b : V × PyData) => RelV b.1 u) us (vs.zip ds) := by
  induction h with
  | nil => intro ds _; simpa using PySem.W.EachIs.nil
  | cons r t ih =>
    intro ds e
    cases ds with
    | nil => simp at e
    | cons d ds => exact .cons r (ih (by simpa using e))
theorem each_reads {h : Heap} : ∀ {us : List Value} {vs : List V} {ds : List PyData} {as : List Addr}, ReadsAll h us ds as → us.length = vs.length → vs.length = ds.length → PySem.W.EachIs (fun u (b : V × PyData) => ∃ as, Reads h u b.2 as) us (vs.zip ds)
  | [], [], [], _, _, _, _ => .nil
  | u :: us, v :: vs, d :: ds, _, r, e1, e2 => by
    cases r with
    | cons r1 r2 => exact .cons ⟨_, r1⟩ (each_reads r2 (by simpa using e1) (by simpa using e2))
  | [], _ :: _, _, _, _, e, _ => by simp at e
  | _ :: _, [], _, _, _, e, _ => by simp at e
  | [], [], _ :: _, _, _, _, e => by simp at e
  | _ :: _, _ :: _, [], _, _, _, e => by simp at e
theorem each_vals {us : List Value} {bs : List (V × PyData)} (h : PySem.W.EachIs (fun u (b : V × PyData) => RelV b.1 u) us bs) : Vals (bs.map Prod.fst) us := by
  induction h with
  | nil => exact .nil
  | cons r t ih => exact .cons r ih
theorem zip_snd {vs : List V} {ds : List PyData} (e : vs.length = ds.length) : (vs.zip ds).map Prod.snd = ds := List.map_snd_zip (by omega)
theorem sortBy_len {α : Type} {xs : List α} {ps : List PyData} (e : xs.length = ps.length) : (sortBy xs ps).length = xs.length := by
  simp [sortBy, List.length_mergeSort]
  omega
theorem cr_sortDat {X : Cx} (hu : X.A.units + 65 < cLine) : CallR X (.builtin "sorted") (rSortDat X.K) := by
  intro pins s σ H vs us Q I r h
  obtain ⟨a, xs, ds, rfl, hs, hd, hal, hk, hdp, q⟩ := h
  obtain ⟨its, rv, hl, hz⟩ := I.list hs
  obtain ⟨u, rfl, ru⟩ := vals1 r
  obtain rfl : u = Value.ref a := ru
  have el := DpAll.len hd
  obtain ⟨as, hr⟩ := Dp.readsAll I ds xs its hd rv
  have eb : (xs.zip ds).length = its.length := by rw [List.length_zip, ← rv.length]; omega
  refine PySem.W.sorted_data (R := fun u (b : V × PyData) => RelV b.1 u) (bs := xs.zip ds) (enc := Prod.snd) (vs := its) hl.isList (each_zip rv el) (each_reads hr rv.length.symm el) (by rw [zip_snd el]; exact hal) (by rw [zip_snd el]; exact hk) (by rw [eb, ← rv.length]; exact hz) (fun b hb => ?_) fun out hlen he => ?_
  · have : b.2 ∈ ds := by
      have := List.mem_map_of_mem (f := Prod.snd) hb
      rwa [zip_snd el] at this
    have := hdp _ this
    omega
  · obtain ⟨n, hn⟩ := sortedAll_at s.heap its out.toArray
    have hv : Vals (sortBy xs ds) out := each_vals he
    refine ⟨.ref (s.heap.objs.size + 1), upd H (s.heap.objs.size + 1) (.lst (sortBy xs ds)), I.laid (t' := s.toks) (fun b o e => sortedAll_old e) (Nat.le_succ _) ⟨?_, out, n, hv, hn⟩, rfl, q _ (I.hok.fresh (Nat.le_succ _))⟩
    rw [sortBy_len el]
    exact hz
def alikeB (ps : List PyData) : Bool := ps.all fun p => ps.all fun q => PySem.W.alike p q
def isTup1 : PyData → Bool
  | .tuple (_ :: _) => true
  | _ => false
def isPlain : PyData → Bool
  | .none => false
  | .tuple _ => false
  | _ => true
def sortableB (ps : List PyData) : Bool := ps.all isTup1 || ps.all isPlain
theorem sortableB_ok {ps : List PyData} (h : sortableB ps = true) : PySem.W.Sortable ps := by
  rcases Bool.or_eq_true_iff.mp h with h | h
  · refine .inl fun d hd => ?_
    have := List.all_eq_true.mp h d hd
    unfold isTup1 at this
    split at this
    · exact ⟨_, _, rfl⟩
    · cases this
  · refine .inr fun d hd => ?_
    have := List.all_eq_true.mp h d hd
    unfold isPlain at this
    split at this
    · cases this
    · cases this
    · rename_i h1 h2
      exact ⟨h1, h2⟩
def bSortD : List D → HC → Res D
  | [.ref n], h => (match asSeq h n with
    | some xs => (match optAll (xs.map (toPy h 8)) with
      | some ps => if alikeB ps = true ∧ sortableB ps = true then newL (sortBy xs ps) h else .bad
      | none => .bad)
    | none => .bad)
  | _, _ => .bad
theorem RelDs.zipE {m : Mp} {H : Hp} : ∀ {ds : List D} {vs : List V} {ps : List PyData}, RelDs m H ds vs → PySem.W.EachIs (fun (b : D × PyData) (c : V × PyData) => RelD m H b.1 c.1 ∧ b.2 = c.2) (ds.zip ps) (vs.zip ps)
  | [], vs, ps, r => by
    simp only [RelDs] at r
    subst r
    simpa using PySem.W.EachIs.nil
  | d :: ds, vs, ps, r => by
    simp only [RelDs] at r
    obtain ⟨v, vs', rfl, h1, h2⟩ := r
    cases ps with
    | nil => simpa using PySem.W.EachIs.nil
    | cons p ps => exact .cons ⟨h1, rfl⟩ (RelDs.zipE h2)
theorem each_rel {m : Mp} {H : Hp} {as : List (D × PyData)} {bs : List (V × PyData)} (h : PySem.W.EachIs (fun (b : D × PyData) (c : V × PyData) => RelD m H b.1 c.1 ∧ b.2 = c.2) as bs) : RelDs m H (as.map Prod.fst) (bs.map Prod.fst) := by
  induction h with
  | nil => exact .nil
  | cons r t ih => exact .cons r.1 ih
theorem cs_sortD {K : PySem.W.Frag} : ClS K (rSortDat K) bSortD := by
  intro W σ m h H ds vs Q S r p
  unfold bSortD at p
  split at p
  · split at p
    · rename_i n h xs hx
      split at p
      · rename_i ps hp
        split at p
        · rename_i hc
          obtain ⟨v, rfl, rv⟩ := r.one
          obtain ⟨a, us, rfl, _, hs, hr⟩ := S.seq rv hx
          have hd := optAll_dp (K := K) (fun d v p => toPy_ok S 8 d v p) xs us ps hr hp
          have hlay := optAll_lay (fun d p => toPy_lay 8 d p) xs ps hp
          have hrel : RelDs m H (sortBy xs ps) (sortBy us ps) := each_rel (PySem.W.sort_each hr.zipE fun b hb c hc' => by
            have h1 := hr.zipE (ps := ps)
            have e1 := (h1.zip b hb).2
            have e2 := (h1.zip c hc').2
            simp only [PySem.W.dataLe_eq, e1, e2])
          refine newL_ok S hrel p fun _ g => ⟨a, us, ps, rfl, hs, hd, ?_, sortableB_ok hc.2, ?_, g⟩
          · intro d hd1 d' hd2
            exact List.all_eq_true.mp (List.all_eq_true.mp hc.1 d hd1) d' hd2
          · intro d hd1
            have : ∀ (l : List PyData) (n : Nat), PyData.depthAll l ≤ n → ∀ d ∈ l, d.depth ≤ n := by
              intro l
              induction l with
              | nil => intro n _ d hd; simp at hd
              | cons x l ih =>
                intro n hn d hd
                simp only [PyData.depthAll] at hn
                rcases List.mem_cons.mp hd with rfl | hd
                · omega
                · exact ih n (by omega) d hd
            have := this ps 8 hlay.2 d hd1
            omega
        · exact p.elim
      · exact p.elim
    · exact p.elim
  · exact p.elim
end G9

set_option Elab.async false
set_option linter.all false
set_option maxRecDepth 100000
set_option maxHeartbeats 2000000
namespace G9
open PySem PySem.Spec PyProof.Rows L2
/-- sorted: ints, pairs of ints, else any data -/
def bSortA (as : List D) (h : HC) : Res D := match bSorted as h with
  | .bad => bSortD as h
  | r => r
theorem cs_sortA {K : PySem.W.Frag} : ClS K (fun vs H Q => rSortedAll K vs H Q ∨ rSortDat K vs H Q) bSortA := by
  intro W σ m h H ds vs Q S r p
  unfold bSortA at p
  cases e : bSorted ds h with
  | bad => rw [e] at p; exact .inr (cs_sortD W σ m h H ds vs Q S r p)
  | ok d h1 => rw [e] at p; exact .inl (newL_sorted W σ m h H ds vs Q S r (by rw [e]; exact p))
  | exc c h1 => rw [e] at p; exact .inl (newL_sorted W σ m h H ds vs Q S r (by rw [e]; exact p))
section
variable {X : Cx} {W : WX} {e : Expr} {es : List Expr} {as : EA} {p pos : Pos} {k : Nat}
theorem xsortA (hr : Room k X.A) (hm : X.mg "sorted" = none) (ha : PA X (e :: es) (rA X.K W as)) (hg : Gl X "sorted" := by rfl) (he : starEach (e :: es) X.env = (false, eval e X.env) :: starEach es X.env := by rfl) (hpl : (backTo pos (starEach es X.env)).any (·.1) = false := by rfl) :
    PE X (.Call (.Name "sorted" p) (e :: es) [] pos) (rE X.K W (fCl bSortA as)) := se_clB (CallR.or call_sortedAll (cr_sortDat (hu65 hr))) cs_sortA hm bt_sorted ha hg (by decide) (by decide) he hpl
end
theorem tabs_nil {K : PySem.W.Frag} : ∀ r ∈ ([] : List (Str × Str × Bool)), PySem.W.exmOne K (.ref (He.ga K r.1)) (.ref (He.ga K r.2.1)) = some r.2.2 := fun r h => by simp at h
theorem tabs_cons {K : PySem.W.Frag} {c y : Str} {b : Bool} {l : List (Str × Str × Bool)} (h : PySem.W.exmOne K (.ref (He.ga K c)) (.ref (He.ga K y)) = some b) (t : ∀ r ∈ l, PySem.W.exmOne K (.ref (He.ga K r.1)) (.ref (He.ga K r.2.1)) = some r.2.2) :
    ∀ r ∈ (c, y, b) :: l, PySem.W.exmOne K (.ref (He.ga K r.1)) (.ref (He.ga K r.2.1)) = some r.2.2 := fun r hr => by
  rcases List.mem_cons.mp hr with rfl | hr
  · exact h
  · exact t r hr
/-! ### list.index -/
def idxOf (ds : List PyData) (d : PyData) : Option Nat := ds.findIdx? fun z => PyData.eqv z d
def mIndex : D → List D → HC → Res D
  | .ref n, [y], h => (match toPy h 9 (.ref n), toPy h 9 y with
    | some (.list ds), some d => (match idxOf ds d with
      | some j => .ok (.int (j : Int)) h
      | none => .bad)
    | _, _ => .bad)
  | _, _, _ => .bad
theorem ms_index {K : PySem.W.Frag} : MtS K (rIndexD K) mIndex := by
  intro W σ m h H d ds v vs Q S rd r p
  unfold mIndex at p
  split at p
  · split at p
    · rename_i n y h ps z e1 e2
      split at p
      · rename_i j hj
        obtain ⟨u, rfl, ru⟩ := r.one
        have rd' := rd
        simp only [RelD] at rd'
        obtain ⟨a, ha, rfl⟩ := rd'
        have q1 := toPy_ok S _ _ _ _ rd e1
        have q2 := toPy_ok S _ _ _ _ ru e2
        obtain ⟨hlt, hy, hno⟩ := List.findIdx?_eq_some_iff_getElem.mp hj
        refine ⟨a, u, z, ps, j, ps[j], rfl, rfl, q1, q2, toPy_shaped (by decide) e1, toPy_shaped (by decide) e2, List.getElem?_eq_getElem hlt, hy, fun i z' hi e => ?_, p _ _ _ Ext.refl S (by simp [RelD])⟩
        have hi2 : i < ps.length := by omega
        rw [List.getElem?_eq_getElem hi2] at e
        cases e
        simpa using hno i hi
      · exact p.elim
    · exact p.elim
  · exact p.elim
/-! ### x, y = a, b -/
def fPar (i j : Nat) (as : EA) : ES := fun s h => ofR s (as s h) fun xs h1 => match xs with
  | [a, b] => .nx ((s.set i (some a)).set j (some b)) h1
  | _ => .bad
section
variable {X : Cx} {W : WX}
theorem ss_par {i j : Nat} {x y : Str} {a b : Expr} {as : EA} {px py pt pos : Pos} {kt k2 pt2} (hc : X.calm = true) (hN : X.N.Nodup) (ha : PA X [a, b] (rA X.K W as)) (hi : X.N[i]? = some x := by rfl) (hj : X.N[j]? = some y := by rfl) (hij : i ≠ j := by decide)
    (hx : X.env.scope.names.lookup x = some .local := by rfl) (hy : X.env.scope.names.lookup y = some .local := by rfl)
    (hw : swappedStores [.Tuple [.Name x px, .Name y py] kt pt] (.Tuple [a, b] k2 pt2) X.env = pure (some [x, y]) := by rfl)
    (hs : swapsWithSole [.Tuple [.Name x px, .Name y py] kt pt] (.Tuple [a, b] k2 pt2) pos.line X.env = pure false := by rfl) :
    PS X (.Assign [.Tuple [.Name x px, .Name y py] kt pt] (.Tuple [a, b] k2 pt2) pos) (rS X.K W (fPar i j as)) :=
  PSw (ps_par hc hN hi hj hij hx hy ha hw hs) fun En σ H q => by
    refine rd_mono (rS_bind (R := RelDs) (f := as) (g := fun xs s h1 => match xs with | [a, b] => .nx ((s.set i (some a)).set j (some b)) h1 | _ => .bad) q) fun vs H1 ⟨m1, s, h1, d1, S1, r1, q1, p1⟩ => ?_
    split at p1
    · obtain ⟨v, w, rfl, rv, rw'⟩ := q1.two
      exact ⟨v, w, rfl, p1 _ _ _ Ext.refl S1 ((r1.set rv).set rw')⟩
    · exact p1.elim
end
end G9

set_option Elab.async false
set_option linter.all false
set_option maxRecDepth 100000
set_option maxHeartbeats 0
namespace G9
open PySem L2

def tabL : Tab := tabOf [("NoCode", "NoText", false), ("NoCode", "NoDeeds", false), ("NoCode", "NoCount", false), ("NoCode", "NoHouse", false), ("NoCode", "NoCode", true), ("NoCode", "NoSetting", false), ("NoCount", "NoText", false), ("NoCount", "NoDeeds", false), ("NoCount", "NoCount", true), ("NoCount", "NoHouse", false), ("NoCount", "NoCode", false), ("NoCount", "NoSetting", false), ("NoHouse", "NoText", false), ("NoHouse", "NoDeeds", false), ("NoHouse", "NoCount", false), ("NoHouse", "NoHouse", true), ("NoHouse", "NoCode", false), ("NoHouse", "NoSetting", false), ("NoSetting", "NoText", false), ("NoSetting", "NoDeeds", false), ("NoSetting", "NoCount", false), ("NoSetting", "NoHouse", false), ("NoSetting", "NoCode", false), ("NoSetting", "NoSetting", true)]
def m_law_beats : List D → HC → Res D := fnRun 3
    (fSeq (fSet 1 (fLst fNil))
    (fSeq (fFor (fItS (fVar 0)) (gN 2) (fSet 1 (fOp opAdd (fOp opAdd (fVar 1) (fOp opMul (fLst (fCons (fC (.bl true)) fNil)) (fOp opDGet (fDisp [((fC (.str "s")), (fC (.int 1))), ((fC (.str "l")), (fC (.int 3)))]) (fVar 2)))) (fLst (fCons (fC (.bl false)) fNil)))))
    (fRet (fOp opAdd (fVar 1) (fLst (fCons (fC (.bl false)) (fCons (fC (.bl false)) (fCons (fC (.bl false)) fNil))))))))
def m_law_all_codes : List D → HC → Res D := fnRun 5
    (fSeq (fPar 0 1 (fCons (fLst fNil) (fCons (fLst (fCons (fC (.str "")) fNil)) fNil)))
    (fSeq (fFor (fItR1 (fC (.int 4))) (gN 2) (fSeq (fSet 1 (fOp opAdd (fLc (fItL (fVar 1)) [3] (gN 3) fYes (fOp opAdd (fVar 3) (fC (.str "l")))) (fLc (fItL (fVar 1)) [3] (gN 3) fYes (fOp opAdd (fVar 3) (fC (.str "s"))))))
    (fSet 0 (fOp opAdd (fVar 0) (fVar 1)))))
    (fRet (fLc (fItL (fCl bSortA (fCons (fLc (fItL (fVar 0)) [3] (gN 3) fYes (fTup (fCons (fCl bLen (fCons (fCall 1 m_law_beats (fCons (fVar 3) fNil)) fNil)) (fCons (fVar 3) fNil)))) fNil))) [4, 3] (gT (gsC (gN 4) (gsC (gN 3) gsN))) fYes (fVar 3)))))
def m_law_cell : List D → HC → Res D := fnRun 2
    (fSeq (fIfS (fBo (fOp opLt (fVar 1) (fCl bLen (fCons (fVar 0) fNil)))) (fRet (fOp opIx (fVar 0) (fVar 1))) fNx)
    (fRet (fC (.int 0))))
def m_all_codes : List D → HC → Res D := fnRun 4
    (fSeq (fSet 0 (fLst (fCons (fC (.str "")) fNil)))
    (fSeq (fSet 1 (fLst fNil))
    (fSeq (fFor (fItR1 (fC (.int 4))) (gN 2) (fSeq (fSet 0 (fOp opAdd (fLc (fItL (fVar 0)) [3] (gN 3) fYes (fOp opAdd (fVar 3) (fC (.str "l")))) (fLc (fItL (fVar 0)) [3] (gN 3) fYes (fOp opAdd (fVar 3) (fC (.str "s"))))))
    (fExpr (fMt "list" mExtend (fVar 1) (fCons (fVar 0) fNil)))))
    (fRet (fVar 1)))))
def m_beats : List D → HC → Res D := fnRun 3
    (fSeq (fSet 1 (fLst fNil))
    (fSeq (fFor (fItS (fVar 0)) (gN 2) (fExpr (fMt "list" mExtend (fVar 1) (fCons (fOp opAdd (fOp opMul (fLst (fCons (fC (.bl true)) fNil)) (fIf (fBo (fOp opEq (fVar 2) (fC (.str "l")))) (fC (.int 3)) (fC (.int 1)))) (fLst (fCons (fC (.bl false)) fNil))) fNil))))
    (fRet (fOp opAdd (fVar 1) (fOp opMul (fLst (fCons (fC (.bl false)) fNil)) (fOp opSub (fC (.int 4)) (fC (.int 1))))))))
def m_book : List D → HC → Res D := fnRun 2
    (fRet (fLc (fItL (fCl bSortA (fCons (fLc (fItL (fCall0 m_all_codes)) [1] (gN 1) fYes (fTup (fCons (fCl bLen (fCons (fCall 1 m_beats (fCons (fVar 1) fNil)) fNil)) (fCons (fVar 1) fNil)))) fNil))) [0, 1] (gT (gsC (gN 0) (gsC (gN 1) gsN))) fYes (fVar 1)))
def m_is_within : List D → HC → Res D := fnRun 3
    (fRet (fAndV (fIsi "int" (fVar 0)) (fAndV (fNotV (fIsi "bool" (fVar 0))) (fChain opLe opLe (fVar 1) (fVar 0) (fVar 2)))))
def m_code_at : List D → HC → Res D := fnRun 2
    (fSeq (fSet 1 (fCall0 m_book))
    (fSeq (fIfS (fNot (fTru (fCall 3 m_is_within (fCons (fVar 0) (fCons (fC (.int 0)) (fCons (fOp opSub (fCl bLen (fCons (fVar 1) fNil)) (fC (.int 1))) fNil)))))) (fRaise "NoCount") fNx)
    (fRet (fOp opIx (fVar 1) (fVar 0)))))
def m_is_code : List D → HC → Res D := fnRun 2
    (fSeq (fIfS (fOr (fNot (fTru (fIsi "str" (fVar 0)))) (fNot (fBo (fChain opLe opLe (fC (.int 1)) (fCl bLen (fCons (fVar 0) fNil)) (fC (.int 4)))))) (fRet (fC (.bl false))) fNx)
    (fRet (fNotV (fLc (fItS (fVar 0)) [1] (gN 1) (fBo (fOp opNotIn (fVar 1) (fC (.str "sl")))) (fVar 1)))))
def m_number_of_code : List D → HC → Res D := fnRun 1
    (fSeq (fIfS (fNot (fTru (fCall 1 m_is_code (fCons (fVar 0) fNil)))) (fRaise "NoCode") fNx)
    (fRet (fMt "list" mIndex (fCall0 m_book) (fCons (fVar 0) fNil))))
def m_law_pick : List D → HC → Res D := fnRun 2
    (fRet (fOp opMod (fOp opDiv (fVar 0) (fC (.int 97))) (fVar 1)))
def m_law_seed : List D → HC → Res D := fnRun 2
    (fRet (fOp opMod (fOp opPow (fOp opMod (fOp opAdd (fOp opAdd (fOp opMul (fVar 0) (fC (.int 1103515245))) (fOp opMul (fC (.int 7919)) (fVar 1))) (fC (.int 12345))) (fC (.int 2147483647))) (fC (.int 5))) (fC (.int 2147483647))))
def m_law_code : List D → HC → Res D := fnRun 2
    (fRet (fMt "str" mJoin (fC (.str "")) (fCons (fLc (fItR1 (fOp opAdd (fC (.int 1)) (fOp opMod (fOp opDiv (fVar 0) (fC (.int 5))) (fC (.int 4))))) [1] (gN 1) fYes (fOp opIx (fC (.str "sl")) (fCall 2 m_law_pick (fCons (fCall 2 m_law_seed (fCons (fVar 0) (fCons (fVar 1) fNil))) (fCons (fC (.int 2)) fNil))))) fNil)))
def m_ticks_for : List D → HC → Res D := fnRun 1
    (fSeq (fIfS (fNot (fTru (fCall 1 m_is_code (fCons (fVar 0) fNil)))) (fRaise "NoCode") fNx)
    (fRet (fCl bLen (fCons (fCall 1 m_beats (fCons (fVar 0) fNil)) fNil))))
def m_law_setting : List D → HC → Res D := fnRun 4
    (fSeq (fSet 1 (fLst fNil))
    (fSeq (fFor (fItR1 (fOp opAdd (fC (.int 2)) (fOp opMod (fOp opDiv (fVar 0) (fC (.int 7))) (fC (.int 7))))) (gN 2) (fSeq (fSet 3 (fCall 1 m_law_code (fCons (fCall 2 m_law_seed (fCons (fVar 0) (fCons (fOp opAdd (fC (.int 10)) (fVar 2)) fNil))) fNil)))
    (fIfS (fBo (fOp opNotIn (fVar 3) (fVar 1))) (fExpr (fMt "list" mAppend (fVar 1) (fCons (fVar 3) fNil))) fNx)))
    (fSeq (fIfS (fBo (fOp opLt (fCl bLen (fCons (fVar 1) fNil)) (fC (.int 2)))) (fSet 1 (fOp opAdd (fVar 1) (fSl (fLc (fItT (fTup (fCons (fC (.str "sl")) (fCons (fC (.str "ls")) fNil)))) [3] (gN 3) (fBo (fOp opNotIn (fVar 3) (fVar 1))) (fVar 3)) fNoP (fPart (fC (.int 1)))))) fNx)
    (fRet (fTup (fCons (fCl bTuple (fCons (fVar 1) fNil)) (fCons (fOp opEq (fOp opMod (fOp opDiv (fVar 0) (fC (.int 11))) (fC (.int 2))) (fC (.int 0))) (fCons (fOp opAdd (fC (.int 1)) (fCall 2 m_law_pick (fCons (fCall 2 m_law_seed (fCons (fVar 0) (fCons (fC (.int 30)) fNil))) (fCons (fOp opIx (fLst (fCons (fC (.int 60)) (fCons (fC (.int 9)) fNil))) (fOp opMod (fOp opDiv (fVar 0) (fC (.int 13))) (fC (.int 2)))) fNil)))) fNil))))))))
def m_law_mix : List D → HC → Res D := fnRun 3
    (fRet (fOp opMod (fOp opMod (fOp opPow (fOp opMod (fOp opMul (fVar 0) (fC (.int 48271))) (fVar 1)) (fC (.int 3))) (fVar 1)) (fVar 2)))
def m_whole_ticks : List D → HC → Res D := fnRun 5
    (fSeq (fIfS (fOr (fNot (fTru (fIsi "list" (fVar 0)))) (fOr (fNot (fBo (fChain opLe opLe (fC (.int 2)) (fCl bLen (fCons (fVar 0) fNil)) (fC (.int 8))))) (fTru (fLc (fItL (fVar 0)) [2] (gN 2) (fNot (fTru (fCall 3 m_is_within (fCons (fVar 2) (fCons (fC (.int 0)) (fCons (fC (.int 999)) fNil)))))) (fVar 2))))) (fRaise "NoCount") fNx)
    (fSeq (fIfS (fOr (fNot (fTru (fIsi "tuple" (fVar 1)))) (fOr (fBo (fOp opNe (fCl bLen (fCons (fVar 1) fNil)) (fCl bLen (fCons (fVar 0) fNil)))) (fTru (fLc (fItT (fVar 1)) [3] (gN 3) (fNot (fTru (fCall 1 m_is_code (fCons (fVar 3) fNil)))) (fVar 3))))) (fRaise "NoCode") fNx)
    (fSeq (fIfS (fBo (fOp opNe (fLenSet (fVar 1)) (fCl bLen (fCons (fVar 1) fNil)))) (fRaise "NoCode") fNx)
    (fRet (fCl bSum (fCons (fLc (fItZM (fVar 0) (fVar 1)) [4, 3] (gT (gsC (gN 4) (gsC (gN 3) gsN))) fYes (fOp opMul (fVar 4) (fCl bLen (fCons (fCall 1 m_beats (fCons (fVar 3) fNil)) fNil)))) fNil))))))
def m_law_whole : List D → HC → Res D := fnRun 1
    (fRet (fAndV (fIsi "int" (fVar 0)) (fNotV (fIsi "bool" (fVar 0)))))
def m_is_setting : List D → HC → Res D := fnRun 2
    (fSeq (fIfS (fOr (fNot (fTru (fIsi "tuple" (fVar 0)))) (fOr (fBo (fOp opNe (fCl bLen (fCons (fVar 0) fNil)) (fC (.int 3)))) (fNot (fTru (fIsi "tuple" (fOp opIx (fVar 0) (fC (.int 0)))))))) (fRet (fC (.bl false))) fNx)
    (fSeq (fIfS (fOr (fNot (fBo (fChain opLe opLe (fC (.int 2)) (fCl bLen (fCons (fOp opIx (fVar 0) (fC (.int 0))) fNil)) (fC (.int 8))))) (fTru (fLc (fItT (fOp opIx (fVar 0) (fC (.int 0)))) [1] (gN 1) (fNot (fTru (fCall 1 m_is_code (fCons (fVar 1) fNil)))) (fVar 1)))) (fRet (fC (.bl false))) fNx)
    (fSeq (fIfS (fBo (fOp opNe (fLenSet (fOp opIx (fVar 0) (fC (.int 0)))) (fCl bLen (fCons (fOp opIx (fVar 0) (fC (.int 0))) fNil)))) (fRet (fC (.bl false))) fNx)
    (fRet (fAndV (fIsi "bool" (fOp opIx (fVar 0) (fC (.int 1)))) (fCall 3 m_is_within (fCons (fOp opIx (fVar 0) (fC (.int 2))) (fCons (fC (.int 1)) (fCons (fC (.int 60)) fNil)))))))))
def m_look : List D → HC → Res D := fnRun 1
    (fIfS (fNot (fTru (fCall 1 m_is_setting (fCons (fVar 0) fNil)))) (fRaise "NoSetting") fNx)
def m_look_house : List D → HC → Res D := fnRun 2
    (fIfS (fNot (fTru (fCall 3 m_is_within (fCons (fVar 1) (fCons (fC (.int 0)) (fCons (fOp opSub (fCl bLen (fCons (fOp opIx (fVar 0) (fC (.int 0))) fNil)) (fC (.int 1))) fNil)))))) (fRaise "NoHouse") fNx)
def m_ring : List D → HC → Res D := fnRun 4
    (fSeq (fIfS (fNot (fTru (fCall 1 m_is_code (fCons (fVar 0) fNil)))) (fRaise "NoCode") fNx)
    (fSeq (fIfS (fNot (fTru (fCall 3 m_is_within (fCons (fVar 1) (fCons (fC (.int 0)) (fCons (fC (.int 400)) fNil)))))) (fRaise "NoCount") fNx)
    (fSeq (fSet 2 (fCall 1 m_beats (fCons (fVar 0) fNil)))
    (fRet (fLc (fItR1 (fVar 1)) [3] (gN 3) fYes (fOp opIx (fVar 2) (fOp opMod (fVar 3) (fCl bLen (fCons (fVar 2) fNil)))))))))
def m_apart_behind : List D → HC → Res D := fnRun 6
    (fSeq (fExpr (fCall 1 m_look (fCons (fVar 0) fNil)))
    (fSeq (fExpr (fCall 2 m_look_house (fCons (fVar 0) (fCons (fVar 1) fNil))))
    (fSeq (fExpr (fCall 2 m_look_house (fCons (fVar 0) (fCons (fVar 2) fNil))))
    (fSeq (fIfS (fBo (fOp opEq (fVar 1) (fVar 2))) (fRaise "NoHouse") fNx)
    (fSeq (fSet 3 (fCall 2 m_ring (fCons (fOp opIx (fOp opIx (fVar 0) (fC (.int 0))) (fVar 1)) (fCons (fC (.int 400)) fNil))))
    (fSeq (fSet 4 (fCall 2 m_ring (fCons (fOp opIx (fOp opIx (fVar 0) (fC (.int 0))) (fVar 2)) (fCons (fC (.int 400)) fNil))))
    (fSeq (fSet 5 (fC (.int 0)))
    (fSeq (fWhile (fBo (fOp opEq (fSl (fVar 3) fNoP (fPart (fVar 5))) (fSl (fVar 4) fNoP (fPart (fVar 5))))) (fAugI (fun a b => a + b) 5 (fC (.int 1))) 1000)
    (fRet (fVar 5))))))))))
def m_mistaken : List D → HC → Res D := fnRun 7
    (fSeq (fExpr (fCall 1 m_look (fCons (fVar 0) fNil)))
    (fSeq (fIfS (fNot (fTru (fCall 3 m_is_within (fCons (fVar 1) (fCons (fC (.int 0)) (fCons (fC (.int 400)) fNil)))))) (fRaise "NoCount") fNx)
    (fSeq (fSet 2 (fLc (fItT (fOp opIx (fVar 0) (fC (.int 0)))) [5] (gN 5) fYes (fCall 2 m_ring (fCons (fVar 5) (fCons (fVar 1) fNil)))))
    (fSeq (fSet 3 (fLst fNil))
    (fSeq (fFor (fItR1 (fCl bLen (fCons (fVar 2) fNil))) (gN 4) (fExpr (fMt "list" mExtend (fVar 3) (fCons (fLc (fItR1 (fVar 4)) [6] (gN 6) (fBo (fOp opEq (fOp opIx (fVar 2) (fVar 6)) (fOp opIx (fVar 2) (fVar 4)))) (fTup (fCons (fVar 6) (fCons (fVar 4) fNil)))) fNil))))
    (fRet (fCl bSortA (fCons (fVar 3) fNil))))))))
def m_meant : List D → HC → Res D := fnRun 5
    (fSeq (fExpr (fCall 1 m_look (fCons (fVar 0) fNil)))
    (fSeq (fIfS (fOr (fNot (fTru (fIsi "list" (fVar 1)))) (fOr (fBo (fOp opGt (fCl bLen (fCons (fVar 1) fNil)) (fC (.int 400)))) (fTru (fLc (fItL (fVar 1)) [2] (gN 2) (fNot (fTru (fIsi "bool" (fVar 2)))) (fVar 2))))) (fRaise "NoCode") fNx)
    (fRet (fLc (fItET (fOp opIx (fVar 0) (fC (.int 0)))) [3, 4] (gT (gsC (gN 3) (gsC (gN 4) gsN))) (fBo (fOp opEq (fCall 2 m_ring (fCons (fVar 4) (fCons (fCl bLen (fCons (fVar 1) fNil)) fNil))) (fVar 1))) (fVar 3)))))
def m_sure_behind : List D → HC → Res D := fnRun 4
    (fSeq (fExpr (fCall 1 m_look (fCons (fVar 0) fNil)))
    (fSeq (fExpr (fCall 2 m_look_house (fCons (fVar 0) (fCons (fVar 1) fNil))))
    (fSeq (fSet 2 (fCall 2 m_ring (fCons (fOp opIx (fOp opIx (fVar 0) (fC (.int 0))) (fVar 1)) (fCons (fC (.int 400)) fNil))))
    (fSeq (fSet 3 (fC (.int 0)))
    (fSeq (fWhile (fBo (fOp opNe (fCall 2 m_meant (fCons (fVar 0) (fCons (fSl (fVar 2) fNoP (fPart (fVar 3))) fNil))) (fLst (fCons (fVar 1) fNil)))) (fAugI (fun a b => a + b) 3 (fC (.int 1))) 1000)
    (fRet (fVar 3)))))))
def m_all_sure_behind : List D → HC → Res D := fnRun 2
    (fSeq (fExpr (fCall 1 m_look (fCons (fVar 0) fNil)))
    (fRet (fCl bMax (fCons (fLc (fItR1 (fCl bLen (fCons (fOp opIx (fVar 0) (fC (.int 0))) fNil))) [1] (gN 1) fYes (fCall 2 m_sure_behind (fCons (fVar 0) (fCons (fVar 1) fNil)))) fNil))))
def m_law_called : List D → HC → Res D := fnRun 2
    (fSeq (fIfS (fBo (fOp opLt (fVar 0) (fC (.int 3)))) (fSeq (fIfS (fBo (fOp opEq (fVar 0) (fC (.int 0)))) (fRet (fCall 3 m_apart_behind (fCons (fOp opIx (fVar 1) (fC (.int 0))) (fCons (fOp opIx (fVar 1) (fC (.int 1))) (fCons (fOp opIx (fVar 1) (fC (.int 2))) fNil))))) fNx)
    (fRet (fIf (fBo (fOp opEq (fVar 0) (fC (.int 1)))) (fCall 2 m_mistaken (fCons (fOp opIx (fVar 1) (fC (.int 0))) (fCons (fOp opIx (fVar 1) (fC (.int 1))) fNil))) (fCall 1 m_all_sure_behind (fCons (fOp opIx (fVar 1) (fC (.int 0))) fNil))))) fNx)
    (fSeq (fIfS (fBo (fOp opLt (fVar 0) (fC (.int 6)))) (fRet (fIf (fBo (fOp opEq (fVar 0) (fC (.int 3)))) (fCall 1 m_ticks_for (fCons (fOp opIx (fVar 1) (fC (.int 0))) fNil)) (fIf (fBo (fOp opEq (fVar 0) (fC (.int 4)))) (fCall 1 m_code_at (fCons (fOp opIx (fVar 1) (fC (.int 0))) fNil)) (fCall 1 m_number_of_code (fCons (fOp opIx (fVar 1) (fC (.int 0))) fNil))))) fNx)
    (fRet (fCall 2 m_whole_ticks (fCons (fOp opIx (fVar 1) (fC (.int 0))) (fCons (fOp opIx (fVar 1) (fC (.int 1))) fNil))))))
def m_law_caught : List D → HC → Res D := fnRun 3
    (fSeq (fSet 2 (fC (.str "")))
    (fSeq (fTry tabL (fIfS (fBo (fOp opLt (fVar 0) (fC (.int 7)))) (fExpr (fCall 2 m_law_called (fCons (fVar 0) (fCons (fVar 1) fNil)))) fBadS)
    [("NoSetting", (fSet 2 (fC (.str "setting")))), ("NoCode", (fSet 2 (fC (.str "code")))), ("NoHouse", (fSet 2 (fC (.str "house")))), ("NoCount", (fSet 2 (fC (.str "count")))), ("NoDeeds", (fSet 2 (fC (.str "deeds")))), ("NoText", (fSet 2 (fC (.str "text"))))])
    (fRet (fVar 2))))
def m_law : List D → HC → Res D := fnRun 11
    (fSeq (fSet 1 (fCall0 m_law_all_codes))
    (fSeq (fSet 2 (fOp opMod (fCall 2 m_law_cell (fCons (fVar 0) (fCons (fC (.int 0)) fNil))) (fC (.int 30))))
    (fSeq (fIfS (fOr (fBo (fOp opNe (fCl bLen (fCons (fVar 1) fNil)) (fC (.int 30)))) (fOr (fBo (fOp opNe (fCall 1 m_code_at (fCons (fVar 2) fNil)) (fOp opIx (fVar 1) (fVar 2)))) (fBo (fOp opNe (fCall 1 m_number_of_code (fCons (fOp opIx (fVar 1) (fVar 2)) fNil)) (fVar 2))))) (fRet (fC (.bl false))) fNx)
    (fSeq (fSet 3 (fCall 1 m_law_code (fCons (fCall 2 m_law_seed (fCons (fCall 2 m_law_cell (fCons (fVar 0) (fCons (fC (.int 1)) fNil))) (fCons (fC (.int 1)) fNil))) fNil)))
    (fSeq (fIfS (fOr (fBo (fOp opNe (fCall 1 m_ticks_for (fCons (fVar 3) fNil)) (fCl bLen (fCons (fCall 1 m_law_beats (fCons (fVar 3) fNil)) fNil)))) (fBo (fOp opNe (fCall 1 m_number_of_code (fCons (fVar 3) fNil)) (fMt "list" mIndex (fVar 1) (fCons (fVar 3) fNil))))) (fRet (fC (.bl false))) fNx)
    (fSeq (fSet 4 (fCall 1 m_law_setting (fCons (fCall 2 m_law_seed (fCons (fCall 2 m_law_cell (fCons (fVar 0) (fCons (fC (.int 2)) fNil))) (fCons (fC (.int 0)) fNil))) fNil)))
    (fSeq (fSet 5 (fLc (fItR1 (fCl bLen (fCons (fOp opIx (fVar 4) (fC (.int 0))) fNil))) [8] (gN 8) fYes (fCall 3 m_law_mix (fCons (fOp opAdd (fCall 2 m_law_cell (fCons (fVar 0) (fCons (fC (.int 3)) fNil))) (fOp opMul (fC (.int 41)) (fVar 8))) (fCons (fC (.int 9949)) (fCons (fOp opIx (fLst (fCons (fC (.int 1000)) (fCons (fC (.int 3)) fNil))) (fOp opMod (fVar 8) (fC (.int 2)))) fNil))))))
    (fSeq (fSet 6 (fCl bSum (fCons (fLc (fItZM (fVar 5) (fOp opIx (fVar 4) (fC (.int 0)))) [9, 10] (gT (gsC (gN 9) (gsC (gN 10) gsN))) fYes (fOp opMul (fVar 9) (fCl bLen (fCons (fCall 1 m_law_beats (fCons (fVar 10) fNil)) fNil)))) fNil)))
    (fSeq (fIfS (fOr (fBo (fOp opNe (fCall 2 m_whole_ticks (fCons (fCl bList (fCons (fVar 5) fNil)) (fCons (fOp opIx (fVar 4) (fC (.int 0))) fNil))) (fVar 6))) (fNot (fTru (fCall 1 m_law_whole (fCons (fCall 2 m_whole_ticks (fCons (fCl bList (fCons (fVar 5) fNil)) (fCons (fOp opIx (fVar 4) (fC (.int 0))) fNil))) fNil))))) (fRet (fC (.bl false))) fNx)
    (fSeq (fSet 7 (fLst (fCons (fC .non) (fCons (fSl (fOp opIx (fVar 4) (fC (.int 0))) (fPart (fC (.int 1))) fNoP) (fCons (fOp opMul (fSl (fOp opIx (fVar 4) (fC (.int 0))) fNoP (fPart (fC (.int 1)))) (fCl bLen (fCons (fVar 5) fNil))) (fCons (fCl bList (fCons (fOp opIx (fVar 4) (fC (.int 0))) fNil)) (fCons (fOp opAdd (fSl (fOp opIx (fVar 4) (fC (.int 0))) (fPart (fC (.int 1))) fNoP) (fTup (fCons (fC (.str "x")) fNil))) fNil)))))))
    (fSeq (fIfS (fBo (fOp opNe (fCall 2 m_law_caught (fCons (fC (.int 6)) (fCons (fLst (fCons (fCl bList (fCons (fVar 5) fNil)) (fCons (fOp opIx (fVar 7) (fOp opMod (fCall 2 m_law_cell (fCons (fVar 0) (fCons (fC (.int 4)) fNil))) (fC (.int 5)))) fNil))) fNil))) (fC (.str "code")))) (fRet (fC (.bl false))) fNx)
    (fSeq (fSet 7 (fOp opIx (fLst (fCons (fC (.int 30)) (fCons (fNeg (fC (.int 1))) (fCons (fC .non) (fCons (fC (.bl true)) (fCons (fC (.str "3")) fNil)))))) (fOp opMod (fCall 2 m_law_cell (fCons (fVar 0) (fCons (fC (.int 5)) fNil))) (fC (.int 5)))))
    (fRet (fAndV (fOp opEq (fCall 2 m_law_caught (fCons (fC (.int 4)) (fCons (fLst (fCons (fVar 7) fNil)) fNil))) (fC (.str "count"))) (fOp opEq (fCall 2 m_law_caught (fCons (fC (.int 5)) (fCons (fLst (fCons (fC (.str "slsls")) fNil)) fNil))) (fC (.str "code")))))))))))))))))
end G9


set_option Elab.async false
set_option linter.all false
set_option maxRecDepth 100000
set_option maxHeartbeats 0
namespace G9
open PySem L2
def itR1 (x : D) (h1 : HC) : Res (List D × List (Nat × Cell)) := match x with
  | .int j => if -(2 ^ 62) ≤ j ∧ j < 2 ^ 62 then .ok (rngD 0 j.toNat, []) h1 else .bad
  | _ => .bad
def itR2 (x y : D) (h2 : HC) : Res (List D × List (Nat × Cell)) := match x, y with
  | .int i, .int j => if -(2 ^ 62) ≤ i ∧ i < 2 ^ 62 ∧ -(2 ^ 62) ≤ j ∧ j < 2 ^ 62 then .ok (rngD i (j - i).toNat, []) h2 else .bad
  | _, _ => .bad
section
variable {α β : Type} {a b c : EE} {as : EA} {s : SD} {h h1 : HC} {t t2 : ET} {f g : ES} {d x y : D} {i j : Int} {n m : Nat} {z z2 : Str} {xs ys : List D}
@[simp] theorem bind_ok {r : α} {k : α → HC → Res β} : (Res.ok r h).bind k = k r h := id rfl
@[simp] theorem bind_exc {cc : Str} {k : α → HC → Res β} : (Res.exc cc h : Res α).bind k = .exc cc h := id rfl
@[simp] theorem bind_bad {k : α → HC → Res β} : (Res.bad : Res α).bind k = .bad := id rfl
@[simp] theorem ofR_ok {r : α} {k : α → HC → RS} : ofR s (Res.ok r h) k = k r h := id rfl
@[simp] theorem ofR_exc {cc : Str} {k : α → HC → RS} : ofR s (Res.exc cc h : Res α) k = .exc cc s h := id rfl
@[simp] theorem fVar_ap : fVar n s h = (match s[n]? with | some (some d) => .ok d h | _ => .bad) := id rfl
@[simp] theorem fC_ap : fC d s h = .ok d h := id rfl
@[simp] theorem fOp_ap {op : D → D → HC → Res D} : fOp op a b s h = (a s h).bind fun x h1 => (b s h1).bind fun y h2 => op x y h2 := id rfl
@[simp] theorem fTru_ap : fTru a s h = (a s h).bind fun x h1 => match truD h1 x with | some b => .ok b h1 | none => .bad := id rfl
@[simp] theorem fNot_ap : fNot t s h = (t s h).bind fun b h1 => .ok (!b) h1 := id rfl
@[simp] theorem fAnd_ap : fAnd t t2 s h = (t s h).bind fun x h1 => if x = true then t2 s h1 else .ok false h1 := id rfl
@[simp] theorem fOr_ap : fOr t t2 s h = (t s h).bind fun x h1 => if x = true then .ok true h1 else t2 s h1 := id rfl
@[simp] theorem fNotV_ap : fNotV a s h = (a s h).bind fun x h1 => match truD h1 x with | some b => .ok (.bl (!b)) h1 | none => .bad := id rfl
@[simp] theorem fAndV_ap : fAndV a b s h = (a s h).bind fun x h1 => match truD h1 x with | some k => if k = true then b s h1 else .ok x h1 | none => .bad := id rfl
@[simp] theorem fOrV_ap : fOrV a b s h = (a s h).bind fun x h1 => match truD h1 x with | some k => if k = true then .ok x h1 else b s h1 | none => .bad := id rfl
@[simp] theorem fIf_ap : fIf t a b s h = (t s h).bind fun x h1 => if x = true then a s h1 else b s h1 := id rfl
@[simp] theorem fChain_ap {op op' : D → D → HC → Res D} : fChain op op' a b c s h = (a s h).bind fun x h1 => (b s h1).bind fun y h2 => (op x y h2).bind fun z h3 => (match z with | .bl true => (c s h3).bind fun w h4 => op' y w h4 | .bl false => .ok (.bl false) h3 | _ => .bad) := id rfl
@[simp] theorem fBo_ap : fBo a s h = (a s h).bind fun x h1 => match x with | .bl b => .ok b h1 | _ => .bad := id rfl
@[simp] theorem fNil_ap : fNil s h = .ok [] h := id rfl
@[simp] theorem fCons_ap : fCons a as s h = (a s h).bind fun x h1 => (as s h1).bind fun xs h2 => .ok (x :: xs) h2 := id rfl
@[simp] theorem fTup_ap : fTup as s h = (as s h).bind fun xs h1 => mkT xs h1 := id rfl
@[simp] theorem fLst_ap : fLst as s h = (as s h).bind fun xs h1 => newL xs h1 := id rfl
@[simp] theorem fNoP_ap : fNoP s h = .ok none h := id rfl
@[simp] theorem fPart_ap : fPart a s h = (a s h).bind fun x h1 => match x with | .int i => .ok (some i) h1 | _ => .bad := id rfl
@[simp] theorem fSl_ap {lo hi : EO} : fSl a lo hi s h = (a s h).bind fun x h1 => (lo s h1).bind fun l h2 => (hi s h2).bind fun u h3 => opSl x l u h3 := id rfl
@[simp] theorem fCl_ap {k : List D → HC → Res D} : fCl k as s h = (as s h).bind fun xs h1 => k xs h1 := id rfl
@[simp] theorem fCall_ap {k : List D → HC → Res D} : fCall n k as s h = (as s h).bind fun ds h1 => if ds.length = n then k ds h1 else .bad := id rfl
@[simp] theorem fCall0_ap {k : List D → HC → Res D} : fCall0 k s h = k [] h := id rfl
@[simp] theorem fIsi_ap {cc : String} : fIsi cc a s h = (a s h).bind fun x h1 => match tyName h1 x with | some t => (match isiT t cc with | some b => .ok (.bl b) h1 | none => .bad) | none => .bad := id rfl
@[simp] theorem fMt_ap {T : String} {k : D → List D → HC → Res D} : fMt T k a as s h = (a s h).bind fun x h1 => if hasTy T h1 x = true then (as s h1).bind fun xs h2 => k x xs h2 else .bad := id rfl
@[simp] theorem fMt0_ap {T : String} {k : D → List D → HC → Res D} : fMt0 T k a s h = (a s h).bind fun x h1 => if hasTy T h1 x = true then k x [] h1 else .bad := id rfl
@[simp] theorem fNx_ap : fNx s h = .nx s h := id rfl
@[simp] theorem fSeq_ap : fSeq f g s h = (match f s h with | .nx s1 h1 => g s1 h1 | r => r) := id rfl
@[simp] theorem fExpr_ap : fExpr a s h = ofR s (a s h) fun _ h1 => .nx s h1 := id rfl
@[simp] theorem fRet_ap : fRet a s h = ofR s (a s h) fun d h1 => .ret d h1 := id rfl
@[simp] theorem fRetN_ap : fRetN s h = .ret .non h := id rfl
@[simp] theorem fIfS_ap : fIfS t f g s h = ofR s (t s h) fun x h1 => if x = true then f s h1 else g s h1 := id rfl
@[simp] theorem fSet_ap : fSet n a s h = ofR s (a s h) fun d h1 => .nx (s.set n (some d)) h1 := id rfl
@[simp] theorem fRaise_ap {cc : Str} : fRaise cc s h = .exc cc s h := id rfl
@[simp] theorem fAsg_ap {k : EG} : fAsg k a s h = ofR s (a s h) fun d h1 => match k d s with | some s1 => .nx s1 h1 | none => .bad := id rfl
@[simp] theorem fFor_ap {it : EI} {k : EG} : fFor it k f s h = ofR s (it s h) fun x h1 => forLoop x.2 k f x.1 s h1 := id rfl
@[simp] theorem fLc_ap {it : EI} {k : EG} {own : List Nat} : fLc it own k t a s h = (it s h).bind fun x h1 => (lcLoop x.2 k t a (wipeD s own) x.1 [] h1).bind fun xs h2 => .ok (.ref h2.length) (h2 ++ [.lst xs]) := id rfl
@[simp] theorem fYes_ap : fYes s h = .ok true h := id rfl
@[simp] theorem fItT_ap : fItT a s h = (a s h).bind fun x h1 => match x with | .tup xs => .ok (xs, []) h1 | _ => .bad := id rfl
@[simp] theorem fItS_ap : fItS a s h = (a s h).bind fun x h1 => match x with | .str z => .ok (z.cps.toList.map fun c => .str ⟨#[c]⟩, []) h1 | _ => .bad := id rfl
@[simp] theorem fItL_ap : fItL a s h = (a s h).bind fun x h1 => match x with | .ref n => (match h1[n]? with | some (.lst xs) => .ok (xs, [(n, .lst xs)]) h1 | _ => .bad) | .scr ns => .ok (ns.map D.int, []) h1 | _ => .bad := id rfl
@[simp] theorem fItET_ap : fItET a s h = (a s h).bind fun x h1 => match x with | .tup xs => .ok (enumD xs, []) h1 | _ => .bad := id rfl
@[simp] theorem fItR1_ap : fItR1 a s h = (a s h).bind fun x h1 => itR1 x h1 := id rfl
@[simp] theorem fItR2_ap : fItR2 a b s h = (a s h).bind fun x h1 => (b s h1).bind fun y h2 => itR2 x y h2 := id rfl
@[simp] theorem itR1_nat (e : n ≤ BIG) : itR1 (.int (n : Int)) h = .ok ((List.range n).map fun i : Nat => D.int (i : Int), []) h := by
  have e2 : n ≤ 100000 := e
  unfold itR1
  simp only
  rw [if_pos ⟨by omega, by omega⟩]
  simp [rngD]
theorem itR1_int (e0 : 0 ≤ i) (e : i ≤ 100000) : itR1 (.int i) h = .ok ((List.range i.toNat).map fun i : Nat => D.int (i : Int), []) h := by
  unfold itR1
  simp only
  rw [if_pos ⟨by omega, by omega⟩]
  simp [rngD]
theorem itR2_nat {k : Nat} (e : n ≤ 100000) (e2 : k ≤ 100000) : itR2 (.int (k : Int)) (.int (n : Int)) h = .ok ((List.range (n - k)).map fun i : Nat => D.int ((k : Int) + (i : Int)), []) h := by
  unfold itR2
  simp only
  rw [if_pos ⟨by omega, by omega, by omega, by omega⟩]
  simp [rngD, Int.toNat_sub]
@[simp] theorem fLenSet_ap : fLenSet a s h = (a s h).bind fun x h1 => match x with | .tup ds => (match strsD ds with | some xs => if xs.length ≤ 1000 then .ok (D.int (dn xs)) h1 else .bad | none => .bad) | _ => .bad := id rfl
@[simp] theorem gN_ap : gN n d s = some (s.set n (some d)) := id rfl
@[simp] theorem gT_ap {k : EGs} : gT k (.tup xs) s = k xs s := id rfl
@[simp] theorem gsC_ap {k : EG} {ks : EGs} : gsC k ks (d :: xs) s = (k d s).bind fun s1 => ks xs s1 := id rfl
@[simp] theorem gsN_ap : gsN [] s = some s := id rfl
/-! ops on known shapes -/
@[simp] theorem addI : opAdd (.int i) (.int j) h = .ok (.int (i + j)) h := id rfl
@[simp] theorem subI : opSub (.int i) (.int j) h = .ok (.int (i - j)) h := id rfl
@[simp] theorem mulI : opMul (.int i) (.int j) h = if mulOk i j then .ok (.int (i * j)) h else .bad := id rfl
@[simp] theorem modI : opMod (.int i) (.int j) h = if 0 < j then .ok (.int (i % j)) h else .bad := id rfl
@[simp] theorem divI : opDiv (.int i) (.int j) h = if 0 < j ∧ j < 1073741824 then .ok (.int (i / j)) h else .bad := id rfl
@[simp] theorem powI : opPow (.int i) (.int j) h = if 0 ≤ j ∧ j ≤ 1000000 ∧ i.natAbs < 2 ^ 64 then .ok (.int (i ^ j.toNat)) h else .bad := id rfl
@[simp] theorem cmpI {k : Int → Int → Bool} : opI k (.int i) (.int j) h = .ok (.bl (k i j)) h := id rfl
@[simp] theorem eqI : opEq (.int i) (.int j) h = .ok (.bl (decide (i = j))) h := by
  simp [opEq, toPy, PyData.eqv]
  rw [Bool.eq_iff_iff]
  simp
@[simp] theorem neI : opNe (.int i) (.int j) h = .ok (.bl (!decide (i = j))) h := by
  simp [opNe, toPy, PyData.eqv]
  rw [Bool.eq_iff_iff]
  simp
@[simp] theorem lenT : bLen [.tup xs] h = .ok (.int xs.length) h := id rfl
@[simp] theorem lenR : bLen [.ref n] h = (match asSeq h n with | some xs => .ok (.int xs.length) h | none => .bad) := id rfl
@[simp] theorem lenS : bLen [.str z] h = if z.length ≤ BIG then .ok (.int z.length) h else .bad := id rfl
@[simp] theorem lenScr {ns : List Int} : bLen [.scr ns] h = .ok (.int ns.length) h := id rfl
@[simp] theorem ixT : opIx (.tup xs) (.int i) h = (match atI xs i with | some d => .ok d h | none => .bad) := id rfl
@[simp] theorem ixR : opIx (.ref n) (.int i) h = (match asSeq h n with | some xs => (match atI xs i with | some d => .ok d h | none => .bad) | none => .bad) := id rfl
@[simp] theorem ixS : opIx (.str z) (.int i) h = if z.length ≤ BIG then (match atI z.cps.toList i with | some c => .ok (.str ⟨#[c]⟩) h | none => .bad) else .bad := id rfl
@[simp] theorem ixScr {ns : List Int} : opIx (.scr ns) (.int i) h = (match atI ns i with | some n => .ok (.int n) h | none => .bad) := id rfl
@[simp] theorem tru_bl {v : Bool} : truD h (.bl v) = some v := id rfl
@[simp] theorem tru_ref : truD h (.ref n) = (match h[n]? with | some (.lst xs) => some (!xs.isEmpty) | some (.dk xs) => some (!xs.isEmpty) | _ => none) := id rfl
@[simp] theorem ty_int : tyName h (.int i) = some "int" := id rfl
@[simp] theorem ty_bl {v : Bool} : tyName h (.bl v) = some "bool" := id rfl
@[simp] theorem ty_str : tyName h (.str z) = some "str" := id rfl
@[simp] theorem ty_tup : tyName h (.tup xs) = some "tuple" := id rfl
@[simp] theorem ty_ref : tyName h (.ref n) = (match h[n]? with | some (.lst _) => some "list" | some (.dk _) => some "dict" | some (.dt _) => some "dict" | _ => none) := id rfl
@[simp] theorem isi1 : isiT "int" "int" = some true := by decide +kernel
@[simp] theorem isi2 : isiT "int" "bool" = some false := by decide +kernel
@[simp] theorem isi3 : isiT "str" "str" = some true := by decide +kernel
@[simp] theorem isi4 : isiT "tuple" "tuple" = some true := by decide +kernel
@[simp] theorem isi5 : isiT "bool" "bool" = some true := by decide +kernel
@[simp] theorem isi6 : isiT "list" "list" = some true := by decide +kernel
@[simp] theorem mkT_ok' (e : xs.length ≤ BIG) : mkT xs h = .ok (.tup xs) h := if_pos e
@[simp] theorem newL_ok' (e : xs.length ≤ BIG) : newL xs h = .ok (.ref h.length) (h ++ [.lst xs]) := if_pos e
theorem BIG_eq : BIG = 100000 := rfl
@[simp] theorem asSeq_of (e : h[n]? = some (.lst xs)) : asSeq h n = some xs := by simp [asSeq, e]
end
theorem atI_nat {α : Type} {xs : List α} {k : Nat} {x : α} (e : xs[k]? = some x) : atI xs (k : Int) = some x := by
  have hk : k < xs.length := (List.getElem?_eq_some_iff.mp e).1
  simp [atI, ixN, hk]
  exact (List.getElem?_eq_some_iff.mp e).2
theorem atI_int {α : Type} {xs : List α} {i : Int} {x : α} (h0 : 0 ≤ i) (e : xs[i.toNat]? = some x) : atI xs i = some x := by
  have := atI_nat e
  rwa [Int.toNat_of_nonneg h0] at this

@[simp] theorem big1 : 1 ≤ BIG := by decide
@[simp] theorem big2 : 2 ≤ BIG := by decide
@[simp] theorem big3 : 3 ≤ BIG := by decide
@[simp] theorem big4 : 4 ≤ BIG := by decide
@[simp] theorem big5 : 5 ≤ BIG := by decide
@[simp] theorem big6 : 6 ≤ BIG := by decide
@[simp] theorem big7 : 7 ≤ BIG := by decide
@[simp] theorem big8 : 8 ≤ BIG := by decide
/-! heaps grow -/
def Le (h h' : HC) : Prop := ∃ e, h' = h ++ e
theorem Le.refl {h : HC} : Le h h := ⟨[], by simp⟩
theorem Le.trans {h h1 h2 : HC} (a : Le h h1) (b : Le h1 h2) : Le h h2 := by
  obtain ⟨e, rfl⟩ := a
  obtain ⟨f, rfl⟩ := b
  exact ⟨e ++ f, by simp⟩
theorem Le.app {h e : HC} : Le h (h ++ e) := ⟨e, rfl⟩
theorem Le.get {h h' : HC} {n : Nat} {c : Cell} (a : Le h h') (e : h[n]? = some c) : h'[n]? = some c := by
  obtain ⟨f, rfl⟩ := a
  rw [List.getElem?_append_left (List.getElem?_eq_some_iff.mp e).1]
  exact e
theorem last_get {h : HC} {c : Cell} : (h ++ [c])[h.length]? = some c := by simp

/-- with n cells below, what stands there stays; above it may change -/
theorem m_is_within_ok {h : HC} {i lo hi : Int} : m_is_within [.int i, .int lo, .int hi] h = .ok (.bl (decide (lo ≤ i) && decide (i ≤ hi))) h := by
  simp [m_is_within, fnRun]
  by_cases e : lo ≤ i <;> simp [e]
end G9

set_option Elab.async false
set_option linter.all false
set_option maxRecDepth 100000
set_option maxHeartbeats 0
namespace G9
open PySem L2
/-! ### whole data that are alike -/
theorem optAll_map {α β : Type} {f : α → Option β} {g : α → β} : ∀ {xs : List α}, (∀ x ∈ xs, f x = some (g x)) → optAll (xs.map f) = some (xs.map g)
  | [], _ => rfl
  | x :: xs, e => by
    have h1 := e x (by simp)
    have h2 := optAll_map (f := f) (g := g) (xs := xs) fun y hy => e y (by simp [hy])
    simp [optAll, h1, h2]
theorem toPy_ref {h : HC} {k n : Nat} {xs : List D} (q : h[n]? = some (.lst xs)) : toPy h (k + 1) (.ref n) = (optAll (xs.map (toPy h k))).map .list := by
  simp only [toPy, q]
/-- a list of bools stands there -/
def LB (h : HC) (d : D) (bs : List Bool) : Prop := ∃ n, d = .ref n ∧ h[n]? = some (.lst (bs.map D.bl))
theorem LB.mono {h h' : HC} {d : D} {bs : List Bool} (a : LB h d bs) (l : Le h h') : LB h' d bs := by
  obtain ⟨n, e, q⟩ := a
  exact ⟨n, e, l.get q⟩
theorem LB.py {h : HC} {d : D} {bs : List Bool} (a : LB h d bs) {k : Nat} : toPy h (k + 2) d = some (.list (bs.map PyData.bool)) := by
  obtain ⟨n, rfl, q⟩ := a
  have := optAll_map (f := toPy h (k + 1) ∘ D.bl) (g := PyData.bool) (xs := bs) fun x _ => by simp [toPy]
  rw [toPy_ref q, List.map_map, this]
  rfl
theorem eqv_bools : ∀ as bs : List Bool, PyData.eqvAll (as.map PyData.bool) (bs.map PyData.bool) = decide (as = bs)
  | [], [] => by simp [PyData.eqvAll]
  | [], _ :: _ => by simp [PyData.eqvAll]
  | _ :: _, [] => by simp [PyData.eqvAll]
  | a :: as, b :: bs => by
    have := eqv_bools as bs
    simp only [List.map_cons, PyData.eqvAll, this, PyData.eqv]
    rw [Bool.eq_iff_iff]
    simp
theorem eqLB {h : HC} {d e : D} {as bs : List Bool} (x : LB h d as) (y : LB h e bs) : opEq d e h = .ok (.bl (decide (as = bs))) h := by
  have h1 := x.py (k := 7)
  have h2 := y.py (k := 7)
  simp [opEq, h1, h2, PyData.eqv, eqv_bools]
theorem neLB {h : HC} {d e : D} {as bs : List Bool} (x : LB h d as) (y : LB h e bs) : opNe d e h = .ok (.bl (!decide (as = bs))) h := by
  have h1 := x.py (k := 7)
  have h2 := y.py (k := 7)
  simp [opNe, h1, h2, PyData.eqv, eqv_bools]
/-- a list of ints stands there -/
def LI (h : HC) (d : D) (is : List Int) : Prop := ∃ n, d = .ref n ∧ h[n]? = some (.lst (is.map D.int))
theorem LI.mono {h h' : HC} {d : D} {is : List Int} (a : LI h d is) (l : Le h h') : LI h' d is := by
  obtain ⟨n, e, q⟩ := a
  exact ⟨n, e, l.get q⟩
theorem LI.py {h : HC} {d : D} {is : List Int} (a : LI h d is) {k : Nat} : toPy h (k + 2) d = some (.list (is.map PyData.int)) := by
  obtain ⟨n, rfl, q⟩ := a
  have := optAll_map (f := toPy h (k + 1) ∘ D.int) (g := PyData.int) (xs := is) fun x _ => by simp [toPy]
  rw [toPy_ref q, List.map_map, this]
  rfl
theorem eqv_ints : ∀ as bs : List Int, PyData.eqvAll (as.map PyData.int) (bs.map PyData.int) = decide (as = bs)
  | [], [] => by simp [PyData.eqvAll]
  | [], _ :: _ => by simp [PyData.eqvAll]
  | _ :: _, [] => by simp [PyData.eqvAll]
  | a :: as, b :: bs => by
    have := eqv_ints as bs
    simp only [List.map_cons, PyData.eqvAll, this, PyData.eqv]
    rw [Bool.eq_iff_iff]
    simp
theorem eqLI {h : HC} {d e : D} {as bs : List Int} (x : LI h d as) (y : LI h e bs) : opEq d e h = .ok (.bl (decide (as = bs))) h := by
  have h1 := x.py (k := 7)
  have h2 := y.py (k := 7)
  simp [opEq, h1, h2, PyData.eqv, eqv_ints]
theorem neLI {h : HC} {d e : D} {as bs : List Int} (x : LI h d as) (y : LI h e bs) : opNe d e h = .ok (.bl (!decide (as = bs))) h := by
  have h1 := x.py (k := 7)
  have h2 := y.py (k := 7)
  simp [opNe, h1, h2, PyData.eqv, eqv_ints]
/-- a list of pairs of ints stands there -/
def pD (p : Int × Int) : D := .tup [.int p.1, .int p.2]
def LP (h : HC) (d : D) (ps : List (Int × Int)) : Prop := ∃ n, d = .ref n ∧ h[n]? = some (.lst (ps.map pD))
theorem LP.mono {h h' : HC} {d : D} {ps : List (Int × Int)} (a : LP h d ps) (l : Le h h') : LP h' d ps := by
  obtain ⟨n, e, q⟩ := a
  exact ⟨n, e, l.get q⟩
def pP (p : Int × Int) : PyData := .tuple [.int p.1, .int p.2]
theorem pP_of {h : HC} {k : Nat} {p : Int × Int} : toPy h (k + 2) (pD p) = some (pP p) := by
  simp [pD, toPy, optAll, pP]
theorem LP.py {h : HC} {d : D} {ps : List (Int × Int)} (a : LP h d ps) {k : Nat} : toPy h (k + 3) d = some (.list (ps.map pP)) := by
  obtain ⟨n, rfl, q⟩ := a
  have := optAll_map (f := toPy h (k + 2) ∘ pD) (g := pP) (xs := ps) fun x _ => pP_of
  rw [toPy_ref q, List.map_map, this]
  rfl
theorem eqv_pP (p q : Int × Int) : PyData.eqv (pP p) (pP q) = decide (p = q) := by
  obtain ⟨a, b⟩ := p
  obtain ⟨c, d⟩ := q
  simp only [pP, PyData.eqv, PyData.eqvAll]
  rw [Bool.eq_iff_iff]
  simp
theorem eqv_pairs : ∀ as bs : List (Int × Int), PyData.eqvAll (as.map pP) (bs.map pP) = decide (as = bs)
  | [], [] => by simp [PyData.eqvAll]
  | [], _ :: _ => by simp [PyData.eqvAll]
  | _ :: _, [] => by simp [PyData.eqvAll]
  | a :: as, b :: bs => by
    have := eqv_pairs as bs
    simp only [List.map_cons, PyData.eqvAll, this, eqv_pP]
    rw [Bool.eq_iff_iff]
    simp
theorem eqLP {h : HC} {d e : D} {as bs : List (Int × Int)} (x : LP h d as) (y : LP h e bs) : opEq d e h = .ok (.bl (decide (as = bs))) h := by
  have h1 := x.py (k := 6)
  have h2 := y.py (k := 6)
  simp [opEq, h1, h2, PyData.eqv, eqv_pairs]
theorem neLP {h : HC} {d e : D} {as bs : List (Int × Int)} (x : LP h d as) (y : LP h e bs) : opNe d e h = .ok (.bl (!decide (as = bs))) h := by
  have h1 := x.py (k := 6)
  have h2 := y.py (k := 6)
  simp [opNe, h1, h2, PyData.eqv, eqv_pairs]

/-! ### loops -/
theorem forLoop_inv {α : Type} (f : α → D) {G : List (Nat × Cell)} {g : EG} {body : ES} (I : List α → SD → HC → Prop) (hc : ∀ l s h, I l s h → chk G h = true) : ∀ (xs done : List α) (s : SD) (h : HC), I done s h →
    (∀ l x s h, l ++ [x] <+: done ++ xs → I l s h → ∃ s1 s2 h2, g (f x) s = some s1 ∧ body s1 h = .nx s2 h2 ∧ I (l ++ [x]) s2 h2) →
    ∃ s' h', forLoop G g body (xs.map f) s h = .nx s' h' ∧ I (done ++ xs) s' h'
  | [], done, s, h, i, _ => ⟨s, h, by simp [forLoop, hc _ _ _ i], by simpa using i⟩
  | x :: xs, done, s, h, i, st => by
    obtain ⟨s1, s2, h2, e1, e2, i2⟩ := st done x s h (by rw [show done ++ x :: xs = (done ++ [x]) ++ xs by simp]; exact List.prefix_append _ _) i
    obtain ⟨s', h', e, i'⟩ := forLoop_inv f I hc xs (done ++ [x]) s2 h2 i2 fun l y s h q => st l y s h (by simpa using q)
    exact ⟨s', h', by simp [forLoop, hc _ _ _ i, e1, e2, e], by simpa using i'⟩
theorem lcLoop_rel {α : Type} (f : α → D) {G : List (Nat × Cell)} {g : EG} {c : ET} {a : EE} {s : SD} {h0 : HC} (p : α → Bool) (R : HC → α → D → Prop) (hR : ∀ h h' x y, Le h h' → R h x y → R h' x y) (hc : ∀ h, Le h0 h → chk G h = true) :
    ∀ (xs : List α) (acc : List D) (h : HC), Le h0 h → acc.length + xs.length ≤ BIG →
    (∀ x ∈ xs, ∀ h, Le h0 h → ∃ s1 h1, g (f x) s = some s1 ∧ c s1 h = .ok (p x) h1 ∧ Le h h1 ∧ (p x = true → ∃ y h2, a s1 h1 = .ok y h2 ∧ Le h1 h2 ∧ R h2 x y)) →
    ∃ ys h', lcLoop G g c a s (xs.map f) acc h = .ok (acc ++ ys) h' ∧ Le h h' ∧ (∀ (i : Nat) (x : α), (xs.filter p)[i]? = some x → ∃ y, ys[i]? = some y ∧ R h' x y) ∧ ys.length = (xs.filter p).length
  | [], acc, h, l, _, _ => ⟨[], h, by simp [lcLoop, hc h l], Le.refl, by simp, by simp⟩
  | x :: xs, acc, h, l, hl, st => by
    obtain ⟨s1, h1, e1, e2, l1, k⟩ := st x (by simp) h l
    have hl' : acc.length < BIG := by simp at hl; omega
    cases hp : p x with
    | false =>
      rw [hp] at e2
      obtain ⟨ys, h', e, l', r, n⟩ := lcLoop_rel f p R hR hc xs acc h1 (l.trans l1) (by simp at hl; omega) fun y hy => st y (by simp [hy])
      exact ⟨ys, h', by simp [lcLoop, hc h l, e1, e2, e], l1.trans l', by simpa [hp] using r, by simpa [hp] using n⟩
    | true =>
      rw [hp] at e2
      obtain ⟨y, h2, e3, l2, r2⟩ := k hp
      obtain ⟨ys, h', e, l', r, n⟩ := lcLoop_rel f p R hR hc xs (acc ++ [y]) h2 ((l.trans l1).trans l2) (by simp at hl ⊢; omega) fun y hy => st y (by simp [hy])
      refine ⟨y :: ys, h', by simp [lcLoop, hc h l, e1, e2, e3, hl', e], (l1.trans l2).trans l', ?_, by simp [hp, n]⟩
      intro i z q
      simp only [List.filter_cons, hp, if_true] at q
      cases i with
      | zero => simp at q; subst q; exact ⟨y, by simp, hR _ _ _ _ l' r2⟩
      | succ i => simpa using r i z (by simpa using q)
/-- as above, where each thing told is a function of the thing walked -/
theorem lcLoop_fn {α : Type} (f : α → D) {G : List (Nat × Cell)} {g : EG} {c : ET} {a : EE} {s : SD} {h0 : HC} (p : α → Bool) (q : α → D) (hc : ∀ h, Le h0 h → chk G h = true) (xs : List α) (h : HC) (l : Le h0 h) (hl : xs.length ≤ BIG)
    (st : ∀ x ∈ xs, ∀ h, Le h0 h → ∃ s1 h1, g (f x) s = some s1 ∧ c s1 h = .ok (p x) h1 ∧ Le h h1 ∧ (p x = true → ∃ h2, a s1 h1 = .ok (q x) h2 ∧ Le h1 h2)) :
    ∃ h', lcLoop G g c a s (xs.map f) [] h = .ok ((xs.filter p).map q) h' ∧ Le h h' := by
  obtain ⟨ys, h', e, l', r, n⟩ := lcLoop_rel f p (fun _ x y => y = q x) (fun _ _ _ _ _ e => e) hc xs [] h l (by simpa using hl) fun x hx h l => by
    obtain ⟨s1, h1, e1, e2, l1, k⟩ := st x hx h l
    exact ⟨s1, h1, e1, e2, l1, fun z => by
      obtain ⟨h2, e3, l2⟩ := k z
      exact ⟨_, h2, e3, l2, rfl⟩⟩
  refine ⟨h', ?_, l'⟩
  rw [e]
  congr 1
  apply List.ext_getElem?
  intro i
  simp only [List.nil_append, List.getElem?_map]
  cases z : (xs.filter p)[i]? with
  | none =>
    have := List.getElem?_eq_none_iff.mp z
    simp
    omega
  | some x =>
    obtain ⟨y, e1, e2⟩ := r i x z
    simp [e1, e2]
/-- a loop that counts -/
def cnt (C : Nat → Bool) : Nat → Nat → Nat
  | 0, t => t
  | k + 1, t => if C t = true then cnt C k (t + 1) else t
theorem cnt_congr {C C' : Nat → Bool} : ∀ (k t : Nat), (∀ u, t ≤ u → u < t + k → C u = C' u) → cnt C k t = cnt C' k t
  | 0, t, _ => rfl
  | k + 1, t, e => by
    simp only [cnt, e t (Nat.le_refl _) (by omega)]
    rw [cnt_congr k (t + 1) fun u h1 h2 => e u (by omega) (by omega)]
theorem while_cnt {c : ET} {i : Nat} {C : Nat → Bool} {I : HC → Prop} {S : Nat → SD} (N : Nat) (hN : C N = false) (hS : ∀ t, (S t)[i]? = some (some (.int (t : Int)))) (hS2 : ∀ t, (S t).set i (some (.int ((t : Int) + 1))) = S (t + 1))
    (hc : ∀ t h, t ≤ N → I h → ∃ h', c (S t) h = .ok (C t) h' ∧ I h') : ∀ (n k t : Nat) (h : HC), t + k = N → k < n → I h → ∃ h', fWhile c (fAugI (fun a b => a + b) i (fC (.int 1))) n (S t) h = .nx (S (cnt C k t)) h' ∧ I h' := by
  intro n
  induction n with
  | zero => intro k t h _ q; omega
  | succ n ih =>
    intro k t h hk hn hI
    obtain ⟨h1, e1, I1⟩ := hc t h (by omega) hI
    cases hC : C t with
    | false =>
      refine ⟨h1, ?_, I1⟩
      have : cnt C k t = t := by cases k <;> simp [cnt, hC]
      rw [this]
      simp [fWhile, e1, hC]
    | true =>
      cases k with
      | zero => simp at hk; subst hk; rw [hN] at hC; cases hC
      | succ k =>
        obtain ⟨h2, e2, I2⟩ := ih k (t + 1) h1 (by omega) (by omega) I1
        refine ⟨h2, ?_, I2⟩
        have : cnt C (k + 1) t = cnt C k (t + 1) := by simp [cnt, hC]
        rw [this, ← e2]
        simp [fWhile, e1, hC, fAugI, hS, hS2]
end G9

set_option Elab.async false
set_option linter.all false
set_option maxRecDepth 100000
set_option maxHeartbeats 0
namespace G9
open PySem L2
theorem cps_sl : ("sl" : Str).cps.toList = [115, 108] := by decide +kernel
theorem lit_l : ("l" : Str) = ⟨#[108]⟩ := by decide +kernel
theorem lit_s : ("s" : Str) = ⟨#[115]⟩ := by decide +kernel
def pt (c : Nat) : List Bool := if c = 108 then [true, true, true, false] else [true, false]
def pt0 (cs : List Nat) : List Bool := cs.flatMap pt
def pat (cs : List Nat) : List Bool := pt0 cs ++ [false, false, false]
def Sg (c : Nat) : Prop := c = 115 ∨ c = 108
structure IsC (z : Str) : Prop where
  lo : 1 ≤ z.cps.toList.length
  hi : z.cps.toList.length ≤ 4
  sg : ∀ c ∈ z.cps.toList, Sg c
abbrev cs (z : Str) : List Nat := z.cps.toList
def rgL (bs : List Bool) (n : Nat) : List Bool := (List.range n).map fun t => bs.getD (t % bs.length) false
def rg (z : Str) (n : Nat) : List Bool := rgL (pat (cs z)) n
theorem slen {z : Str} : z.length = z.cps.toList.length := by simp [Str.length]
theorem pt_len {c : Nat} : (pt c).length ≤ 4 := by unfold pt; split <;> simp
theorem pt0_len : ∀ {l : List Nat}, (pt0 l).length ≤ 4 * l.length
  | [] => by simp [pt0]
  | c :: l => by
    have h1 := pt_len (c := c)
    have h2 := pt0_len (l := l)
    simp only [pt0, List.flatMap_cons, List.length_append, List.length_cons] at *
    omega
theorem eqS {h : HC} {a b : Str} (ha : PyData.strOk a = true) (hb : PyData.strOk b = true) : opEq (.str a) (.str b) h = .ok (.bl (decide (a = b))) h := by
  simp [opEq, toPy, ha, hb, PyData.eqv]
  rw [Bool.eq_iff_iff]
  simp
theorem ok_l : PyData.strOk ⟨#[108]⟩ = true := by decide +kernel
theorem ok_s : PyData.strOk ⟨#[115]⟩ = true := by decide +kernel
theorem mul_lst {h : HC} {n : Nat} {xs : List D} {k : Int} (e : h[n]? = some (.lst xs)) (h1 : -(2 ^ 63) ≤ k) (h2 : k < 2 ^ 63) : opMul (.ref n) (.int k) h = newL (List.replicate k.toNat xs).flatten h := by
  simp only [opMul, e, h1, h2, and_self, if_true]
theorem add_lst {h : HC} {n m : Nat} {xs ys : List D} (e : h[n]? = some (.lst xs)) (e2 : h[m]? = some (.lst ys)) : opAdd (.ref n) (.ref m) h = newL (xs ++ ys) h := by
  simp only [opAdd, e, e2]
@[simp] theorem gl {α : Type} {h g : List α} {k : Nat} : (h ++ g)[h.length + k]? = g[k]? := by
  rw [List.getElem?_append_right (by omega)]
  congr 1
  omega
@[simp] theorem gl0 {α : Type} {h g : List α} : (h ++ g)[h.length]? = g[0]? := gl (k := 0)
@[simp] theorem sl' {α : Type} {h g : List α} {k : Nat} {c : α} : (h ++ g).set (h.length + k) c = h ++ g.set k c := by
  rw [List.set_append_right _ _ (by omega)]
  congr 2
  omega
@[simp] theorem sl0 {α : Type} {h g : List α} {c : α} : (h ++ g).set h.length c = h ++ g.set 0 c := sl' (k := 0)
theorem get_mid {h g : HC} {c : Cell} : (h ++ c :: g)[h.length]? = some c := by simp
theorem beats_step {h g : HC} {bs : List Bool} {c : Nat} {x : Option D} {z : D} (hc : Sg c) (hl : bs.length ≤ 1000) : ∃ g', fExpr (fMt "list" mExtend (fVar 1) (fCons (fOp opAdd (fOp opMul (fLst (fCons (fC (.bl true)) fNil)) (fIf (fBo (fOp opEq (fVar 2) (fC (.str "l")))) (fC (.int 3)) (fC (.int 1)))) (fLst (fCons (fC (.bl false)) fNil))) fNil))
    [some z, some (.ref h.length), some (.str ⟨#[c]⟩)] (h ++ .lst (bs.map D.bl) :: g) = .nx [some z, some (.ref h.length), some (.str ⟨#[c]⟩)] (h ++ .lst ((bs ++ pt c).map D.bl) :: g') := by
  rcases hc with rfl | rfl
  · simp [lit_l, eqS ok_s ok_l, hasTy, BIG, newL, opMul, opAdd, mExtend, pt, gl, gl0, sl', sl0, Nat.add_assoc]
    rw [if_pos (by omega)]
    simp
  · simp [lit_l, eqS ok_l ok_l, hasTy, BIG, newL, opMul, opAdd, mExtend, pt, gl, gl0, sl', sl0, Nat.add_assoc]
    rw [if_pos (by omega)]
    simp
theorem beats_ok {h : HC} {z : Str} (hz : IsC z) : ∃ d h', m_beats [.str z] h = .ok d h' ∧ Le h h' ∧ LB h' d (pat (cs z)) := by
  obtain ⟨s', h', e, ⟨x, rfl⟩, g, rfl⟩ := forLoop_inv (fun c : Nat => D.str ⟨#[c]⟩) (G := []) (g := gN 2) (body := fExpr (fMt "list" mExtend (fVar 1) (fCons (fOp opAdd (fOp opMul (fLst (fCons (fC (.bl true)) fNil)) (fIf (fBo (fOp opEq (fVar 2) (fC (.str "l")))) (fC (.int 3)) (fC (.int 1)))) (fLst (fCons (fC (.bl false)) fNil))) fNil)))
    (fun l s h' => (∃ x, s = [some (.str z), some (.ref h.length), x]) ∧ ∃ g, h' = h ++ .lst ((pt0 l).map D.bl) :: g) (fun _ _ _ _ => rfl) (cs z) [] [some (.str z), some (.ref h.length), none] (h ++ [.lst []]) ⟨⟨_, rfl⟩, [], by simp [pt0]⟩
    (fun l c s h' hp ⟨⟨x, hs⟩, g, hh⟩ => by
      subst hs hh
      have hm : c ∈ cs z := by
        have := hp.subset (show c ∈ l ++ [c] by simp)
        simpa using this
      have hl : l.length ≤ 4 := by
        have := hp.length_le
        have := hz.hi
        simp at *
        omega
      obtain ⟨g', e⟩ := beats_step (h := h) (g := g) (bs := pt0 l) (x := x) (z := .str z) (hz.sg c hm) (by have := pt0_len (l := l); omega)
      exact ⟨_, _, _, rfl, e, ⟨_, rfl⟩, g', by simp [pt0]⟩)
  have hl := pt0_len (l := cs z)
  have h4 : (cs z).length ≤ 4 := hz.hi
  refine ⟨.ref (h.length + (g.length + 3)), h ++ (.lst ((pt0 (cs z)).map D.bl) :: (g ++ [.lst [.bl false], .lst [.bl false, .bl false, .bl false], .lst ((pat (cs z)).map D.bl)])), ?_, Le.app, _, rfl, ?_⟩
  · simp only [List.nil_append] at e
    simp only [m_beats, fnRun]
    simp [e, newL, BIG]
    simp [opMul, newL, BIG, opAdd]
    simp [pat]
    rw [if_pos (by omega)]
    rfl
  · simp
theorem flt_f {α : Type} {l : List α} : l.filter (fun _ => false) = [] := by simp
theorem flt_t {α : Type} {l : List α} : l.filter (fun _ => true) = l := by simp
theorem rng_eq {n : Nat} : rngD 0 ((n : Int)).toNat = (List.range n).map fun i : Nat => D.int (i : Int) := by
  simp [rngD]
theorem chk_nil {h : HC} : chk [] h = true := rfl
theorem is_within_yes {h : HC} {i lo hi : Int} (h1 : lo ≤ i) (h2 : i ≤ hi) : m_is_within [.int i, .int lo, .int hi] h = .ok (.bl true) h := by
  simp [m_is_within_ok, h1, h2]
theorem is_code_ok {h : HC} {z : Str} (hz : IsC z) : ∃ h', m_is_code [.str z] h = .ok (.bl true) h' ∧ Le h h' := by
  obtain ⟨h', e, l⟩ := lcLoop_fn (fun c : Nat => D.str ⟨#[c]⟩) (G := []) (g := gN 1) (c := fBo (fOp opNotIn (fVar 1) (fC (.str "sl")))) (a := fVar 1) (s := [some (.str z), none]) (h0 := h) (fun _ => false) (fun c => .str ⟨#[c]⟩) (fun _ _ => rfl) (cs z) h Le.refl (by have := hz.hi; simp [BIG] at *; omega)
    (fun c hc h _ => by
      refine ⟨_, h, rfl, ?_, Le.refl, nofun⟩
      simp [opInB, cps_sl]
      rcases hz.sg c hc with rfl | rfl <;> simp)
  have h1 := hz.lo
  have h4 := hz.hi
  refine ⟨h' ++ [.lst []], ?_, l.trans Le.app⟩
  rw [flt_f, List.map_nil] at e
  have hs : z.length = z.cps.toList.length := slen
  simp only [m_is_code, fnRun]
  simp at h1 h4
  simp [wipeD, e, hs, show z.cps.size ≤ BIG by simp [BIG]; omega, show (1 : Int) ≤ (z.cps.size : Int) by omega, show (z.cps.size : Int) ≤ 4 by omega]
end G9

set_option Elab.async false
set_option linter.all false
set_option maxRecDepth 100000
set_option maxHeartbeats 0
namespace G9
open PySem L2
structure IsS (zs : List Str) (b : Bool) (k : Int) : Prop where
  lo : 2 ≤ zs.length
  hi : zs.length ≤ 8
  cd : ∀ z ∈ zs, IsC z
  nd : zs.Nodup
  k1 : 1 ≤ k
  k2 : k ≤ 60
def setD (zs : List Str) (b : Bool) (k : Int) : D := .tup [.tup (zs.map D.str), .bl b, .int k]
@[simp] theorem atI_c0 {α : Type} {a : α} {l : List α} : atI (a :: l) 0 = some a := atI_nat (k := 0) (by simp)
@[simp] theorem atI_c1 {α : Type} {a b : α} {l : List α} : atI (a :: b :: l) 1 = some b := atI_nat (k := 1) (by simp)
@[simp] theorem atI_c2 {α : Type} {a b c : α} {l : List α} : atI (a :: b :: c :: l) 2 = some c := atI_nat (k := 2) (by simp)
theorem dn_nodup {xs : List Str} (e : xs.Nodup) : dn xs = xs.length := by
  have key : ∀ (xs done : List Str) (n : Nat), xs.Nodup → (∀ x ∈ xs, x ∉ done) → (xs.foldl (fun (p : List Str × Nat) x => (p.1 ++ [x], if p.1.any (· == x) = true then p.2 else p.2 + 1)) (done, n)).2 = n + xs.length := by
    intro xs
    induction xs with
    | nil => intro done n _ _; simp
    | cons x xs ih =>
      intro done n hd hx
      have h1 : done.any (· == x) = false := by
        rw [List.any_eq_false]
        intro y hy
        simp
        rintro rfl
        exact hx y (by simp) hy
      rw [List.foldl_cons]
      simp only [h1]
      rw [ih (done ++ [x]) _ (List.nodup_cons.mp hd).2]
      · simp; omega
      · intro y hy
        have : y ≠ x := fun z => (List.nodup_cons.mp hd).1 (z ▸ hy)
        simp [this, hx y (by simp [hy])]
  have := key xs [] 0 e (by simp)
  simpa [dn, dnF] using this
theorem strsD_map {zs : List Str} : strsD (zs.map D.str) = some zs := by
  induction zs with
  | nil => rfl
  | cons z zs ih =>
    unfold strsD at ih ⊢
    simp only [List.map_cons, optAll, ih]
    rfl
theorem is_setting_ok {h : HC} {zs : List Str} {b : Bool} {k : Int} (S : IsS zs b k) : ∃ h', m_is_setting [setD zs b k] h = .ok (.bl true) h' ∧ Le h h' := by
  obtain ⟨h', e, l⟩ := lcLoop_fn D.str (G := []) (g := gN 1) (c := fNot (fTru (fCall 1 m_is_code (fCons (fVar 1) fNil)))) (a := fVar 1) (s := [some (setD zs b k), none]) (h0 := h) (fun _ => false) (fun c => .str c) (fun _ _ => rfl) zs h Le.refl (by have := S.hi; simp [BIG] at *; omega)
    (fun c hc h _ => by
      obtain ⟨h1, e1, l1⟩ := is_code_ok (h := h) (S.cd c hc)
      refine ⟨_, h1, rfl, ?_, l1, nofun⟩
      simp [e1])
  rw [flt_f, List.map_nil] at e
  have h1 := S.lo
  have h4 := S.hi
  refine ⟨h' ++ [.lst []], ?_, l.trans Le.app⟩
  have e0 : m_is_within [.int k, .int 1, .int 60] (h' ++ [.lst []]) = .ok (.bl true) (h' ++ [.lst []]) := is_within_yes S.k1 S.k2
  simp only [m_is_setting, fnRun]
  simp [setD, show (2 : Int) ≤ (zs.length : Int) by omega, show (zs.length : Int) ≤ 8 by omega, show zs.length ≤ 1000 by omega, wipeD]
  simp only [setD] at e
  simp [e, strsD_map, dn_nodup S.nd, show zs.length ≤ 1000 by omega, e0]
theorem look_ok {h : HC} {zs : List Str} {b : Bool} {k : Int} (S : IsS zs b k) : ∃ h', m_look [setD zs b k] h = .ok .non h' ∧ Le h h' := by
  obtain ⟨h', e, l⟩ := is_setting_ok (h := h) S
  refine ⟨h', ?_, l⟩
  simp only [m_look, fnRun]
  simp [e]
theorem look_house_ok {h : HC} {zs : List Str} {b : Bool} {k : Int} {i : Nat} (S : IsS zs b k) (hi : i < zs.length) : m_look_house [setD zs b k, .int (i : Int)] h = .ok .non h := by
  have e0 : m_is_within [.int (i : Int), .int 0, .int ((zs.length : Int) - 1)] h = .ok (.bl true) h := is_within_yes (by omega) (by omega)
  simp only [m_look_house, fnRun]
  simp [setD, e0]
end G9


set_option Elab.async false
set_option linter.all false
set_option maxRecDepth 100000
set_option maxHeartbeats 0
namespace G9
open PySem L2
theorem rgL_len {bs : List Bool} {n : Nat} : (rgL bs n).length = n := by simp [rgL]
theorem rg_len {z : Str} {n : Nat} : (rg z n).length = n := rgL_len
theorem rgL_take {bs : List Bool} {n t : Nat} (h : t ≤ n) : (rgL bs n).take t = rgL bs t := by
  simp [rgL, ← List.map_take, List.take_range, Nat.min_eq_left h]
theorem rg_take {z : Str} {n t : Nat} (h : t ≤ n) : (rg z n).take t = rg z t := rgL_take h
/-- all the codes -/
def allC : List (List Nat) := [1, 2, 3, 4].flatMap fun n => (List.range (2 ^ n)).map fun k => (List.range n).map fun i => if (k / 2 ^ i) % 2 = 0 then 115 else 108
theorem allC_mem {l : List Nat} (h1 : 1 ≤ l.length) (h2 : l.length ≤ 4) (h3 : ∀ c ∈ l, Sg c) : l ∈ allC := by
  have two : ∀ c, Sg c → c = 115 ∨ c = 108 := fun c h => h
  match l, h1, h2, h3 with
  | [a], _, _, h => rcases two a (h a (by simp)) with rfl | rfl <;> decide +kernel
  | [a, b], _, _, h => rcases two a (h a (by simp)) with rfl | rfl <;> rcases two b (h b (by simp)) with rfl | rfl <;> decide +kernel
  | [a, b, c], _, _, h => rcases two a (h a (by simp)) with rfl | rfl <;> rcases two b (h b (by simp)) with rfl | rfl <;> rcases two c (h c (by simp)) with rfl | rfl <;> decide +kernel
  | [a, b, c, d], _, _, h => rcases two a (h a (by simp)) with rfl | rfl <;> rcases two b (h b (by simp)) with rfl | rfl <;> rcases two c (h c (by simp)) with rfl | rfl <;> rcases two d (h d (by simp)) with rfl | rfl <;> decide +kernel
  | _ :: _ :: _ :: _ :: _ :: _, _, h, _ => simp at h
end G9


set_option Elab.async false
set_option linter.all false
set_option maxRecDepth 100000
set_option maxHeartbeats 0
namespace G9
open PySem L2
def cellv (ns : List Int) (k : Nat) : Int := ns.getD k 0
theorem cell_ok {h : HC} {ns : List Int} {k : Nat} : m_law_cell [.scr ns, .int (k : Int)] h = .ok (.int (cellv ns k)) h := by
  simp only [m_law_cell, fnRun]
  by_cases hk : k < ns.length
  · have a : atI ns (k : Int) = some ns[k] := atI_nat (by simp [hk])
    simp [hk, a, cellv]
  · simp [hk, cellv]
theorem mulOk_r {i j : Int} (h1 : -(2 ^ 64) < j) (h2 : j < 2 ^ 64) : mulOk i j = true := by
  simp only [mulOk, h1, h2, decide_true, Bool.and_self, Bool.or_true]
theorem mulOk_l {i j : Int} (h1 : -(2 ^ 64) < i) (h2 : i < 2 ^ 64) : mulOk i j = true := by
  simp only [mulOk, h1, h2, decide_true, Bool.and_self, Bool.true_or]
theorem mod_bnd {i p : Int} (hp : 0 < p) : 0 ≤ i % p ∧ i % p < p := ⟨Int.emod_nonneg _ (by omega), Int.emod_lt_of_pos _ hp⟩
theorem pow_ok {x p : Int} {k : Int} {h : HC} (h1 : 0 ≤ x) (h2 : x < 4294967296) (k1 : 0 ≤ k) (k2 : k ≤ 1000) : opPow (.int x) (.int k) h = .ok (.int (x ^ k.toNat)) h := by
  have : x.natAbs < 2 ^ 64 := by
    have : (2 : Nat) ^ 64 = 18446744073709551616 := by decide
    omega
  simp only [opPow, k1, this, show k ≤ 1000000 by omega, and_self, if_true]
theorem seed_ok {h : HC} {s k : Int} : ∃ v, m_law_seed [.int s, .int k] h = .ok (.int v) h ∧ 0 ≤ v ∧ v < 2147483647 := by
  have b := mod_bnd (i := s * 1103515245 + 7919 * k + 12345) (p := 2147483647) (by omega)
  have c := mod_bnd (i := ((s * 1103515245 + 7919 * k + 12345) % 2147483647) ^ 5) (p := 2147483647) (by omega)
  refine ⟨_, ?_, c.1, c.2⟩
  have e1 : mulOk s 1103515245 = true := mulOk_r (by decide) (by decide)
  have e2 : mulOk 7919 k = true := mulOk_l (by decide) (by decide)
  have e3 := pow_ok (h := h) (p := 0) (k := 5) b.1 (by omega) (by decide) (by decide)
  simp only [m_law_seed, fnRun]
  simp [-powI, e1, e2, e3]
theorem pick_ok {h : HC} {s m : Int} (hm : 0 < m) : ∃ v, m_law_pick [.int s, .int m] h = .ok (.int v) h ∧ 0 ≤ v ∧ v < m := by
  have c := mod_bnd (i := s / 97) hm
  refine ⟨_, ?_, c.1, c.2⟩
  simp only [m_law_pick, fnRun]
  simp [hm]
theorem mix_ok {h : HC} {c m : Int} (hm : 0 < m) : ∃ v, m_law_mix [.int c, .int 9949, .int m] h = .ok (.int v) h ∧ 0 ≤ v ∧ v < m := by
  have b := mod_bnd (i := c * 48271) (p := 9949) (by omega)
  have d := mod_bnd (i := (c * 48271 % 9949) ^ 3 % 9949) hm
  refine ⟨_, ?_, d.1, d.2⟩
  have e1 : mulOk c 48271 = true := mulOk_r (by decide) (by decide)
  have e3 := pow_ok (h := h) (p := 0) (k := 3) b.1 (by omega) (by decide) (by decide)
  simp only [m_law_mix, fnRun]
  simp [-powI, e1, e3, hm]
theorem joinL_nil : ∀ l : List (List Nat), TL.joinL [] l = l.flatten
  | [] => rfl
  | [p] => by simp [TL.joinL]
  | p :: q :: r => by
    have := joinL_nil (q :: r)
    simp only [TL.joinL, this, List.nil_append, List.flatten_cons]
theorem cps_empty : ("" : Str).cps.toList = [] := by decide +kernel
theorem cps_join {l : List Str} : (Txt.join "" l).cps.toList = (l.map fun z => z.cps.toList).flatten := by
  have := TL.tl_join "" l
  rw [TL.join_eq]
  rw [show TL.tl "" = [] from cps_empty, joinL_nil] at this
  exact this
theorem join_sg {l : List Nat} : (Txt.join "" (l.map fun c => (⟨#[c]⟩ : Str))).cps.toList = l := by
  rw [cps_join, List.map_map]
  induction l with
  | nil => rfl
  | cons c l ih => simp only [List.map_cons, List.flatten_cons, ih]; rfl
theorem mJoin_of {h : HC} {a : Str} {n : Nat} {l : List Str} (e : h[n]? = some (.lst (l.map D.str))) (hj : joinOk a l = true) : mJoin (.str a) [.ref n] h = .ok (.str (Txt.join a l)) h := by
  simp only [mJoin, asSeq_of e, strsD_map, hj, if_true]
theorem code_ok {h : HC} {s : Int} : ∃ z h', m_law_code [.int s] h = .ok (.str z) h' ∧ Le h h' ∧ IsC z := by
  have b := mod_bnd (i := s / 5) (p := 4) (by omega)
  obtain ⟨n, hn⟩ : ∃ n : Nat, 1 + s / 5 % 4 = (n : Int) := ⟨(1 + s / 5 % 4).toNat, by omega⟩
  obtain ⟨ys, h', e, l, r, k⟩ := lcLoop_rel (fun i : Nat => D.int (i : Int)) (G := []) (g := gN 1) (c := fYes) (a := fOp opIx (fC (.str "sl")) (fCall 2 m_law_pick (fCons (fCall 2 m_law_seed (fCons (fVar 0) (fCons (fVar 1) fNil))) (fCons (fC (.int 2)) fNil)))) (s := [some (.int s), none]) (h0 := h)
    (fun _ => true) (fun _ _ y => ∃ c, Sg c ∧ y = .str ⟨#[c]⟩) (fun h h' x y l q => q) (fun _ _ => rfl) (List.range n) [] h Le.refl (by simp [BIG]; omega)
    (fun i hi h _ => by
      obtain ⟨v, e1, v0, v1⟩ := seed_ok (h := h) (s := s) (k := (i : Int))
      obtain ⟨w, e2, w0, w1⟩ := pick_ok (h := h) (s := v) (m := 2) (by omega)
      have hb : ("sl" : Str).length ≤ BIG := by decide +kernel
      have hw : w = 0 ∨ w = 1 := by omega
      rcases hw with rfl | rfl
      · exact ⟨_, h, rfl, rfl, Le.refl, fun _ => ⟨.str ⟨#[115]⟩, h, by simp [e1, e2, hb, cps_sl], Le.refl, 115, .inl rfl, rfl⟩⟩
      · exact ⟨_, h, rfl, rfl, Le.refl, fun _ => ⟨.str ⟨#[108]⟩, h, by simp [e1, e2, hb, cps_sl], Le.refl, 108, .inr rfl, rfl⟩⟩)
  rw [flt_t] at r k
  rw [List.length_range] at k
  have hc : ∀ (ys : List D), (∀ i, i < ys.length → ∃ y, ys[i]? = some y ∧ ∃ c, Sg c ∧ y = .str ⟨#[c]⟩) → ∃ cs : List Nat, ys = (cs.map fun c => (⟨#[c]⟩ : Str)).map D.str ∧ ∀ c ∈ cs, Sg c := by
    intro ys
    induction ys with
    | nil => intro _; exact ⟨[], rfl, by simp⟩
    | cons y ys ih =>
      intro h
      obtain ⟨cs, e, hs⟩ := ih fun i hi => by simpa using h (i + 1) (by simp; omega)
      obtain ⟨y', e1, c, hc, e2⟩ := h 0 (by simp)
      simp at e1
      subst e1 e2
      exact ⟨c :: cs, by simp [e], by
        intro d hd
        rcases List.mem_cons.mp hd with rfl | hd
        · exact hc
        · exact hs d hd⟩
  obtain ⟨cs0, e1, hs⟩ := hc ys fun i hi => by
    obtain ⟨y, e1, e2⟩ := r i i (by rw [List.getElem?_range (by omega)])
    exact ⟨y, e1, e2⟩
  have hl : cs0.length = n := by rw [← k, e1]; simp
  have hj : joinOk "" (cs0.map fun c => (⟨#[c]⟩ : Str)) = true := by
    have h0 : ("" : Str).length = 0 := by decide +kernel
    have : ((cs0.map fun c => (⟨#[c]⟩ : Str)).map (·.length)).sum = cs0.length := by
      clear hl e1 hs
      induction cs0 with
      | nil => rfl
      | cons c l ih => simp only [List.map_cons, List.sum_cons, ih, List.length_cons]; simp [Str.length]; omega
    simp only [joinOk, this, h0, BIG, Nat.mul_zero]
    simp
    omega
  have ej : mJoin (.str "") [.ref h'.length] (h' ++ [.lst ((cs0.map fun c => (⟨#[c]⟩ : Str)).map D.str)]) = _ := mJoin_of last_get hj
  refine ⟨Txt.join "" (cs0.map fun c => (⟨#[c]⟩ : Str)), h' ++ [.lst ((cs0.map fun c => (⟨#[c]⟩ : Str)).map D.str)], ?_, l.trans Le.app, ⟨by rw [join_sg]; omega, by rw [join_sg]; omega, by rw [join_sg]; exact hs⟩⟩
  have hb : n ≤ BIG := by simp only [BIG]; omega
  simp only [List.nil_append, e1] at e
  simp only [m_law_code, fnRun]
  simp only [List.map_map] at e ej ⊢
  simp [hasTy, wipeD, hn, hb, e, ej]
end G9


set_option Elab.async false
set_option linter.all false
set_option maxRecDepth 100000
set_option maxHeartbeats 0
namespace G9
open PySem L2
theorem IsC.ok {z : Str} (h : IsC z) : PyData.strOk z = true := by
  unfold PyData.strOk
  rw [← Array.all_toList, List.all_eq_true]
  intro c hc
  rcases h.sg c hc with rfl | rfl <;> decide
theorem any_str {z : Str} {zs : List Str} : ((zs.map PyData.str).any fun y => PyData.eqv y (.str z)) = decide (z ∈ zs) := by
  induction zs with
  | nil => simp
  | cons y zs ih =>
    rw [List.map_cons, List.any_cons, ih]
    simp only [PyData.eqv]
    rw [Bool.eq_iff_iff]
    simp
    constructor
    · rintro (a | a)
      · exact .inl a.symm
      · exact .inr a
    · rintro (a | a)
      · exact .inl a.symm
      · exact .inr a
theorem toPy_strs {h : HC} {n k : Nat} {zs : List Str} (q : h[n]? = some (.lst (zs.map D.str))) (hz : ∀ z ∈ zs, IsC z) : toPy h (k + 2) (.ref n) = some (.list (zs.map PyData.str)) := by
  have := optAll_map (f := toPy h (k + 1) ∘ D.str) (g := PyData.str) (xs := zs) fun x hx => by simp [toPy, (hz x hx).ok]
  rw [toPy_ref q, List.map_map, this]
  rfl
theorem notIn_ok {h : HC} {n : Nat} {z : Str} {zs : List Str} (q : h[n]? = some (.lst (zs.map D.str))) (hz : ∀ z ∈ zs, IsC z) (h1 : IsC z) : opNotIn (.str z) (.ref n) h = .ok (.bl (!decide (z ∈ zs))) h := by
  have e1 : toPy h 9 (.str z) = some (.str z) := by simp [toPy, h1.ok]
  have e2 := toPy_strs (k := 7) q hz
  simp only [opInB, e1, e2, any_str, if_true]
theorem mAppend_of {h : HC} {n : Nat} {xs : List D} {y : D} (e1 : h[n]? = some (.lst xs)) (hl : xs.length < BIG) : mAppend (.ref n) [y] h = .ok .non (h.set n (.lst (xs ++ [y]))) := by
  simp only [mAppend, e1, hl, if_true]
theorem C_sl : IsC "sl" := ⟨by rw [cps_sl]; decide, by rw [cps_sl]; decide, by rw [cps_sl]; intro c hc; simp at hc; rcases hc with rfl | rfl; exact .inl rfl; exact .inr rfl⟩
theorem cps_ls : ("ls" : Str).cps.toList = [108, 115] := by decide +kernel
theorem C_ls : IsC "ls" := ⟨by rw [cps_ls]; decide, by rw [cps_ls]; decide, by rw [cps_ls]; intro c hc; simp at hc; rcases hc with rfl | rfl; exact .inr rfl; exact .inl rfl⟩
theorem set_step {h g : HC} {s : Int} {k : Nat} {zs : List Str} {y : Option D} (hz : ∀ z ∈ zs, IsC z) (hn : zs.Nodup) (hl : zs.length ≤ 100) :
    ∃ (zs' : List Str) (y' : Option D) (g' : HC), (fSeq (fSet 3 (fCall 1 m_law_code (fCons (fCall 2 m_law_seed (fCons (fVar 0) (fCons (fOp opAdd (fC (.int 10)) (fVar 2)) fNil))) fNil)))
      (fIfS (fBo (fOp opNotIn (fVar 3) (fVar 1))) (fExpr (fMt "list" mAppend (fVar 1) (fCons (fVar 3) fNil))) fNx))
      [some (.int s), some (.ref h.length), some (.int (k : Int)), y] (h ++ .lst (zs.map D.str) :: g) = .nx [some (.int s), some (.ref h.length), some (.int (k : Int)), y'] (h ++ .lst (zs'.map D.str) :: g') ∧
      (∀ z ∈ zs', IsC z) ∧ zs'.Nodup ∧ zs'.length ≤ zs.length + 1 ∧ zs' ≠ [] := by
  obtain ⟨v, e1, _, _⟩ := seed_ok (h := h ++ .lst (zs.map D.str) :: g) (s := s) (k := 10 + (k : Int))
  obtain ⟨z, h1, e2, ⟨g2, rfl⟩, hc⟩ := code_ok (h := h ++ .lst (zs.map D.str) :: g) (s := v)
  have q : ((h ++ .lst (zs.map D.str) :: g) ++ g2)[h.length]? = some (.lst (zs.map D.str)) := by simp
  have e3 := notIn_ok q hz hc
  by_cases hm : z ∈ zs
  · refine ⟨zs, some (.str z), g ++ g2, ?_, hz, hn, by omega, fun e => by rw [e] at hm; simp at hm⟩
    simp [e1, e2]
    simp [hm] at e3
    simp [e3]
  · refine ⟨zs ++ [z], some (.str z), g ++ g2, ?_, ?_, ?_, by simp, by simp⟩
    · have e4 := mAppend_of (y := .str z) q (by simp [BIG]; omega)
      simp [e1, e2]
      simp [hm] at e3 e4
      simp [e3, hasTy, e4]
    · intro y hy
      rcases List.mem_append.mp hy with hy | hy
      · exact hz y hy
      · simp at hy; subst hy; exact hc
    · rw [List.nodup_append]
      refine ⟨hn, by simp, fun a ha b hb e => ?_⟩
      simp at hb
      subst hb e
      exact hm ha
theorem more_ok {h : HC} {n : Nat} {s : D} {x y : Option D} {zs : List Str} (q : h[n]? = some (.lst (zs.map D.str))) (hz : ∀ z ∈ zs, IsC z) (hn : zs.Nodup) (hl : zs.length ≤ 8) (h0 : zs ≠ []) :
    ∃ (m : Nat) (zs' : List Str) (h' : HC), fIfS (fBo (fOp opLt (fCl bLen (fCons (fVar 1) fNil)) (fC (.int 2)))) (fSet 1 (fOp opAdd (fVar 1) (fSl (fLc (fItT (fTup (fCons (fC (.str "sl")) (fCons (fC (.str "ls")) fNil)))) [3] (gN 3) (fBo (fOp opNotIn (fVar 3) (fVar 1))) (fVar 3)) fNoP (fPart (fC (.int 1)))))) fNx
      [some s, some (.ref n), x, y] h = .nx [some s, some (.ref m), x, y] h' ∧ Le h h' ∧ h'[m]? = some (.lst (zs'.map D.str)) ∧ (∀ z ∈ zs', IsC z) ∧ zs'.Nodup ∧ 2 ≤ zs'.length ∧ zs'.length ≤ 8 := by
  by_cases h2 : zs.length < 2
  · have hz1 : ∃ a, zs = [a] := by
      match zs, h0, h2 with
      | [a], _, _ => exact ⟨a, rfl⟩
      | _ :: _ :: _, _, h => simp at h; omega
    obtain ⟨a, rfl⟩ := hz1
    obtain ⟨h', e, l⟩ := lcLoop_fn D.str (G := []) (g := gN 3) (c := fBo (fOp opNotIn (fVar 3) (fVar 1))) (a := fVar 3) (s := [some s, some (.ref n), x, none]) (h0 := h) (fun z => !decide (z ∈ [a])) D.str (fun _ _ => rfl) [("sl" : Str), ("ls" : Str)] h Le.refl (by simp)
      (fun c hc h l => by
        have hC : IsC c := by
          simp at hc
          rcases hc with rfl | rfl
          · exact C_sl
          · exact C_ls
        have := notIn_ok (l.get q) hz hC
        exact ⟨_, h, rfl, by simp at this ⊢; simp [this], Le.refl, fun _ => ⟨h, by simp, Le.refl⟩⟩)
    obtain ⟨c, r, hcr⟩ : ∃ c r, [("sl" : Str), ("ls" : Str)].filter (fun z => !decide (z ∈ [a])) = c :: r := by
      cases hf : [("sl" : Str), ("ls" : Str)].filter (fun z => !decide (z ∈ [a])) with
      | cons c r => exact ⟨c, r, rfl⟩
      | nil =>
        rw [List.filter_eq_nil_iff] at hf
        have h1 := hf "sl" (by simp)
        have h2 := hf "ls" (by simp)
        simp at h1 h2
        rw [← h1] at h2
        exact absurd h2 (by decide +kernel)
    have hc : c ∈ [("sl" : Str), ("ls" : Str)].filter (fun z => !decide (z ∈ [a])) := by rw [hcr]; simp
    have hC : IsC c := by
      have := (List.mem_filter.mp hc).1
      simp at this
      rcases this with rfl | rfl
      · exact C_sl
      · exact C_ls
    have hne : c ≠ a := by
      have := (List.mem_filter.mp hc).2
      simpa using this
    rw [hcr] at e
    have q' : ∀ g : HC, (h' ++ g)[n]? = some (.lst [D.str a]) := fun g => Le.get (l.trans Le.app) (by simpa using q)
    have hcut : cutD ((c :: r).map D.str) none (some 1) = [D.str c] := by
      have : ((1 : Nat) : Int) = 1 := rfl
      rw [← this]
      simp only [cutD, HT.sIx_none, HT.sIx_nat, List.drop_zero, Nat.sub_zero, List.map_cons, List.length_cons]
      rw [Nat.min_eq_left (by omega)]
      simp
    refine ⟨h'.length + 2, [a, c], h' ++ [.lst ((c :: r).map D.str), .lst [.str c], .lst [.str a, .str c]], ?_, l.trans Le.app, by simp, ?_, by simp [Ne.symm hne], by simp, by simp⟩
    · have hq : h[n]? = some (.lst [D.str a]) := by simpa using q
      simp only [List.map_cons, List.map_nil] at e hcut
      simp [hq, asSeq_of hq, wipeD, e, opSl, hcut, opAdd, q']
    · intro z hz'
      simp at hz'
      rcases hz' with rfl | rfl
      · exact hz z (by simp)
      · exact hC
  · refine ⟨n, zs, h, ?_, Le.refl, q, hz, hn, by omega, hl⟩
    simp [asSeq_of q, show ¬ ((zs.length : Int) < 2) by omega]
theorem setting_ok {h : HC} {s : Int} : ∃ (zs : List Str) (b : Bool) (k : Int) (h' : HC), m_law_setting [.int s] h = .ok (setD zs b k) h' ∧ Le h h' ∧ IsS zs b k := by
  have b7 := mod_bnd (i := s / 7) (p := 7) (by omega)
  obtain ⟨n, hn⟩ : ∃ n : Nat, 2 + s / 7 % 7 = (n : Int) := ⟨(2 + s / 7 % 7).toNat, by omega⟩
  obtain ⟨s', h1, e1, ⟨x, y, rfl⟩, zs, g, rfl, hz, hnd, hlen, hne⟩ := forLoop_inv (fun i : Nat => D.int (i : Int)) (G := []) (g := gN 2) (body := fSeq (fSet 3 (fCall 1 m_law_code (fCons (fCall 2 m_law_seed (fCons (fVar 0) (fCons (fOp opAdd (fC (.int 10)) (fVar 2)) fNil))) fNil)))
      (fIfS (fBo (fOp opNotIn (fVar 3) (fVar 1))) (fExpr (fMt "list" mAppend (fVar 1) (fCons (fVar 3) fNil))) fNx))
    (fun l s' h' => (∃ x y, s' = [some (.int s), some (.ref h.length), x, y]) ∧ ∃ (zs : List Str) (g : HC), h' = h ++ .lst (zs.map D.str) :: g ∧ (∀ z ∈ zs, IsC z) ∧ zs.Nodup ∧ zs.length ≤ l.length ∧ (l ≠ [] → zs ≠ [])) (fun _ _ _ _ => rfl) (List.range n) [] [some (.int s), some (.ref h.length), none, none] (h ++ [.lst []])
    ⟨⟨_, _, rfl⟩, [], [], by simp, by simp, by simp, by simp, by simp⟩
    (fun l c s2 h' hp ⟨⟨x, y, hs⟩, zs, g, hh, hz, hnd, hlen, hne⟩ => by
      subst hs hh
      have hl : (l ++ [c]).length ≤ n := by
        have := hp.length_le
        simpa using this
      simp at hl
      obtain ⟨zs', y', g', e, a1, a2, a3, a4⟩ := set_step (h := h) (g := g) (s := s) (k := c) (y := y) hz hnd (by omega)
      exact ⟨_, _, _, rfl, e, ⟨_, _, rfl⟩, zs', g', rfl, a1, a2, by simp; omega, fun _ => a4⟩)
  simp only [List.nil_append, List.length_range] at e1 hlen
  obtain ⟨m, zs', h2, e2, l2, q2, b1, b2, b3, b4⟩ := more_ok (h := h ++ .lst (zs.map D.str) :: g) (n := h.length) (s := .int s) (x := x) (y := y) get_mid hz hnd (by omega) (hne (by
    intro e
    have := congrArg List.length e
    simp at this
    omega))
  have b13 := mod_bnd (i := s / 13) (p := 2) (by omega)
  obtain ⟨w, hw, w0, w1⟩ : ∃ w : Int, atI [D.int 60, D.int 9] (s / 13 % 2) = some (.int w) ∧ 0 < w ∧ w ≤ 60 := by
    have : s / 13 % 2 = 0 ∨ s / 13 % 2 = 1 := by omega
    rcases this with e | e
    · exact ⟨60, by rw [e]; simp, by decide, by decide⟩
    · exact ⟨9, by rw [e]; simp, by decide, by decide⟩
  obtain ⟨v, e3, _, _⟩ := seed_ok (h := h2) (s := s) (k := 30)
  obtain ⟨u, e4, u0, u1⟩ := pick_ok (h := h2 ++ [.lst [.int 60, .int 9]]) (s := v) (m := w) w0
  refine ⟨zs', decide (s / 11 % 2 = 0), 1 + u, h2 ++ [.lst [.int 60, .int 9]], ?_, Le.trans Le.app (l2.trans Le.app), ⟨b3, b4, b1, b2, by omega, by omega⟩⟩
  have hb : n ≤ BIG := by simp only [BIG]; omega
  have hb2 : zs'.length ≤ BIG := Nat.le_trans b4 (by decide)
  simp only [m_law_setting, fnRun]
  simp [hn, hb, e1, -fIfS_ap, e2, bTuple, asSeq_of q2, hb2, e3, hw, e4]
  simp [setD]
end G9


set_option Elab.async false
set_option linter.all false
set_option maxRecDepth 100000
set_option maxHeartbeats 0
namespace G9
open PySem L2
theorem law_beats_step {h g : HC} {bs : List Bool} {c : Nat} {z : D} {k : Nat} (hc : Sg c) (hl : bs.length ≤ 1000) (hk : h[k]? = some (.lst (bs.map D.bl))) : ∃ d h', (fSet 1 (fOp opAdd (fOp opAdd (fVar 1) (fOp opMul (fLst (fCons (fC (.bl true)) fNil)) (fOp opDGet (fDisp [((fC (.str "s")), (fC (.int 1))), ((fC (.str "l")), (fC (.int 3)))]) (fVar 2)))) (fLst (fCons (fC (.bl false)) fNil))))
    [some z, some (.ref k), some (.str ⟨#[c]⟩)] h = .nx [some z, some d, some (.str ⟨#[c]⟩)] h' ∧ Le h h' ∧ LB h' d (bs ++ pt c) := by
  have hb : h.length + 1 = h.length + 1 := rfl
  have hk2 : k < h.length := (List.getElem?_eq_some_iff.mp hk).1
  have hk3 : ∀ g : HC, (h ++ g)[k]? = some (.lst (bs.map D.bl)) := fun g => Le.get Le.app hk
  rcases hc with rfl | rfl
  · simp [lit_s, lit_l, fDisp, fPairs, keysP, optAll, toKey, newL, BIG, mergeD, putD, opDGet, dGet, valD, opMul, opAdd, hk3, Nat.add_assoc]
    rw [if_pos (by omega)]
    simp [hk3, show bs.length ≤ 99998 by omega]
    first | exact ⟨_, _, ⟨rfl, rfl⟩, Le.app, _, rfl, by simp [pt]⟩ | exact ⟨_, _, rfl, Le.app, _, rfl, by simp [pt]⟩
  · simp [lit_s, lit_l, fDisp, fPairs, keysP, optAll, toKey, newL, BIG, mergeD, putD, opDGet, dGet, valD, opMul, opAdd, hk3, Nat.add_assoc]
    rw [if_pos (by omega)]
    simp [hk3, show bs.length ≤ 99996 by omega]
    first | exact ⟨_, _, ⟨rfl, rfl⟩, Le.app, _, rfl, by simp [pt]⟩ | exact ⟨_, _, rfl, Le.app, _, rfl, by simp [pt]⟩
theorem law_beats_ok {h : HC} {z : Str} (hz : IsC z) : ∃ d h', m_law_beats [.str z] h = .ok d h' ∧ Le h h' ∧ LB h' d (pat (cs z)) := by
  obtain ⟨s', h', e, ⟨k, x, rfl, q⟩, l⟩ := forLoop_inv (fun c : Nat => D.str ⟨#[c]⟩) (G := []) (g := gN 2) (body := (fSet 1 (fOp opAdd (fOp opAdd (fVar 1) (fOp opMul (fLst (fCons (fC (.bl true)) fNil)) (fOp opDGet (fDisp [((fC (.str "s")), (fC (.int 1))), ((fC (.str "l")), (fC (.int 3)))]) (fVar 2)))) (fLst (fCons (fC (.bl false)) fNil)))))
    (fun l s h' => (∃ k x, s = [some (.str z), some (.ref k), x] ∧ h'[k]? = some (.lst ((pt0 l).map D.bl))) ∧ Le h h') (fun _ _ _ _ => rfl) (cs z) [] [some (.str z), some (.ref h.length), none] (h ++ [.lst []]) ⟨⟨_, _, rfl, by simp [pt0]⟩, Le.app⟩
    (fun l c s h' hp ⟨⟨k, x, hs, q⟩, le⟩ => by
      subst hs
      have hm : c ∈ cs z := by
        have := hp.subset (show c ∈ l ++ [c] by simp)
        simpa using this
      have hl : l.length ≤ 4 := by
        have := hp.length_le
        have := hz.hi
        simp at *
        omega
      obtain ⟨d, h2, e, l2, k2, rfl, q2⟩ := law_beats_step (g := []) (z := .str z) (hz.sg c hm) (by have := pt0_len (l := l); omega) q
      exact ⟨_, _, _, rfl, e, ⟨_, _, rfl, by simpa [pt0] using q2⟩, le.trans l2⟩)
  have hl := pt0_len (l := cs z)
  have h4 : (cs z).length ≤ 4 := hz.hi
  simp only [List.nil_append] at e q
  simp only [m_law_beats, fnRun]
  have q2 : ∀ g : HC, (h' ++ g)[k]? = some (.lst ((pt0 (cs z)).map D.bl)) := fun g => Le.get Le.app q
  simp [e, newL, BIG, opAdd, q2]
  rw [if_pos (by omega)]
  simp
  first | exact ⟨_, _, ⟨rfl, rfl⟩, l.trans Le.app, _, rfl, by simp [pat]⟩ | exact ⟨_, _, rfl, l.trans Le.app, _, rfl, by simp [pat]⟩
theorem whole_ok {h : HC} {i : Int} : m_law_whole [.int i] h = .ok (.bl true) h := by
  simp only [m_law_whole, fnRun]
  simp
end G9


set_option Elab.async false
set_option linter.all false
set_option maxRecDepth 100000
set_option maxHeartbeats 0
namespace G9
open PySem L2
@[simp] theorem fPar_ap {i j : Nat} {as : EA} {s : SD} {h : HC} : fPar i j as s h = ofR s (as s h) fun xs h1 => match xs with | [a, b] => .nx ((s.set i (some a)).set j (some b)) h1 | _ => .bad := id rfl
@[simp] theorem fItZM_ap {a b : EE} {s : SD} {h : HC} : fItZM a b s h = (a s h).bind fun x h1 => (b s h1).bind fun y h2 => match x, y with | .ref n, .tup ys => (match h2[n]? with | some (.lst xs) => .ok (zipD xs ys, [(n, .lst xs)]) h2 | _ => .bad) | _, _ => .bad := id rfl
@[simp] theorem fNeg_ap {a : EE} {s : SD} {h : HC} : fNeg a s h = (a s h).bind fun x h1 => match x with | .int i => .ok (.int (-i)) h1 | _ => .bad := id rfl
/-- a list of texts stands there -/
def LS (h : HC) (d : D) (zs : List Str) : Prop := ∃ n, d = .ref n ∧ h[n]? = some (.lst (zs.map D.str))
theorem LS.mono {h h' : HC} {d : D} {zs : List Str} (a : LS h d zs) (l : Le h h') : LS h' d zs := by
  obtain ⟨n, e, q⟩ := a
  exact ⟨n, e, l.get q⟩
/-- one more sign behind each -/
def more (c : Str) (zs : List Str) : List Str := zs.map fun z => z ++ c
theorem addS {h : HC} {a b : Str} (e : a.length + b.length ≤ BIG) : opAdd (.str a) (.str b) h = .ok (.str (a ++ b)) h := by
  simp only [opAdd, e, if_true]
theorem len_add {a b : Str} : (a ++ b).length = a.length + b.length := by
  show (a.cps ++ b.cps).size = a.cps.size + b.cps.size
  simp
theorem cps_add {a b : Str} : (a ++ b).cps.toList = a.cps.toList ++ b.cps.toList := by
  show (a.cps ++ b.cps).toList = _
  simp
/-- [code + c for code in found], at a slot -/
theorem more_lc {h : HC} {n : Nat} {zs : List Str} {c : Str} {s : SD} {i : Nat} (q : h[n]? = some (.lst (zs.map D.str))) (hz : ∀ z ∈ zs, z.length ≤ 100) (hc : c.length = 1) (hl : zs.length ≤ 1000) (hs : i < s.length) :
    ∃ h', lcLoop [(n, .lst (zs.map D.str))] (gN i) fYes (fOp opAdd (fVar i) (fC (.str c))) s (zs.map D.str) [] h = .ok ((more c zs).map D.str) h' ∧ Le h h' := by
  obtain ⟨h', e, l⟩ := lcLoop_fn D.str (G := [(n, .lst (zs.map D.str))]) (g := gN i) (c := fYes) (a := fOp opAdd (fVar i) (fC (.str c))) (s := s) (h0 := h) (fun _ => true) (fun z => .str (z ++ c)) (fun h l => by simp [chk, l.get q]) zs h Le.refl (by simp only [BIG]; omega)
    (fun z hz' h l => by
      have := hz z hz'
      refine ⟨_, h, rfl, rfl, Le.refl, fun _ => ⟨h, ?_, Le.refl⟩⟩
      have e1 : (s.set i (some (D.str z)))[i]? = some (some (.str z)) := by simp [hs]
      simp only [fOp_ap, fVar_ap, fC_ap, e1, bind_ok]
      exact addS (by simp only [BIG]; omega))
  rw [flt_t] at e
  exact ⟨h', by rw [e]; simp [more], l⟩
def step (zs : List Str) : List Str := more "l" zs ++ more "s" zs
theorem len_l : ("l" : Str).length = 1 := by decide +kernel
theorem len_s : ("s" : Str).length = 1 := by decide +kernel
def R0 : List Str := [""]
def R1 : List Str := step R0
def R2 : List Str := step R1
def R3 : List Str := step R2
def R4 : List Str := step R3
def AC : List Str := R1 ++ R2 ++ R3 ++ R4
theorem AC_len : AC.length = 30 := by decide +kernel
theorem AC_nodup : AC.Nodup := by decide +kernel
theorem AC_code : ∀ z ∈ AC, IsC z := by
  have : ∀ z ∈ AC, 1 ≤ z.cps.toList.length ∧ z.cps.toList.length ≤ 4 ∧ ∀ c ∈ z.cps.toList, c = 115 ∨ c = 108 := by decide +kernel
  exact fun z hz => ⟨(this z hz).1, (this z hz).2.1, (this z hz).2.2⟩
theorem AC_all {z : Str} (h : IsC z) : z ∈ AC := by
  have := allC_mem h.lo h.hi h.sg
  have key : ∀ l ∈ allC, (⟨l.toArray⟩ : Str) ∈ AC := by decide +kernel
  have e := key _ this
  simpa using e
end G9

set_option Elab.async false
set_option linter.all false
set_option maxRecDepth 100000
set_option maxHeartbeats 0
namespace G9
open PySem L2
theorem step_len {zs : List Str} (h : ∀ z ∈ zs, z.length ≤ 10) : ∀ z ∈ step zs, z.length ≤ 11 := by
  intro z hz
  simp only [step, more, List.mem_append, List.mem_map] at hz
  rcases hz with ⟨y, hy, rfl⟩ | ⟨y, hy, rfl⟩
  · rw [len_add, len_l]; have := h y hy; omega
  · rw [len_add, len_s]; have := h y hy; omega
/-- one turn: [code + 'l' for code in found] + [code + 's' for code in found] -/
theorem turn_ok {h : HC} {n : Nat} {zs : List Str} {s : SD} {i j : Nat} (hj : s[j]? = some (some (.ref n))) (hij : i ≠ j) (hi : i < s.length) (q : h[n]? = some (.lst (zs.map D.str))) (hz : ∀ z ∈ zs, z.length ≤ 10) (hl : zs.length ≤ 100) :
    ∃ m h', fOp opAdd (fLc (fItL (fVar j)) [i] (gN i) fYes (fOp opAdd (fVar i) (fC (.str "l")))) (fLc (fItL (fVar j)) [i] (gN i) fYes (fOp opAdd (fVar i) (fC (.str "s")))) s h = .ok (.ref m) h' ∧ Le h h' ∧ h'[m]? = some (.lst ((step zs).map D.str)) := by
  have hw : wipeD s [i] = s.set i none := rfl
  obtain ⟨h1, e1, l1⟩ := more_lc (s := s.set i none) (i := i) (c := "l") q (fun z hz' => by have := hz z hz'; omega) len_l (by omega) (by simpa using hi)
  have q1 : (h1 ++ [Cell.lst ((more "l" zs).map D.str)])[n]? = some (.lst (zs.map D.str)) := (l1.trans Le.app).get q
  obtain ⟨h2, e2, l2⟩ := more_lc (s := s.set i none) (i := i) (c := "s") q1 (fun z hz' => by have := hz z hz'; omega) len_s (by omega) (by simpa using hi)
  have q2 : h2[h1.length]? = some (.lst ((more "l" zs).map D.str)) := l2.get last_get
  have ea : opAdd (.ref h1.length) (.ref h2.length) (h2 ++ [.lst ((more "s" zs).map D.str)]) = newL ((more "l" zs).map D.str ++ (more "s" zs).map D.str) (h2 ++ [.lst ((more "s" zs).map D.str)]) := add_lst (Le.app.get q2) last_get
  have en := newL_ok' (h := h2 ++ [Cell.lst ((more "s" zs).map D.str)]) (xs := (more "l" zs).map D.str ++ (more "s" zs).map D.str) (by simp [more, BIG]; omega)
  refine ⟨_, _, ?_, ((l1.trans Le.app).trans (l2.trans Le.app)).trans Le.app, last_get (h := h2 ++ [Cell.lst ((more "s" zs).map D.str)]) (c := .lst ((step zs).map D.str))⟩
  simp only [fOp_ap, fLc_ap, fItL_ap, fVar_ap, hj, bind_ok, q, hw, e1, q1, e2, ea, en, step, List.map_append]
end G9

set_option Elab.async false
set_option linter.all false
set_option maxRecDepth 100000
set_option maxHeartbeats 0
namespace G9
open PySem L2
def rowN : Nat → List Str
  | 0 => [""]
  | k + 1 => step (rowN k)
def accN : Nat → List Str
  | 0 => []
  | k + 1 => accN k ++ rowN (k + 1)
theorem acc4 : accN 4 = AC := by decide +kernel
theorem row_ok : ∀ k : Nat, k ≤ 4 → (∀ z ∈ rowN k, z.length ≤ 10) ∧ (rowN k).length ≤ 16 ∧ (accN k).length ≤ 30 := by
  intro k hk
  have : k = 0 ∨ k = 1 ∨ k = 2 ∨ k = 3 ∨ k = 4 := by omega
  rcases this with rfl | rfl | rfl | rfl | rfl <;> decide +kernel
theorem mExtend_of {h : HC} {n k : Nat} {xs ys : List D} (e1 : h[n]? = some (.lst xs)) (e2 : h[k]? = some (.lst ys)) (hl : xs.length + ys.length ≤ BIG) : mExtend (.ref n) [.ref k] h = .ok .non (h.set n (.lst (xs ++ ys))) := by
  simp only [mExtend, e1, e2, hl, if_true]
theorem all_codes_ok {h : HC} : ∃ d h', m_all_codes [] h = .ok d h' ∧ Le h h' ∧ LS h' d AC := by
  obtain ⟨hb, hhb⟩ : ∃ hb, hb = h ++ [Cell.lst [.str ""]] := ⟨_, rfl⟩
  have hbl : hb.length = h.length + 1 := by rw [hhb]; simp
  obtain ⟨s', h', e, ⟨m, x, rfl, qm⟩, g, rfl⟩ := forLoop_inv (fun i : Nat => D.int (i : Int)) (G := []) (g := gN 2) (body := fSeq (fSet 0 (fOp opAdd (fLc (fItL (fVar 0)) [3] (gN 3) fYes (fOp opAdd (fVar 3) (fC (.str "l")))) (fLc (fItL (fVar 0)) [3] (gN 3) fYes (fOp opAdd (fVar 3) (fC (.str "s"))))))
    (fExpr (fMt "list" mExtend (fVar 1) (fCons (fVar 0) fNil))))
    (fun l s h' => (∃ m x, s = [some (.ref m), some (.ref hb.length), x, none] ∧ m ≠ hb.length ∧ h'[m]? = some (.lst ((rowN l.length).map D.str))) ∧ ∃ g, h' = hb ++ .lst ((accN l.length).map D.str) :: g) (fun _ _ _ _ => rfl) (List.range 4) []
    [some (.ref h.length), some (.ref hb.length), none, none] (hb ++ [.lst []]) ⟨⟨_, _, rfl, by omega, by rw [hhb]; simp [rowN]⟩, [], by simp [accN]⟩
    (fun l c s h' hp ⟨⟨m, x, hs, hm, qm⟩, g, hh⟩ => by
      subst hs
      have hl : (l ++ [c]).length ≤ 4 := by
        have := hp.length_le
        simpa using this
      simp at hl
      obtain ⟨r1, r2, r3⟩ := row_ok l.length (by omega)
      obtain ⟨_, r5, r6⟩ := row_ok (l.length + 1) (by omega)
      obtain ⟨m', h2, e1, l1, q1⟩ := turn_ok (s := [some (.ref m), some (.ref hb.length), some (.int (c : Int)), none]) (i := 3) (j := 0) rfl (by decide) (by simp) qm r1 (by omega)
      have l1' := l1
      obtain ⟨g2, rfl⟩ := l1
      have qa : (h' ++ g2)[hb.length]? = some (.lst ((accN l.length).map D.str)) := by rw [hh]; simp
      have e2 := mExtend_of (h := h' ++ g2) qa q1 (by simp only [List.length_map, BIG]; have : (step (rowN l.length)).length ≤ 16 := r5; omega)
      have hm' : m' ≠ hb.length := by
        rintro rfl
        rw [qa] at q1
        have := congrArg (fun o => match o with | some (Cell.lst xs) => xs.length | _ => 0) q1
        have hne : ∀ k : Nat, k ≤ 3 → (accN k).length ≠ (step (rowN k)).length := by decide +kernel
        simp only [List.length_map] at this
        exact hne l.length (by omega) this
      have es : (h' ++ g2).set hb.length (.lst ((accN l.length).map D.str ++ (step (rowN l.length)).map D.str)) = hb ++ .lst ((accN (l.length + 1)).map D.str) :: (g ++ g2) := by
        rw [hh]
        simp [accN, rowN]
      refine ⟨_, [some (.ref m'), some (.ref hb.length), some (.int (c : Int)), none], (h' ++ g2).set hb.length (.lst ((accN l.length).map D.str ++ (step (rowN l.length)).map D.str)), rfl, ?_, ⟨m', _, rfl, hm', ?_⟩, g ++ g2, by rw [List.length_append]; exact es⟩
      · simp only [fSeq_ap, fSet_ap]
        rw [show ([some (D.ref m), some (.ref hb.length), x, none].set 2 (some (D.int (c : Int)))) = [some (.ref m), some (.ref hb.length), some (.int (c : Int)), none] from rfl, e1]
        simp only [ofR_ok, List.set_cons_zero, fExpr_ap, fMt_ap, fVar_ap, fCons_ap, fNil_ap, bind_ok, List.getElem?_cons_succ, List.getElem?_cons_zero, hasTy, qa, decide_true, if_true, e2]
      · rw [List.getElem?_set_ne (Ne.symm hm'), q1]
        simp [rowN])
  simp only [List.nil_append, List.length_range, acc4] at e
  refine ⟨.ref hb.length, hb ++ .lst (AC.map D.str) :: g, ?_, ?_, _, rfl, get_mid⟩
  · have n1 := newL_ok' (h := h) (xs := [D.str ""]) (by simp)
    have n2 := newL_ok' (h := hb) (xs := []) (by simp)
    have hr := itR1_nat (h := hb ++ [.lst []]) (n := 4) (by simp)
    simp only [show ((4 : Nat) : Int) = 4 from rfl] at hr
    rw [← hhb] at n1
    simp only [m_all_codes, fnRun]
    rw [show (List.map some ([] : List D) ++ List.replicate (4 - ([] : List D).length) none : SD) = [none, none, none, none] from rfl]
    simp only [fSeq_ap, fSet_ap, fLst_ap, fCons_ap, fNil_ap, fC_ap, bind_ok, n1, n2, ofR_ok, List.set_cons_zero, List.set_cons_succ, fFor_ap, fItR1_ap, hr, e, fRet_ap, fVar_ap, List.getElem?_cons_succ, List.getElem?_cons_zero]
  · rw [hhb]
    exact Le.app.trans Le.app
end G9

set_option Elab.async false
set_option linter.all false
set_option maxRecDepth 100000
set_option maxHeartbeats 0
namespace G9
open PySem L2
def tkZ (z : Str) : Int := ((pat (cs z)).length : Int)
def prZ (z : Str) : D := .tup [.int (tkZ z), .str z]
def pyZ (z : Str) : PyData := .tuple [.int (tkZ z), .str z]
def leZ (a b : Str) : Bool := PySem.W.dataLe false (Prod.snd : D × PyData → PyData) (prZ a, pyZ a) (prZ b, pyZ b)
def BK : List Str := AC.mergeSort leZ
theorem BK_perm : BK.Perm AC := List.mergeSort_perm AC leZ
theorem BK_len : BK.length = 30 := by rw [BK_perm.length_eq, AC_len]
theorem BK_nodup : BK.Nodup := BK_perm.nodup_iff.mpr AC_nodup
theorem BK_all {z : Str} (h : IsC z) : z ∈ BK := BK_perm.mem_iff.mpr (AC_all h)
theorem BK_code {z : Str} (h : z ∈ BK) : IsC z := AC_code z (BK_perm.mem_iff.mp h)
theorem sortBy_map {α : Type} (l : List Str) (f : Str → α) (g : Str → PyData) : sortBy (l.map f) (l.map g) = (l.mergeSort fun a b => PySem.W.dataLe false (Prod.snd : α × PyData → PyData) (f a, g a) (f b, g b)).map f := by
  unfold sortBy
  have hz : (l.map f).zip (l.map g) = l.map fun a => (f a, g a) := by
    induction l with
    | nil => rfl
    | cons a l ih => simp [ih]
  rw [hz]
  have := List.map_mergeSort (r := fun a b => PySem.W.dataLe false (Prod.snd : α × PyData → PyData) (f a, g a) (f b, g b)) (s := PySem.W.dataLe false (Prod.snd : α × PyData → PyData)) (f := fun a => (f a, g a)) (l := l) (fun _ _ _ _ => rfl)
  rw [← this, List.map_map]
  rfl
theorem toPy_prZ {h : HC} {z : Str} (hz : IsC z) : toPy h 8 (prZ z) = some (pyZ z) := by
  simp [prZ, pyZ, toPy, optAll, hz.ok]
theorem alike_Z (a b : Str) : PySem.W.alike (pyZ a) (pyZ b) = true := by
  simp [pyZ, PySem.W.alike, PySem.W.alikeAll]
theorem sortA_ok {h : HC} {n : Nat} (q : h[n]? = some (.lst (AC.map prZ))) : bSortA [.ref n] h = .ok (.ref h.length) (h ++ [.lst (BK.map prZ)]) := by
  obtain ⟨a, l, hal⟩ : ∃ a l, AC = a :: l := ⟨_, _, rfl⟩
  have h1 : bSorted [.ref n] h = .bad := by
    have e1 : intsD (AC.map prZ) = none := by rw [hal]; rfl
    have e2 : ((AC.map prZ).all fun d => (keyP d).isSome) = false := by rw [hal]; rfl
    simp only [bSorted, asSeq_of q, e1, e2]
    rfl
  have h2 : optAll ((AC.map prZ).map (toPy h 8)) = some (AC.map pyZ) := by
    rw [List.map_map]
    exact optAll_map fun z hz => toPy_prZ (AC_code z hz)
  have h3 : alikeB (AC.map pyZ) = true := by
    simp only [alikeB, List.all_eq_true, List.mem_map]
    rintro p ⟨x, _, rfl⟩ r ⟨y, _, rfl⟩
    exact alike_Z x y
  have h4 : sortableB (AC.map pyZ) = true := by
    have : (AC.map pyZ).all isTup1 = true := by
      simp only [List.all_eq_true, List.mem_map]
      rintro p ⟨x, _, rfl⟩
      rfl
    simp [sortableB, this]
  have h5 : sortBy (AC.map prZ) (AC.map pyZ) = BK.map prZ := sortBy_map AC prZ pyZ
  simp only [bSortA, h1, bSortD, asSeq_of q, h2, h3, h4, h5, and_self, if_true]
  refine newL_ok' ?_
  rw [List.length_map, BK_len]
  decide
/-- the pairs, then sorted, then the codes of them: as both write it -/
theorem pairs_lc {h : HC} {n : Nat} {s : SD} {i : Nat} {fm : List D → HC → Res D} (q : h[n]? = some (.lst (AC.map D.str))) (hi : i < s.length) (hf : ∀ z, IsC z → ∀ h, ∃ d h', fm [.str z] h = .ok d h' ∧ Le h h' ∧ LB h' d (pat (cs z))) :
    ∃ h', lcLoop [(n, .lst (AC.map D.str))] (gN i) fYes (fTup (fCons (fCl bLen (fCons (fCall 1 fm (fCons (fVar i) fNil)) fNil)) (fCons (fVar i) fNil))) s (AC.map D.str) [] h = .ok (AC.map prZ) h' ∧ Le h h' := by
  obtain ⟨h', e, l⟩ := lcLoop_fn D.str (G := [(n, .lst (AC.map D.str))]) (g := gN i) (c := fYes) (a := fTup (fCons (fCl bLen (fCons (fCall 1 fm (fCons (fVar i) fNil)) fNil)) (fCons (fVar i) fNil))) (s := s) (h0 := h) (fun _ => true) prZ (fun h l => by simp [chk, l.get q]) AC h Le.refl (by rw [AC_len]; decide)
    (fun z hz h l => by
      obtain ⟨d, h1, e1, l1, k, rfl, qk⟩ := hf z (AC_code z hz) h
      refine ⟨_, h, rfl, rfl, Le.refl, fun _ => ⟨h1, ?_, l1⟩⟩
      have e0 : (s.set i (some (D.str z)))[i]? = some (some (.str z)) := by simp [hi]
      have el : bLen [.ref k] h1 = .ok (.int (tkZ z)) h1 := by simp [asSeq_of qk, tkZ]
      have em := mkT_ok' (h := h1) (xs := [D.int (tkZ z), .str z]) (by simp)
      simp only [fTup_ap, fCons_ap, fCl_ap, fCall_ap, fNil_ap, fVar_ap, e0, bind_ok, List.length_cons, List.length_nil, if_true, e1, el, em]
      rfl)
  rw [flt_t] at e
  exact ⟨h', e, l⟩
theorem codes_lc {h : HC} {n : Nat} {s : SD} {i j : Nat} (q : h[n]? = some (.lst (BK.map prZ))) (hi : i < s.length) (hj : j < s.length) (hij : i ≠ j) :
    ∃ h', lcLoop [(n, .lst (BK.map prZ))] (gT (gsC (gN j) (gsC (gN i) gsN))) fYes (fVar i) s (BK.map prZ) [] h = .ok (BK.map D.str) h' ∧ Le h h' := by
  obtain ⟨h', e, l⟩ := lcLoop_fn prZ (G := [(n, .lst (BK.map prZ))]) (g := gT (gsC (gN j) (gsC (gN i) gsN))) (c := fYes) (a := fVar i) (s := s) (h0 := h) (fun _ => true) D.str (fun h l => by simp [chk, l.get q]) BK h Le.refl (by rw [BK_len]; decide)
    (fun z hz h l => by
      refine ⟨(s.set j (some (.int (tkZ z)))).set i (some (.str z)), h, rfl, rfl, Le.refl, fun _ => ⟨h, ?_, Le.refl⟩⟩
      have e0 : ((s.set j (some (.int (tkZ z)))).set i (some (D.str z)))[i]? = some (some (.str z)) := by simp [hi]
      simp only [fVar_ap, e0])
  rw [flt_t] at e
  exact ⟨h', e, l⟩
theorem book_ok {h : HC} : ∃ d h', m_book [] h = .ok d h' ∧ Le h h' ∧ LS h' d BK := by
  obtain ⟨d, h1, e1, l1, n, rfl, q1⟩ := all_codes_ok (h := h)
  obtain ⟨h2, e2, l2⟩ := pairs_lc (s := [none, none]) (i := 1) (fm := m_beats) q1 (by simp) (fun z hz h => beats_ok hz)
  have e3 := sortA_ok (h := h2 ++ [.lst (AC.map prZ)]) (n := h2.length) last_get
  have q3 := last_get (h := h2 ++ [Cell.lst (AC.map prZ)]) (c := .lst (BK.map prZ))
  obtain ⟨h4, e4, l4⟩ := codes_lc (s := [none, none]) (i := 1) (j := 0) q3 (by simp) (by simp) (by decide)
  refine ⟨.ref h4.length, h4 ++ [.lst (BK.map D.str)], ?_, ((l1.trans l2).trans (Le.app.trans Le.app)).trans (l4.trans Le.app), _, rfl, last_get⟩
  simp only [m_book, fnRun]
  rw [show (List.map some ([] : List D) ++ List.replicate (2 - ([] : List D).length) none : SD) = [none, none] from rfl]
  simp only [fRet_ap, fLc_ap, fItL_ap, fCl_ap, fCons_ap, fNil_ap, fCall0_ap, e1, bind_ok, q1, wipeD, List.set_cons_zero, List.set_cons_succ, e2, e3, q3, e4, ofR_ok]
end G9

set_option Elab.async false
set_option linter.all false
set_option maxRecDepth 100000
set_option maxHeartbeats 0
namespace G9
open PySem L2
theorem law_all_ok {h : HC} : ∃ d h', m_law_all_codes [] h = .ok d h' ∧ Le h h' ∧ LS h' d BK := by
  obtain ⟨s', h1, e, ⟨m, k, x, rfl, qm, qk⟩, l⟩ := forLoop_inv (fun i : Nat => D.int (i : Int)) (G := []) (g := gN 2) (body := (fSeq (fSet 1 (fOp opAdd (fLc (fItL (fVar 1)) [3] (gN 3) fYes (fOp opAdd (fVar 3) (fC (.str "l")))) (fLc (fItL (fVar 1)) [3] (gN 3) fYes (fOp opAdd (fVar 3) (fC (.str "s"))))))
    (fSet 0 (fOp opAdd (fVar 0) (fVar 1)))))
    (fun l s h' => (∃ m k x, s = [some (.ref k), some (.ref m), x, none, none] ∧ h'[m]? = some (.lst ((rowN l.length).map D.str)) ∧ h'[k]? = some (.lst ((accN l.length).map D.str))) ∧ Le h h') (fun _ _ _ _ => rfl) (List.range 4) []
    [some (.ref h.length), some (.ref (h ++ [Cell.lst []]).length), none, none, none] ((h ++ [.lst []]) ++ [.lst [.str ""]]) ⟨⟨_, _, _, rfl, last_get, Le.app.get last_get⟩, Le.app.trans Le.app⟩
    (fun l c s h' hp ⟨⟨m, k, x, hs, qm, qk⟩, le⟩ => by
      subst hs
      have hl : (l ++ [c]).length ≤ 4 := by
        have := hp.length_le
        simpa using this
      simp at hl
      obtain ⟨r1, r2, r3⟩ := row_ok l.length (by omega)
      obtain ⟨_, r5, r6⟩ := row_ok (l.length + 1) (by omega)
      obtain ⟨m', h2, e1, l1, q1⟩ := turn_ok (s := [some (.ref k), some (.ref m), some (.int (c : Int)), none, none]) (i := 3) (j := 1) rfl (by decide) (by simp) qm r1 (by omega)
      have ea := add_lst (h := h2) (l1.get qk) q1
      have en := newL_ok' (h := h2) (xs := (accN l.length).map D.str ++ (step (rowN l.length)).map D.str) (by simp only [List.length_append, List.length_map, BIG]; have : (step (rowN l.length)).length ≤ 16 := r5; omega)
      refine ⟨_, [some (.ref h2.length), some (.ref m'), some (.int (c : Int)), none, none], h2 ++ [.lst ((accN l.length).map D.str ++ (step (rowN l.length)).map D.str)], rfl, ?_, ⟨m', h2.length, _, rfl, ?_, ?_⟩, (le.trans l1).trans Le.app⟩
      · simp only [fSeq_ap, fSet_ap]
        rw [show ([some (D.ref k), some (.ref m), x, none, none].set 2 (some (D.int (c : Int)))) = [some (.ref k), some (.ref m), some (.int (c : Int)), none, none] from rfl, e1]
        simp only [ofR_ok, List.set_cons_zero, List.set_cons_succ, fOp_ap, fVar_ap, bind_ok, List.getElem?_cons_succ, List.getElem?_cons_zero, ea, en]
      · rw [Le.app.get q1]
        simp [rowN]
      · rw [last_get]
        simp [accN, rowN])
  simp only [List.nil_append, List.length_range, acc4] at e qk
  obtain ⟨h2, e2, l2⟩ := pairs_lc (s := [some (.ref k), some (.ref m), x, none, none]) (i := 3) (fm := m_law_beats) qk (by simp) (fun z hz h => law_beats_ok hz)
  have e3 := sortA_ok (h := h2 ++ [.lst (AC.map prZ)]) (n := h2.length) last_get
  have q3 := last_get (h := h2 ++ [Cell.lst (AC.map prZ)]) (c := .lst (BK.map prZ))
  obtain ⟨h4, e4, l4⟩ := codes_lc (s := [some (.ref k), some (.ref m), x, none, none]) (i := 3) (j := 4) q3 (by simp) (by simp) (by decide)
  refine ⟨.ref h4.length, h4 ++ [.lst (BK.map D.str)], ?_, ((l.trans l2).trans (Le.app.trans Le.app)).trans (l4.trans Le.app), _, rfl, last_get⟩
  have n1 := newL_ok' (h := h) (xs := []) (by simp)
  have n2 := newL_ok' (h := h ++ [Cell.lst []]) (xs := [D.str ""]) (by simp)
  have hr := itR1_nat (h := (h ++ [Cell.lst []]) ++ [.lst [.str ""]]) (n := 4) (by simp)
  simp only [show ((4 : Nat) : Int) = 4 from rfl] at hr
  simp only [m_law_all_codes, fnRun]
  rw [show (List.map some ([] : List D) ++ List.replicate (5 - ([] : List D).length) none : SD) = [none, none, none, none, none] from rfl]
  simp only [fSeq_ap, fPar_ap, fLst_ap, fCons_ap, fNil_ap, fC_ap, bind_ok, n1, n2, ofR_ok, List.set_cons_zero, List.set_cons_succ, fFor_ap, fItR1_ap, hr, e, fRet_ap, fLc_ap, fItL_ap, fCl_ap, fVar_ap, List.getElem?_cons_succ, List.getElem?_cons_zero, qk, wipeD, e2, e3, q3, e4]
theorem LS.ix {h : HC} {d : D} {zs : List Str} {k : Nat} {z : Str} (x : LS h d zs) (e : zs[k]? = some z) : opIx d (.int (k : Int)) h = .ok (.str z) h := by
  obtain ⟨n, rfl, q⟩ := x
  have a : atI (zs.map D.str) (k : Int) = some (.str z) := atI_nat (by simp [e])
  simp [asSeq_of q, a]
theorem LS.len {h : HC} {d : D} {zs : List Str} (x : LS h d zs) : bLen [d] h = .ok (.int (zs.length : Int)) h := by
  obtain ⟨n, rfl, q⟩ := x
  simp [asSeq_of q]
theorem LS.index {h : HC} {d : D} {zs : List Str} {k : Nat} {z : Str} (x : LS h d zs) (hc : ∀ z ∈ zs, IsC z) (hn : zs.Nodup) (e : zs[k]? = some z) : hasTy "list" h d = true ∧ mIndex d [.str z] h = .ok (.int (k : Int)) h := by
  obtain ⟨n, rfl, q⟩ := x
  have hz : IsC z := hc z (List.mem_of_getElem? e)
  have e1 := toPy_strs (k := 7) q hc
  have e2 : toPy h 9 (.str z) = some (.str z) := by simp [toPy, hz.ok]
  have hk : k < zs.length := (List.getElem?_eq_some_iff.mp e).1
  have hi : idxOf (zs.map PyData.str) (.str z) = some k := by
    unfold idxOf
    rw [List.findIdx?_eq_some_iff_getElem]
    have ek : zs[k] = z := (List.getElem?_eq_some_iff.mp e).2
    refine ⟨by simpa using hk, by simp [PyData.eqv, ek], fun j hj => ?_⟩
    have hj2 : j < zs.length := by omega
    have : zs[j] ≠ z := by
      intro w
      have := (List.getElem_inj hn).mp (w.trans ek.symm)
      omega
    simp [PyData.eqv, this]
  refine ⟨by simp [hasTy, q], ?_⟩
  simp only [mIndex, e1, e2, hi]
theorem code_at_ok {h : HC} {k : Nat} {z : Str} (e : BK[k]? = some z) : ∃ h', m_code_at [.int (k : Int)] h = .ok (.str z) h' ∧ Le h h' := by
  obtain ⟨d, h1, e1, l1, x⟩ := book_ok (h := h)
  have hk : k < 30 := by
    have := (List.getElem?_eq_some_iff.mp e).1
    rwa [BK_len] at this
  have e2 := x.len
  rw [BK_len] at e2
  have e3 : m_is_within [.int (k : Int), .int 0, .int (((30 : Nat) : Int) - 1)] h1 = .ok (.bl true) h1 := is_within_yes (by omega) (by omega)
  have e4 := x.ix e
  refine ⟨h1, ?_, l1⟩
  simp only [m_code_at, fnRun]
  rw [show (List.map some [D.int (k : Int)] ++ List.replicate (2 - [D.int (k : Int)].length) none : SD) = [some (.int (k : Int)), none] from rfl]
  simp only [fSeq_ap, fSet_ap, fCall0_ap, e1, ofR_ok, List.set_cons_zero, List.set_cons_succ, fIfS_ap, fNot_ap, fTru_ap, fCall_ap, fCons_ap, fNil_ap, fVar_ap, fC_ap, fOp_ap, fCl_ap, bind_ok, List.getElem?_cons_succ, List.getElem?_cons_zero, e2, subI, List.length_cons, List.length_nil, if_true, e3, tru_bl, Bool.not_true, fNx_ap, fRet_ap, e4]
  simp [e4]
theorem number_ok {h : HC} {k : Nat} {z : Str} (e : BK[k]? = some z) : ∃ h', m_number_of_code [.str z] h = .ok (.int (k : Int)) h' ∧ Le h h' := by
  have hz : IsC z := BK_code (List.mem_of_getElem? e)
  obtain ⟨h1, e1, l1⟩ := is_code_ok (h := h) hz
  obtain ⟨d, h2, e2, l2, x⟩ := book_ok (h := h1)
  obtain ⟨t, e3⟩ := x.index (fun z hz => BK_code hz) BK_nodup e
  refine ⟨h2, ?_, l1.trans l2⟩
  simp only [m_number_of_code, fnRun]
  simp [e1, e2, t, e3]
theorem ticks_ok {h : HC} {z : Str} (hz : IsC z) : ∃ h', m_ticks_for [.str z] h = .ok (.int (tkZ z)) h' ∧ Le h h' := by
  obtain ⟨h1, e1, l1⟩ := is_code_ok (h := h) hz
  obtain ⟨d, h2, e2, l2, k, rfl, qk⟩ := beats_ok (h := h1) hz
  refine ⟨h2, ?_, l1.trans l2⟩
  simp only [m_ticks_for, fnRun]
  simp [e1, e2, asSeq_of qk, tkZ]
end G9

set_option Elab.async false
set_option linter.all false
set_option maxRecDepth 100000
set_option maxHeartbeats 0
namespace G9
open PySem L2
/-- a list of uses -/
structure IsU (us : List Int) : Prop where
  lo : 2 ≤ us.length
  hi : us.length ≤ 8
  b : ∀ u ∈ us, 0 ≤ u ∧ u ≤ 999
theorem uses_lc {h : HC} {n : Nat} {us : List Int} {s : SD} (q : h[n]? = some (.lst (us.map D.int))) (U : IsU us) (hs : 2 < s.length) :
    ∃ h', lcLoop [(n, .lst (us.map D.int))] (gN 2) (fNot (fTru (fCall 3 m_is_within (fCons (fVar 2) (fCons (fC (.int 0)) (fCons (fC (.int 999)) fNil)))))) (fVar 2) s (us.map D.int) [] h = .ok [] h' ∧ Le h h' := by
  obtain ⟨h', e, l⟩ := lcLoop_fn D.int (G := [(n, .lst (us.map D.int))]) (g := gN 2) (c := fNot (fTru (fCall 3 m_is_within (fCons (fVar 2) (fCons (fC (.int 0)) (fCons (fC (.int 999)) fNil)))))) (a := fVar 2) (s := s) (h0 := h) (fun _ => false) D.int (fun h l => by simp [chk, l.get q]) us h Le.refl (by have := U.hi; simp only [BIG]; omega)
    (fun u hu h l => by
      have e0 : (s.set 2 (some (D.int u)))[2]? = some (some (.int u)) := by simp [hs]
      have e1 : m_is_within [.int u, .int 0, .int 999] h = .ok (.bl true) h := is_within_yes (U.b u hu).1 (U.b u hu).2
      refine ⟨_, h, rfl, ?_, Le.refl, nofun⟩
      simp only [fNot_ap, fTru_ap, fCall_ap, fCons_ap, fNil_ap, fVar_ap, fC_ap, e0, bind_ok, List.length_cons, List.length_nil, if_true, e1, tru_bl, Bool.not_true])
  rw [flt_f, List.map_nil] at e
  exact ⟨h', e, l⟩
theorem codesT_lc {h : HC} {zs : List Str} {s : SD} (hz : ∀ z ∈ zs, IsC z) (hl : zs.length ≤ 1000) (hs : 3 < s.length) :
    ∃ h', lcLoop [] (gN 3) (fNot (fTru (fCall 1 m_is_code (fCons (fVar 3) fNil)))) (fVar 3) s (zs.map D.str) [] h = .ok [] h' ∧ Le h h' := by
  obtain ⟨h', e, l⟩ := lcLoop_fn D.str (G := []) (g := gN 3) (c := fNot (fTru (fCall 1 m_is_code (fCons (fVar 3) fNil)))) (a := fVar 3) (s := s) (h0 := h) (fun _ => false) D.str (fun _ _ => rfl) zs h Le.refl (by simp only [BIG]; omega)
    (fun z hz' h l => by
      have e0 : (s.set 3 (some (D.str z)))[3]? = some (some (.str z)) := by simp [hs]
      obtain ⟨h1, e1, l1⟩ := is_code_ok (h := h) (hz z hz')
      refine ⟨_, h1, rfl, ?_, l1, nofun⟩
      simp only [fNot_ap, fTru_ap, fCall_ap, fCons_ap, fNil_ap, fVar_ap, e0, bind_ok, List.length_cons, List.length_nil, if_true, e1, tru_bl, Bool.not_true])
  rw [flt_f, List.map_nil] at e
  exact ⟨h', e, l⟩
def wt (us : List Int) (zs : List Str) : List Int := (us.zip zs).map fun p => p.1 * tkZ p.2
theorem zipD_map {us : List Int} {zs : List Str} : zipD (us.map D.int) (zs.map D.str) = (us.zip zs).map fun p => D.tup [.int p.1, .str p.2] := by
  unfold zipD
  induction us generalizing zs with
  | nil => simp
  | cons u us ih =>
    cases zs with
    | nil => simp
    | cons z zs => simp [ih]
theorem wt_lc {h : HC} {n : Nat} {us : List Int} {zs : List Str} {s : SD} {i j : Nat} {fm : List D → HC → Res D} (q : h[n]? = some (.lst (us.map D.int))) (hz : ∀ z ∈ zs, IsC z) (hl : us.length ≤ 1000) (hi : i < s.length) (hj : j < s.length) (hij : i ≠ j) (hf : ∀ z, IsC z → ∀ h, ∃ d h', fm [.str z] h = .ok d h' ∧ Le h h' ∧ LB h' d (pat (cs z))) :
    ∃ h', lcLoop [(n, .lst (us.map D.int))] (gT (gsC (gN i) (gsC (gN j) gsN))) fYes (fOp opMul (fVar i) (fCl bLen (fCons (fCall 1 fm (fCons (fVar j) fNil)) fNil))) s (zipD (us.map D.int) (zs.map D.str)) [] h = .ok ((wt us zs).map D.int) h' ∧ Le h h' := by
  rw [zipD_map]
  obtain ⟨h', e, l⟩ := lcLoop_fn (fun p : Int × Str => D.tup [.int p.1, .str p.2]) (G := [(n, .lst (us.map D.int))]) (g := gT (gsC (gN i) (gsC (gN j) gsN))) (c := fYes) (a := fOp opMul (fVar i) (fCl bLen (fCons (fCall 1 fm (fCons (fVar j) fNil)) fNil))) (s := s) (h0 := h) (fun _ => true) (fun p => .int (p.1 * tkZ p.2)) (fun h l => by simp [chk, l.get q]) (us.zip zs) h Le.refl (by simp only [BIG, List.length_zip]; omega)
    (fun p hp h l => by
      obtain ⟨d, h1, e1, l1, k, rfl, qk⟩ := hf p.2 (hz p.2 (List.of_mem_zip hp).2) h
      refine ⟨(s.set i (some (.int p.1))).set j (some (.str p.2)), h, rfl, rfl, Le.refl, fun _ => ⟨h1, ?_, l1⟩⟩
      have e0 : ((s.set i (some (D.int p.1))).set j (some (D.str p.2)))[j]? = some (some (.str p.2)) := by simp [hj]
      have e2 : ((s.set i (some (D.int p.1))).set j (some (D.str p.2)))[i]? = some (some (.int p.1)) := by simp [hi, Ne.symm hij]
      have el : bLen [.ref k] h1 = .ok (.int (tkZ p.2)) h1 := by simp [asSeq_of qk, tkZ]
      have hp4 := pt0_len (l := cs p.2)
      have h4 : (cs p.2).length ≤ 4 := (hz p.2 (List.of_mem_zip hp).2).hi
      have em : mulOk p.1 (tkZ p.2) = true := mulOk_r (by simp only [tkZ]; omega) (by simp only [tkZ, pat, List.length_append, List.length_cons, List.length_nil]; omega)
      simp only [fOp_ap, fCl_ap, fCons_ap, fCall_ap, fNil_ap, fVar_ap, e0, e2, bind_ok, List.length_cons, List.length_nil, if_true, e1, el, mulI, em])
  rw [flt_t] at e
  exact ⟨h', by rw [e]; simp [wt], l⟩
theorem intsD_map {is : List Int} : intsD (is.map D.int) = some is := by
  induction is with
  | nil => rfl
  | cons z zs ih =>
    unfold intsD at ih ⊢
    simp only [List.map_cons, optAll, ih]
    rfl
theorem bSum_of {h : HC} {n : Nat} {is : List Int} (q : h[n]? = some (.lst (is.map D.int))) : bSum [.ref n] h = .ok (.int is.sum) h := by
  simp only [bSum, asSeq_of q, intsD_map]
end G9

set_option Elab.async false
set_option linter.all false
set_option maxRecDepth 100000
set_option maxHeartbeats 0
namespace G9
open PySem L2
@[simp] theorem isi7 : isiT "NoneType" "tuple" = some false := by decide +kernel
@[simp] theorem isi8 : isiT "list" "tuple" = some false := by decide +kernel
@[simp] theorem isi9 : isiT "NoneType" "int" = some false := by decide +kernel
@[simp] theorem isi10 : isiT "str" "int" = some false := by decide +kernel
@[simp] theorem isi11 : isiT "bool" "int" = some true := by decide +kernel
@[simp] theorem ty_non {h : HC} : tyName h .non = some "NoneType" := id rfl
section
variable {h : HC} {n : Nat} {us : List Int}
/-- the uses are looked at: they are good -/
theorem whole_head {d : D} {k : ES} (q : h[n]? = some (.lst (us.map D.int))) (U : IsU us) : ∃ h', fSeq (fIfS (fOr (fNot (fTru (fIsi "list" (fVar 0)))) (fOr (fNot (fBo (fChain opLe opLe (fC (.int 2)) (fCl bLen (fCons (fVar 0) fNil)) (fC (.int 8))))) (fTru (fLc (fItL (fVar 0)) [2] (gN 2) (fNot (fTru (fCall 3 m_is_within (fCons (fVar 2) (fCons (fC (.int 0)) (fCons (fC (.int 999)) fNil)))))) (fVar 2))))) (fRaise "NoCount") fNx) k
      [some (.ref n), some d, none, none, none] h = k [some (.ref n), some d, none, none, none] h' ∧ Le h h' := by
  obtain ⟨h1, e1, l1⟩ := uses_lc (s := [some (.ref n), some d, none, none, none]) q U (by simp)
  have hlo := U.lo
  have hhi := U.hi
  refine ⟨h1 ++ [.lst []], ?_, l1.trans Le.app⟩
  simp [q, asSeq_of q, show (2 : Int) ≤ (us.length : Int) by omega, show (us.length : Int) ≤ 8 by omega, wipeD, e1]
theorem whole_ok2 {zs : List Str} (q : h[n]? = some (.lst (us.map D.int))) (U : IsU us) (hz : ∀ z ∈ zs, IsC z) (hn : zs.Nodup) (hl : zs.length = us.length) :
    ∃ h', m_whole_ticks [.ref n, .tup (zs.map D.str)] h = .ok (.int (wt us zs).sum) h' ∧ Le h h' := by
  have hhi := U.hi
  obtain ⟨h0, e0, l0⟩ := whole_head (d := .tup (zs.map D.str)) (k := (fSeq (fIfS (fOr (fNot (fTru (fIsi "tuple" (fVar 1)))) (fOr (fBo (fOp opNe (fCl bLen (fCons (fVar 1) fNil)) (fCl bLen (fCons (fVar 0) fNil)))) (fTru (fLc (fItT (fVar 1)) [3] (gN 3) (fNot (fTru (fCall 1 m_is_code (fCons (fVar 3) fNil)))) (fVar 3))))) (fRaise "NoCode") fNx)
    (fSeq (fIfS (fBo (fOp opNe (fLenSet (fVar 1)) (fCl bLen (fCons (fVar 1) fNil)))) (fRaise "NoCode") fNx)
    (fRet (fCl bSum (fCons (fLc (fItZM (fVar 0) (fVar 1)) [4, 3] (gT (gsC (gN 4) (gsC (gN 3) gsN))) fYes (fOp opMul (fVar 4) (fCl bLen (fCons (fCall 1 m_beats (fCons (fVar 3) fNil)) fNil)))) fNil)))))) q U
  have q0 := l0.get q
  obtain ⟨h1, e1, l1⟩ := codesT_lc (s := [some (.ref n), some (.tup (zs.map D.str)), none, none, none]) (h := h0) (zs := zs) hz (by omega) (by simp)
  have q1 : (h1 ++ [Cell.lst []])[n]? = some (.lst (us.map D.int)) := (l1.trans Le.app).get q0
  obtain ⟨h2, e2, l2⟩ := wt_lc (s := [some (.ref n), some (.tup (zs.map D.str)), none, none, none]) (i := 4) (j := 3) (fm := m_beats) (zs := zs) q1 hz (by omega) (by simp) (by simp) (by decide) (fun z hz h => beats_ok hz)
  have e3 := bSum_of (h := h2 ++ [.lst ((wt us zs).map D.int)]) (n := h2.length) (is := wt us zs) last_get
  refine ⟨h2 ++ [.lst ((wt us zs).map D.int)], ?_, (((l0.trans l1).trans Le.app).trans l2).trans Le.app⟩
  simp only [m_whole_ticks, fnRun]
  rw [show (List.map some [D.ref n, .tup (zs.map D.str)] ++ List.replicate (5 - [D.ref n, .tup (zs.map D.str)].length) none : SD) = [some (.ref n), some (.tup (zs.map D.str)), none, none, none] from rfl, e0]
  simp [asSeq_of q0, hl, wipeD, e1, strsD_map, dn_nodup hn, show us.length ≤ 1000 by omega, q1, e2, e3]
theorem whole_none (q : h[n]? = some (.lst (us.map D.int))) (U : IsU us) : ∃ h', m_whole_ticks [.ref n, .non] h = .exc "NoCode" h' ∧ Le h h' := by
  obtain ⟨h0, e0, l0⟩ := whole_head (d := .non) (k := (fSeq (fIfS (fOr (fNot (fTru (fIsi "tuple" (fVar 1)))) (fOr (fBo (fOp opNe (fCl bLen (fCons (fVar 1) fNil)) (fCl bLen (fCons (fVar 0) fNil)))) (fTru (fLc (fItT (fVar 1)) [3] (gN 3) (fNot (fTru (fCall 1 m_is_code (fCons (fVar 3) fNil)))) (fVar 3))))) (fRaise "NoCode") fNx)
    (fSeq (fIfS (fBo (fOp opNe (fLenSet (fVar 1)) (fCl bLen (fCons (fVar 1) fNil)))) (fRaise "NoCode") fNx)
    (fRet (fCl bSum (fCons (fLc (fItZM (fVar 0) (fVar 1)) [4, 3] (gT (gsC (gN 4) (gsC (gN 3) gsN))) fYes (fOp opMul (fVar 4) (fCl bLen (fCons (fCall 1 m_beats (fCons (fVar 3) fNil)) fNil)))) fNil)))))) q U
  refine ⟨h0, ?_, l0⟩
  simp only [m_whole_ticks, fnRun]
  rw [show (List.map some [D.ref n, .non] ++ List.replicate (5 - [D.ref n, .non].length) none : SD) = [some (.ref n), some .non, none, none, none] from rfl, e0]
  simp
theorem whole_list {m : Nat} {xs : List D} (q : h[n]? = some (.lst (us.map D.int))) (qm : h[m]? = some (.lst xs)) (U : IsU us) : ∃ h', m_whole_ticks [.ref n, .ref m] h = .exc "NoCode" h' ∧ Le h h' := by
  obtain ⟨h0, e0, l0⟩ := whole_head (d := .ref m) (k := (fSeq (fIfS (fOr (fNot (fTru (fIsi "tuple" (fVar 1)))) (fOr (fBo (fOp opNe (fCl bLen (fCons (fVar 1) fNil)) (fCl bLen (fCons (fVar 0) fNil)))) (fTru (fLc (fItT (fVar 1)) [3] (gN 3) (fNot (fTru (fCall 1 m_is_code (fCons (fVar 3) fNil)))) (fVar 3))))) (fRaise "NoCode") fNx)
    (fSeq (fIfS (fBo (fOp opNe (fLenSet (fVar 1)) (fCl bLen (fCons (fVar 1) fNil)))) (fRaise "NoCode") fNx)
    (fRet (fCl bSum (fCons (fLc (fItZM (fVar 0) (fVar 1)) [4, 3] (gT (gsC (gN 4) (gsC (gN 3) gsN))) fYes (fOp opMul (fVar 4) (fCl bLen (fCons (fCall 1 m_beats (fCons (fVar 3) fNil)) fNil)))) fNil)))))) q U
  refine ⟨h0, ?_, l0⟩
  simp only [m_whole_ticks, fnRun]
  rw [show (List.map some [D.ref n, .ref m] ++ List.replicate (5 - [D.ref n, .ref m].length) none : SD) = [some (.ref n), some (.ref m), none, none, none] from rfl, e0]
  simp [l0.get qm]
theorem whole_short {xs : List D} (q : h[n]? = some (.lst (us.map D.int))) (U : IsU us) (hl : xs.length ≠ us.length) : ∃ h', m_whole_ticks [.ref n, .tup xs] h = .exc "NoCode" h' ∧ Le h h' := by
  obtain ⟨h0, e0, l0⟩ := whole_head (d := .tup xs) (k := (fSeq (fIfS (fOr (fNot (fTru (fIsi "tuple" (fVar 1)))) (fOr (fBo (fOp opNe (fCl bLen (fCons (fVar 1) fNil)) (fCl bLen (fCons (fVar 0) fNil)))) (fTru (fLc (fItT (fVar 1)) [3] (gN 3) (fNot (fTru (fCall 1 m_is_code (fCons (fVar 3) fNil)))) (fVar 3))))) (fRaise "NoCode") fNx)
    (fSeq (fIfS (fBo (fOp opNe (fLenSet (fVar 1)) (fCl bLen (fCons (fVar 1) fNil)))) (fRaise "NoCode") fNx)
    (fRet (fCl bSum (fCons (fLc (fItZM (fVar 0) (fVar 1)) [4, 3] (gT (gsC (gN 4) (gsC (gN 3) gsN))) fYes (fOp opMul (fVar 4) (fCl bLen (fCons (fCall 1 m_beats (fCons (fVar 3) fNil)) fNil)))) fNil)))))) q U
  refine ⟨h0, ?_, l0⟩
  have q0 := l0.get q
  simp only [m_whole_ticks, fnRun]
  rw [show (List.map some [D.ref n, .tup xs] ++ List.replicate (5 - [D.ref n, .tup xs].length) none : SD) = [some (.ref n), some (.tup xs), none, none, none] from rfl, e0]
  simp [asSeq_of q0, show ¬ ((xs.length : Int) = (us.length : Int)) by omega]
theorem dn_rep {z : Str} : ∀ k : Nat, dn (List.replicate (k + 1) z) = 1 := by
  have key : ∀ (k m : Nat), ((List.replicate k z).foldl (fun (p : List Str × Nat) x => (p.1 ++ [x], if p.1.any (· == x) = true then p.2 else p.2 + 1)) (List.replicate (m + 1) z, 1)).2 = 1 := by
    intro k
    induction k with
    | zero => intro m; rfl
    | succ k ih =>
      intro m
      have ha : (List.replicate (m + 1) z).any (· == z) = true := by simp
      rw [show List.replicate (k + 1) z = z :: List.replicate k z from rfl, List.foldl_cons]
      simp only [ha, if_true]
      have := ih (m + 1)
      rwa [show List.replicate (m + 1) z ++ [z] = List.replicate (m + 1 + 1) z from (List.replicate_succ' ..).symm]
  intro k
  have := key k 0
  simpa [dn, dnF, List.replicate_succ] using this
theorem whole_same {z : Str} (q : h[n]? = some (.lst (us.map D.int))) (U : IsU us) (hz : IsC z) : ∃ h', m_whole_ticks [.ref n, .tup (List.replicate us.length (.str z))] h = .exc "NoCode" h' ∧ Le h h' := by
  have hlo := U.lo
  have hhi := U.hi
  have hm : List.replicate us.length (D.str z) = (List.replicate us.length z).map D.str := by simp
  rw [hm]
  obtain ⟨h0, e0, l0⟩ := whole_head (d := .tup ((List.replicate us.length z).map D.str)) (k := (fSeq (fIfS (fOr (fNot (fTru (fIsi "tuple" (fVar 1)))) (fOr (fBo (fOp opNe (fCl bLen (fCons (fVar 1) fNil)) (fCl bLen (fCons (fVar 0) fNil)))) (fTru (fLc (fItT (fVar 1)) [3] (gN 3) (fNot (fTru (fCall 1 m_is_code (fCons (fVar 3) fNil)))) (fVar 3))))) (fRaise "NoCode") fNx)
    (fSeq (fIfS (fBo (fOp opNe (fLenSet (fVar 1)) (fCl bLen (fCons (fVar 1) fNil)))) (fRaise "NoCode") fNx)
    (fRet (fCl bSum (fCons (fLc (fItZM (fVar 0) (fVar 1)) [4, 3] (gT (gsC (gN 4) (gsC (gN 3) gsN))) fYes (fOp opMul (fVar 4) (fCl bLen (fCons (fCall 1 m_beats (fCons (fVar 3) fNil)) fNil)))) fNil)))))) q U
  have q0 := l0.get q
  obtain ⟨h1, e1, l1⟩ := codesT_lc (s := [some (.ref n), some (.tup ((List.replicate us.length z).map D.str)), none, none, none]) (h := h0) (zs := List.replicate us.length z) (fun y hy => by rw [List.eq_of_mem_replicate hy]; exact hz) (by simp; omega) (by simp)
  have hd : dn (List.replicate us.length z) = 1 := by
    obtain ⟨k, hk⟩ : ∃ k, us.length = k + 1 := ⟨us.length - 1, by omega⟩
    rw [hk]
    exact dn_rep k
  refine ⟨h1 ++ [.lst []], ?_, (l0.trans l1).trans Le.app⟩
  simp only [m_whole_ticks, fnRun]
  rw [show (List.map some [D.ref n, .tup ((List.replicate us.length z).map D.str)] ++ List.replicate (5 - [D.ref n, .tup ((List.replicate us.length z).map D.str)].length) none : SD) = [some (.ref n), some (.tup ((List.replicate us.length z).map D.str)), none, none, none] from rfl, e0]
  have hs : strsD (List.replicate us.length (D.str z)) = some (List.replicate us.length z) := by rw [hm]; exact strsD_map
  simp only [List.map_replicate] at e1 ⊢
  simp [asSeq_of q0, wipeD, e1, hs, hd, show us.length ≤ 1000 by omega, show ¬ ((1 : Int) = (us.length : Int)) by omega, show ¬ (1 = us.length) by omega]
end
end G9

set_option Elab.async false
set_option linter.all false
set_option maxRecDepth 100000
set_option maxHeartbeats 0
namespace G9
open PySem L2
theorem cps_x : ("x" : Str) = ⟨#[120]⟩ := by decide +kernel
theorem x_not : ¬ IsC "x" := fun h => by
  have := h.sg 120 (by rw [cps_x]; simp)
  rcases this with e | e <;> cases e
theorem is_code_x {h : HC} : ∃ h', m_is_code [.str "x"] h = .ok (.bl false) h' ∧ Le h h' := by
  refine ⟨h ++ [.lst [.str "x"]], ?_, Le.app⟩
  have hb : ("x" : Str).length = 1 := by decide +kernel
  have hc : ("x" : Str).cps.toList = [120] := by decide +kernel
  simp only [m_is_code, fnRun]
  simp [hb, hc, wipeD, lcLoop, chk, opInB, cps_sl, ← cps_x, BIG]
theorem is_code_long {h : HC} : m_is_code [.str "slsls"] h = .ok (.bl false) h := by
  have hb : ("slsls" : Str).length = 5 := by decide +kernel
  simp only [m_is_code, fnRun]
  simp [hb, BIG]
section
variable {h : HC} {n : Nat} {us : List Int}
theorem codesX_lc {zs : List Str} {s : SD} (hz : ∀ z ∈ zs, IsC z) (hl : zs.length ≤ 1000) (hs : 3 < s.length) :
    ∃ h', lcLoop [] (gN 3) (fNot (fTru (fCall 1 m_is_code (fCons (fVar 3) fNil)))) (fVar 3) s ((zs ++ [("x" : Str)]).map D.str) [] h = .ok [.str "x"] h' ∧ Le h h' := by
  obtain ⟨h', e, l⟩ := lcLoop_fn D.str (G := []) (g := gN 3) (c := fNot (fTru (fCall 1 m_is_code (fCons (fVar 3) fNil)))) (a := fVar 3) (s := s) (h0 := h) (fun z : Str => decide (z = ("x" : Str))) D.str (fun _ _ => rfl) (zs ++ [("x" : Str)]) h Le.refl (by simp only [BIG, List.length_append, List.length_cons, List.length_nil]; omega)
    (fun z hz' h l => by
      have e0 : (s.set 3 (some (D.str z)))[3]? = some (some (.str z)) := by simp [hs]
      rcases List.mem_append.mp hz' with hm | hm
      · have hc := hz z hm
        have hne : z ≠ "x" := fun e => x_not (e ▸ hc)
        obtain ⟨h1, e1, l1⟩ := is_code_ok (h := h) hc
        refine ⟨_, h1, rfl, ?_, l1, fun hp => absurd (of_decide_eq_true hp) hne⟩
        simp only [fNot_ap, fTru_ap, fCall_ap, fCons_ap, fNil_ap, fVar_ap, e0, bind_ok, List.length_cons, List.length_nil, if_true, e1, tru_bl, Bool.not_true, decide_eq_false hne]
      · have hx : z = "x" := by simpa using hm
        subst hx
        obtain ⟨h1, e1, l1⟩ := is_code_x (h := h)
        refine ⟨_, h1, rfl, ?_, l1, fun _ => ⟨h1, ?_, Le.refl⟩⟩
        · simp only [fNot_ap, fTru_ap, fCall_ap, fCons_ap, fNil_ap, fVar_ap, e0, bind_ok, List.length_cons, List.length_nil, if_true, e1, tru_bl, Bool.not_false, decide_true]
        · simp only [fVar_ap, e0])
  have hf : (zs ++ [("x" : Str)]).filter (fun z : Str => decide (z = ("x" : Str))) = [("x" : Str)] := by
    rw [List.filter_append]
    have : zs.filter (fun z : Str => decide (z = ("x" : Str))) = [] := by
      rw [List.filter_eq_nil_iff]
      intro z hz' hd
      exact x_not (of_decide_eq_true hd ▸ hz z hz')
    rw [this]
    rfl
  rw [hf] at e
  exact ⟨h', e, l⟩
theorem whole_x {zs : List Str} (q : h[n]? = some (.lst (us.map D.int))) (U : IsU us) (hz : ∀ z ∈ zs, IsC z) (hl : zs.length + 1 = us.length) : ∃ h', m_whole_ticks [.ref n, .tup ((zs ++ [("x" : Str)]).map D.str)] h = .exc "NoCode" h' ∧ Le h h' := by
  have hhi := U.hi
  obtain ⟨h0, e0, l0⟩ := whole_head (d := .tup ((zs ++ [("x" : Str)]).map D.str)) (k := (fSeq (fIfS (fOr (fNot (fTru (fIsi "tuple" (fVar 1)))) (fOr (fBo (fOp opNe (fCl bLen (fCons (fVar 1) fNil)) (fCl bLen (fCons (fVar 0) fNil)))) (fTru (fLc (fItT (fVar 1)) [3] (gN 3) (fNot (fTru (fCall 1 m_is_code (fCons (fVar 3) fNil)))) (fVar 3))))) (fRaise "NoCode") fNx)
    (fSeq (fIfS (fBo (fOp opNe (fLenSet (fVar 1)) (fCl bLen (fCons (fVar 1) fNil)))) (fRaise "NoCode") fNx)
    (fRet (fCl bSum (fCons (fLc (fItZM (fVar 0) (fVar 1)) [4, 3] (gT (gsC (gN 4) (gsC (gN 3) gsN))) fYes (fOp opMul (fVar 4) (fCl bLen (fCons (fCall 1 m_beats (fCons (fVar 3) fNil)) fNil)))) fNil)))))) q U
  have q0 := l0.get q
  obtain ⟨h1, e1, l1⟩ := codesX_lc (s := [some (.ref n), some (.tup ((zs ++ [("x" : Str)]).map D.str)), none, none, none]) (h := h0) hz (by omega) (by simp)
  generalize hD : (zs ++ [("x" : Str)]).map D.str = L at *
  have hL : L.length = us.length := by rw [← hD]; simp; omega
  refine ⟨h1 ++ [.lst [.str "x"]], ?_, (l0.trans l1).trans Le.app⟩
  simp only [m_whole_ticks, fnRun]
  rw [show (List.map some [D.ref n, .tup L] ++ List.replicate (5 - [D.ref n, .tup L].length) none : SD) = [some (.ref n), some (.tup L), none, none, none] from rfl, e0]
  simp [asSeq_of q0, hL, wipeD, e1]
end
/-! ### what is caught -/
theorem tab_code : handle tabL "NoCode" [("NoSetting", (fSet 2 (fC (.str "setting")))), ("NoCode", (fSet 2 (fC (.str "code")))), ("NoHouse", (fSet 2 (fC (.str "house")))), ("NoCount", (fSet 2 (fC (.str "count")))), ("NoDeeds", (fSet 2 (fC (.str "deeds")))), ("NoText", (fSet 2 (fC (.str "text"))))] = fSet 2 (fC (.str "code")) := by
  have h1 : tabL "NoCode" "NoSetting" = some false := by decide +kernel
  have h2 : tabL "NoCode" "NoCode" = some true := by decide +kernel
  funext s h
  simp only [handle, h1, h2]
theorem tab_count : handle tabL "NoCount" [("NoSetting", (fSet 2 (fC (.str "setting")))), ("NoCode", (fSet 2 (fC (.str "code")))), ("NoHouse", (fSet 2 (fC (.str "house")))), ("NoCount", (fSet 2 (fC (.str "count")))), ("NoDeeds", (fSet 2 (fC (.str "deeds")))), ("NoText", (fSet 2 (fC (.str "text"))))] = fSet 2 (fC (.str "count")) := by
  have h1 : tabL "NoCount" "NoSetting" = some false := by decide +kernel
  have h2 : tabL "NoCount" "NoCode" = some false := by decide +kernel
  have h3 : tabL "NoCount" "NoHouse" = some false := by decide +kernel
  have h4 : tabL "NoCount" "NoCount" = some true := by decide +kernel
  funext s h
  simp only [handle, h1, h2, h3, h4]
theorem caught_code {h h' : HC} {w : Int} {d : D} (hw : w < 7) (e : m_law_called [.int w, d] h = .exc "NoCode" h') : m_law_caught [.int w, d] h = .ok (.str "code") h' := by
  simp only [m_law_caught, fnRun]
  simp [fTry, hw, e, tab_code]
theorem caught_count {h h' : HC} {w : Int} {d : D} (hw : w < 7) (e : m_law_called [.int w, d] h = .exc "NoCount" h') : m_law_caught [.int w, d] h = .ok (.str "count") h' := by
  simp only [m_law_caught, fnRun]
  simp [fTry, hw, e, tab_count]
end G9

set_option Elab.async false
set_option linter.all false
set_option maxRecDepth 100000
set_option maxHeartbeats 0
namespace G9
open PySem L2
theorem called6 {h h' : HC} {m : Nat} {x d : D} {c : Str} (q : h[m]? = some (.lst [x, d])) (e : m_whole_ticks [x, d] h = .exc c h') : m_law_called [.int 6, .ref m] h = .exc c h' := by
  simp only [m_law_called, fnRun]
  simp [asSeq_of q, e]
theorem called4 {h h' : HC} {m : Nat} {d : D} {c : Str} (q : h[m]? = some (.lst [d])) (e : m_code_at [d] h = .exc c h') : m_law_called [.int 4, .ref m] h = .exc c h' := by
  simp only [m_law_called, fnRun]
  simp [asSeq_of q, e]
theorem called5 {h h' : HC} {m : Nat} {d : D} {c : Str} (q : h[m]? = some (.lst [d])) (e : m_number_of_code [d] h = .exc c h') : m_law_called [.int 5, .ref m] h = .exc c h' := by
  simp only [m_law_called, fnRun]
  simp [asSeq_of q, e]
theorem number_bad {h : HC} : m_number_of_code [.str "slsls"] h = .exc "NoCode" h := by
  simp only [m_number_of_code, fnRun]
  simp [is_code_long]
def OddN (d : D) : Prop := d = .int 30 ∨ d = .int (-1) ∨ d = .non ∨ d = .bl true ∨ d = .str "3"
theorem within_odd {h : HC} {d : D} (o : OddN d) : m_is_within [d, .int 0, .int 29] h = .ok (.bl false) h := by
  rcases o with rfl | rfl | rfl | rfl | rfl <;> simp [m_is_within, fnRun]
theorem code_at_bad {h : HC} {d : D} (o : OddN d) : ∃ h', m_code_at [d] h = .exc "NoCount" h' ∧ Le h h' := by
  obtain ⟨b, h1, e1, l1, x⟩ := book_ok (h := h)
  have e2 := x.len
  rw [BK_len] at e2
  have e3 : m_is_within [d, .int 0, .int (((30 : Nat) : Int) - 1)] h1 = .ok (.bl false) h1 := within_odd o
  refine ⟨h1, ?_, l1⟩
  simp only [m_code_at, fnRun]
  rw [show (List.map some [d] ++ List.replicate (2 - [d].length) none : SD) = [some d, none] from rfl]
  simp only [fSeq_ap, fSet_ap, fCall0_ap, e1, ofR_ok, List.set_cons_zero, List.set_cons_succ, fIfS_ap, fNot_ap, fTru_ap, fCall_ap, fCons_ap, fNil_ap, fVar_ap, fC_ap, fOp_ap, fCl_ap, bind_ok, List.getElem?_cons_succ, List.getElem?_cons_zero, e2, subI, List.length_cons, List.length_nil, if_true, e3, tru_bl, Bool.not_false, fRaise_ap]
theorem neS {h : HC} {a b : Str} (ha : PyData.strOk a = true) (hb : PyData.strOk b = true) : opNe (.str a) (.str b) h = .ok (.bl (!decide (a = b))) h := by
  simp [opNe, toPy, ha, hb, PyData.eqv]
  rw [Bool.eq_iff_iff]
  simp
theorem ok_code : PyData.strOk "code" = true := by decide +kernel
theorem ok_count : PyData.strOk "count" = true := by decide +kernel
/-- the uses that the law makes -/
theorem uses_ok {ns : List Int} {m : Nat} {h : HC} {t : Int} {t1 t2 t3 t4 : Option D} (hm : m ≤ 8) :
    ∃ (us : List Int) (h' : HC), lcLoop [] (gN 8) fYes (fCall 3 m_law_mix (fCons (fOp opAdd (fCall 2 m_law_cell (fCons (fVar 0) (fCons (fC (.int 3)) fNil))) (fOp opMul (fC (.int 41)) (fVar 8))) (fCons (fC (.int 9949)) (fCons (fOp opIx (fLst (fCons (fC (.int 1000)) (fCons (fC (.int 3)) fNil))) (fOp opMod (fVar 8) (fC (.int 2)))) fNil))))
      [some (.scr ns), t1, t2, t3, t4, none, none, none, none, none, none] ((List.range m).map fun i : Nat => D.int (i : Int)) [] h = .ok (us.map D.int) h' ∧ Le h h' ∧ us.length = m ∧ ∀ u ∈ us, 0 ≤ u ∧ u ≤ 999 := by
  obtain ⟨ys, h', e, l, r, k⟩ := lcLoop_rel (fun i : Nat => D.int (i : Int)) (G := []) (g := gN 8) (c := fYes) (a := fCall 3 m_law_mix (fCons (fOp opAdd (fCall 2 m_law_cell (fCons (fVar 0) (fCons (fC (.int 3)) fNil))) (fOp opMul (fC (.int 41)) (fVar 8))) (fCons (fC (.int 9949)) (fCons (fOp opIx (fLst (fCons (fC (.int 1000)) (fCons (fC (.int 3)) fNil))) (fOp opMod (fVar 8) (fC (.int 2)))) fNil))))
    (s := [some (.scr ns), t1, t2, t3, t4, none, none, none, none, none, none]) (h0 := h) (fun _ => true) (fun _ _ y => ∃ v : Int, y = .int v ∧ 0 ≤ v ∧ v ≤ 999) (fun h h' x y l q => q) (fun _ _ => rfl) (List.range m) [] h Le.refl (by simp [BIG]; omega)
    (fun i hi h _ => by
      have c3 := cell_ok (h := h) (ns := ns) (k := 3)
      simp only [show ((3 : Nat) : Int) = 3 from rfl] at c3
      have hmul : mulOk 41 (i : Int) = true := mulOk_l (by decide) (by decide)
      have b2 := mod_bnd (i := (i : Int)) (p := 2) (by omega)
      obtain ⟨w, hw, w0, w1⟩ : ∃ w : Int, atI [D.int 1000, D.int 3] ((i : Int) % 2) = some (.int w) ∧ 0 < w ∧ w ≤ 1000 := by
        have : (i : Int) % 2 = 0 ∨ (i : Int) % 2 = 1 := by omega
        rcases this with e | e
        · exact ⟨1000, by rw [e]; simp, by decide, by decide⟩
        · exact ⟨3, by rw [e]; simp, by decide, by decide⟩
      obtain ⟨v, e1, v0, v1⟩ := mix_ok (h := h ++ [.lst [.int 1000, .int 3]]) (c := cellv ns 3 + 41 * (i : Int)) (m := w) w0
      refine ⟨_, h, rfl, rfl, Le.refl, fun _ => ⟨.int v, h ++ [.lst [.int 1000, .int 3]], ?_, Le.app, v, rfl, v0, by omega⟩⟩
      simp [c3, hmul, hw, e1])
  rw [flt_t] at r k
  rw [List.length_range] at k
  have hc : ∀ (ys : List D), (∀ i, i < ys.length → ∃ y, ys[i]? = some y ∧ ∃ v : Int, y = .int v ∧ 0 ≤ v ∧ v ≤ 999) → ∃ us : List Int, ys = us.map D.int ∧ ∀ u ∈ us, 0 ≤ u ∧ u ≤ 999 := by
    intro ys
    induction ys with
    | nil => intro _; exact ⟨[], rfl, by simp⟩
    | cons y ys ih =>
      intro h
      obtain ⟨us, e, hs⟩ := ih fun i hi => by simpa using h (i + 1) (by simp; omega)
      obtain ⟨y', e1, v, e2, v0, v1⟩ := h 0 (by simp)
      simp at e1
      subst e1 e2
      exact ⟨v :: us, by simp [e], by
        intro u hu
        rcases List.mem_cons.mp hu with rfl | hu
        · exact ⟨v0, v1⟩
        · exact hs u hu⟩
  obtain ⟨us, e1, hb⟩ := hc ys fun i hi => by
    obtain ⟨y, e1, e2⟩ := r i i (by rw [List.getElem?_range (by omega)])
    exact ⟨y, e1, e2⟩
  refine ⟨us, h', ?_, l, ?_, hb⟩
  · rw [e, e1]; rfl
  · rw [← k, e1]; simp
end G9

set_option Elab.async false
set_option linter.all false
set_option maxRecDepth 100000
set_option maxHeartbeats 0
namespace G9
open PySem L2
theorem cut_1 {α : Type} {xs : List α} : cutD xs (some 1) none = xs.drop 1 := by
  have h1 : HT.sIx xs.length 0 (some ((1 : Nat) : Int)) = min 1 xs.length := HT.sIx_nat _ _ _
  simp only [show ((1 : Nat) : Int) = 1 from rfl] at h1
  simp only [cutD, HT.sIx_none, h1]
  by_cases h : 1 ≤ xs.length
  · rw [Nat.min_eq_left h, List.take_of_length_le (by simp)]
  · have : xs = [] := List.eq_nil_of_length_eq_zero (by omega)
    subst this
    simp
theorem cut_0 {α : Type} {x : α} {xs : List α} : cutD (x :: xs) none (some 1) = [x] := by
  have h1 : HT.sIx (x :: xs).length (x :: xs).length (some ((1 : Nat) : Int)) = min 1 (x :: xs).length := HT.sIx_nat _ _ _
  simp only [show ((1 : Nat) : Int) = 1 from rfl] at h1
  simp only [cutD, HT.sIx_none, h1, List.drop_zero, Nat.sub_zero]
  rw [Nat.min_eq_left (by simp)]
  rfl
theorem rep_one {α : Type} {x : α} : ∀ k : Nat, (List.replicate k [x]).flatten = List.replicate k x
  | 0 => rfl
  | k + 1 => by
    rw [List.replicate_succ, List.flatten_cons, rep_one k, List.replicate_succ]
    rfl

theorem odd_ok {h : HC} {n r : Nat} {us : List Int} {z0 : Str} {zr : List Str} (q : h[n]? = some (.lst (us.map D.int))) (U : IsU us) (hl : (z0 :: zr).length = us.length) (hz : ∀ z ∈ z0 :: zr, IsC z) (qr : h[r]? = some (.lst ((z0 :: zr).map D.str))) {k : Nat} (hk : k < 5) :
    ∃ d h', [D.non, .tup (zr.map D.str), .tup (List.replicate us.length (.str z0)), .ref r, .tup ((zr ++ [("x" : Str)]).map D.str)][k]? = some d ∧ m_whole_ticks [.ref n, d] h = .exc "NoCode" h' := by
  have hl' : zr.length + 1 = us.length := by simpa using hl
  match k, hk with
  | 0, _ => obtain ⟨h', e, _⟩ := whole_none q U; exact ⟨_, h', rfl, e⟩
  | 1, _ => obtain ⟨h', e, _⟩ := whole_short (xs := zr.map D.str) q U (by simp; omega); exact ⟨_, h', rfl, e⟩
  | 2, _ => obtain ⟨h', e, _⟩ := whole_same (z := z0) q U (hz z0 (by simp)); exact ⟨_, h', rfl, e⟩
  | 3, _ => obtain ⟨h', e, _⟩ := whole_list q qr U; exact ⟨_, h', rfl, e⟩
  | 4, _ => obtain ⟨h', e, _⟩ := whole_x (zs := zr) q U (fun z hz' => hz z (by simp [hz'])) hl'; exact ⟨_, h', rfl, e⟩
def fnRes : RS → Res D
  | .nx _ h' => .ok .non h'
  | .ret d h' => .ok d h'
  | .exc c _ h' => .exc c h'
  | _ => .bad
theorem fnRun_res {n : Nat} {body : ES} {ds : List D} {h : HC} : fnRun n body ds h = fnRes (body (ds.map some ++ List.replicate (n - ds.length) none) h) := by
  unfold fnRun fnRes
  split <;> simp_all
theorem run_seq {f g : ES} {s s1 : SD} {h h1 : HC} {r : Res D} (e : f s h = .nx s1 h1) (k : fnRes (g s1 h1) = r) : fnRes (fSeq f g s h) = r := by
  rw [← k]
  simp only [fSeq, e]
theorem plain (ns : List Int) (hl : ns.length ≤ 63) : ∃ h', m_law [.scr ns] [] = .ok (.bl true) h' := by
  obtain ⟨d1, h1, e1, l1, x1⟩ := law_all_ok (h := [])
  have c0 := cell_ok (h := h1) (ns := ns) (k := 0)
  simp only [show ((0 : Nat) : Int) = 0 from rfl] at c0
  have m0 := mod_bnd (i := cellv ns 0) (p := 30) (by omega)
  obtain ⟨k, hk⟩ : ∃ k : Nat, cellv ns 0 % 30 = (k : Int) := ⟨(cellv ns 0 % 30).toNat, by omega⟩
  obtain ⟨z, hz⟩ : ∃ z, BK[k]? = some z := ⟨_, List.getElem?_eq_getElem (by rw [BK_len]; omega)⟩
  have hzc : IsC z := BK_code (List.mem_of_getElem? hz)
  have e2 := x1.len
  rw [BK_len] at e2
  simp only [show ((30 : Nat) : Int) = 30 from rfl] at e2
  obtain ⟨h2, e3, l2⟩ := code_at_ok (h := h1) hz
  have x2 := x1.mono l2
  have e4 := x2.ix hz
  have e5 := neS (h := h2) hzc.ok hzc.ok
  obtain ⟨h3, e6, l3⟩ := number_ok (h := h2) hz
  have c1 := cell_ok (h := h3) (ns := ns) (k := 1)
  simp only [show ((1 : Nat) : Int) = 1 from rfl] at c1
  obtain ⟨v, e7, _, _⟩ := seed_ok (h := h3) (s := cellv ns 1) (k := 1)
  obtain ⟨y, h4, e8, l4, hy⟩ := code_ok (h := h3) (s := v)
  obtain ⟨h5, e9, l5⟩ := ticks_ok (h := h4) hy
  obtain ⟨db, h6, e10, l6, kb, rfl, qb⟩ := law_beats_ok (h := h5) hy
  have e11 : bLen [.ref kb] h6 = .ok (.int (tkZ y)) h6 := by simp [asSeq_of qb, tkZ]
  obtain ⟨k2, hk2⟩ := List.mem_iff_getElem?.mp (BK_all hy)
  obtain ⟨h7, e12, l7⟩ := number_ok (h := h6) hk2
  have x7 := x1.mono (((((l2.trans l3).trans l4).trans l5).trans l6).trans l7)
  obtain ⟨e13, e14⟩ := x7.index (fun z hz => BK_code hz) BK_nodup hk2
  have c2 := cell_ok (h := h7) (ns := ns) (k := 2)
  simp only [show ((2 : Nat) : Int) = 2 from rfl] at c2
  obtain ⟨w, e15, _, _⟩ := seed_ok (h := h7) (s := cellv ns 2) (k := 0)
  obtain ⟨zs, b, kk, h8, e16, l8, S⟩ := setting_ok (h := h7) (s := w)
  have hx : ∀ h, opIx (setD zs b kk) (.int 0) h = .ok (.tup (zs.map D.str)) h := fun h => by simp [setD]
  have hb : zs.length ≤ BIG := Nat.le_trans S.hi (by decide)
  obtain ⟨us, h9, e17, l9, hul, hub⟩ := uses_ok (ns := ns) (m := zs.length) (h := h8) (t := 0) (t1 := some d1) (t2 := some (.int (k : Int))) (t3 := some (.str y)) (t4 := some (setD zs b kk)) S.hi
  have U : IsU us := ⟨by rw [hul]; exact S.lo, by rw [hul]; exact S.hi, hub⟩
  have q9 := last_get (h := h9) (c := .lst (us.map D.int))
  obtain ⟨h10, e18, l10⟩ := wt_lc (s := [some (.scr ns), some d1, some (.int (k : Int)), some (.str y), some (setD zs b kk), some (.ref h9.length), none, none, none, none, none]) (i := 9) (j := 10) (fm := m_law_beats) (zs := zs) q9 S.cd (by have := U.hi; omega) (by simp) (by simp) (by decide) (fun z hz h => law_beats_ok hz)
  have e19 := bSum_of (h := h10 ++ [.lst ((wt us zs).map D.int)]) (n := h10.length) (is := wt us zs) last_get
  obtain ⟨h11, hh11⟩ : ∃ h11, h11 = h10 ++ [Cell.lst ((wt us zs).map D.int)] := ⟨_, rfl⟩
  rw [← hh11] at e19
  have l11 : Le (h9 ++ [Cell.lst (us.map D.int)]) h11 := by rw [hh11]; exact l10.trans Le.app
  have q11 : h11[h9.length]? = some (.lst (us.map D.int)) := l11.get q9
  have hub2 : (us.map D.int).length ≤ BIG := by rw [List.length_map, hul]; exact hb
  have bl1 : ∀ h : HC, h[h9.length]? = some (.lst (us.map D.int)) → bList [.ref h9.length] h = .ok (.ref h.length) (h ++ [.lst (us.map D.int)]) := fun h q => by
    simp only [bList, asSeq_of q]
    exact newL_ok' hub2
  obtain ⟨h12, e20, l12⟩ := whole_ok2 (h := h11 ++ [.lst (us.map D.int)]) (n := h11.length) last_get U S.cd S.nd hul.symm
  have q12 : h12[h9.length]? = some (.lst (us.map D.int)) := (Le.app.trans l12).get q11
  obtain ⟨h13, e21, l13⟩ := whole_ok2 (h := h12 ++ [.lst (us.map D.int)]) (n := h12.length) last_get U S.cd S.nd hul.symm
  have q13 : h13[h9.length]? = some (.lst (us.map D.int)) := (Le.app.trans l13).get q12
  have e22 := whole_ok (h := h13) (i := (wt us zs).sum)
  obtain ⟨z0, zr, hz0⟩ : ∃ z0 zr, zs = z0 :: zr := by
    cases zs with
    | nil => have := S.lo; simp at this
    | cons a r => exact ⟨a, r, rfl⟩
  have hlen : (z0 :: zr).length = us.length := by rw [← hz0]; exact hul.symm
  have hcd : ∀ z ∈ z0 :: zr, IsC z := by rw [← hz0]; exact S.cd
  obtain ⟨hA, hhA⟩ : ∃ hA, hA = h13 ++ [Cell.lst ((z0 :: zr).map D.str)] := ⟨_, rfl⟩
  obtain ⟨o, ho⟩ : ∃ o, o = [D.non, .tup (zr.map D.str), .tup (List.replicate us.length (.str z0)), .ref h13.length, .tup ((zr ++ [("x" : Str)]).map D.str)] := ⟨_, rfl⟩
  obtain ⟨h14, hh14⟩ : ∃ h14, h14 = hA ++ [Cell.lst o] := ⟨_, rfl⟩
  have l14 : Le h13 h14 := by rw [hh14, hhA]; exact Le.app.trans Le.app
  have q14 : h14[h9.length]? = some (.lst (us.map D.int)) := l14.get q13
  have c4 := cell_ok (h := h14 ++ [Cell.lst (us.map D.int)]) (ns := ns) (k := 4)
  simp only [show ((4 : Nat) : Int) = 4 from rfl] at c4
  have m4 := mod_bnd (i := cellv ns 4) (p := 5) (by omega)
  obtain ⟨k4, hk4⟩ : ∃ k4 : Nat, cellv ns 4 % 5 = (k4 : Int) := ⟨(cellv ns 4 % 5).toNat, by omega⟩
  obtain ⟨d4, _, o4, _⟩ := odd_ok (h := h14) (n := h9.length) (r := h13.length) (k := k4) q14 U hlen hcd (by rw [hh14, hhA]; exact Le.app.get last_get) (by omega)
  rw [← ho] at o4
  obtain ⟨h16, hh16⟩ : ∃ h16, h16 = (h14 ++ [Cell.lst (us.map D.int)]) ++ [Cell.lst [.ref h14.length, d4]] := ⟨_, rfl⟩
  have q16 : h16[(h14 ++ [Cell.lst (us.map D.int)]).length]? = some (.lst [.ref h14.length, d4]) := by rw [hh16]; exact last_get
  have u16 : h16[h14.length]? = some (.lst (us.map D.int)) := by rw [hh16]; exact Le.app.get last_get
  have r16 : h16[h13.length]? = some (.lst ((z0 :: zr).map D.str)) := by
    rw [hh16]
    refine (Le.app.trans Le.app).get (h := h14) ?_
    rw [hh14, hhA]
    exact Le.app.get last_get
  obtain ⟨d4', h17, o4', e23⟩ := odd_ok (h := h16) (n := h14.length) (r := h13.length) (k := k4) u16 U hlen hcd r16 (by omega)
  rw [← ho, o4] at o4'
  cases o4'
  have e24 := caught_code (by decide) (called6 q16 e23)
  have e25 := neS (h := h17) ok_code ok_code
  obtain ⟨h18, hh18⟩ : ∃ h18, h18 = h17 ++ [Cell.lst [.int 30, .int (-1), .non, .bl true, .str "3"]] := ⟨_, rfl⟩
  have c5 := cell_ok (h := h18) (ns := ns) (k := 5)
  simp only [show ((5 : Nat) : Int) = 5 from rfl] at c5
  have m5 := mod_bnd (i := cellv ns 5) (p := 5) (by omega)
  obtain ⟨d5, o5, od⟩ : ∃ d5, atI [D.int 30, .int (-1), .non, .bl true, .str "3"] (cellv ns 5 % 5) = some d5 ∧ OddN d5 := by
    have : cellv ns 5 % 5 = 0 ∨ cellv ns 5 % 5 = 1 ∨ cellv ns 5 % 5 = 2 ∨ cellv ns 5 % 5 = 3 ∨ cellv ns 5 % 5 = 4 := by omega
    rcases this with e | e | e | e | e <;> rw [e] <;> exact ⟨_, rfl, by simp [OddN]⟩
  obtain ⟨h19, e26, _⟩ := code_at_bad (h := h18 ++ [Cell.lst [d5]]) od
  have e27 := caught_count (by decide) (called4 (m := h18.length) last_get e26)
  have e28 := eqS (h := h19) ok_count ok_count
  have e29 := caught_code (by decide) (called5 (h := h19 ++ [Cell.lst [.str "slsls"]]) (m := h19.length) last_get number_bad)
  have e30 := eqS (h := h19 ++ [Cell.lst [.str "slsls"]]) ok_code ok_code
  have at4 : atI o (k4 : Int) = some d4 := atI_nat o4
  have cc1 : ∀ h : HC, opSl (.tup ((z0 :: zr).map D.str)) (some 1) none h = .ok (.tup (zr.map D.str)) h := fun h => by
    have hb' : ((z0 :: zr).map D.str).length ≤ BIG := by rw [List.length_map, ← hz0]; exact hb
    simp only [opSl, cut_1, mkT]
    rw [if_pos (Nat.le_trans (by simp) hb')]
    rfl
  have cc2 : ∀ h : HC, opSl (.tup ((z0 :: zr).map D.str)) none (some 1) h = .ok (.tup [.str z0]) h := fun h => by
    simp only [opSl, List.map_cons, cut_0, mkT]
    rw [if_pos (by simp [BIG])]
  have cc3 : ∀ h : HC, opMul (.tup [.str z0]) (.int (us.length : Int)) h = .ok (.tup (List.replicate us.length (.str z0))) h := fun h => by
    have h1 := U.lo
    have h2 := U.hi
    simp only [opMul]
    rw [if_pos ⟨by simp, by omega, by omega, by simp⟩, Int.toNat_natCast, rep_one]
  have cc4 : ∀ h : HC, opAdd (.tup (zr.map D.str)) (.tup [.str "x"]) h = .ok (.tup ((zr ++ [("x" : Str)]).map D.str)) h := fun h => by
    have h2 := U.hi
    have h3 : zr.length + 1 = us.length := by simpa using hlen
    simp only [opAdd, mkT]
    rw [if_pos (by simp [BIG]; omega)]
    simp
  have cc5 : bList [.tup ((z0 :: zr).map D.str)] h13 = .ok (.ref h13.length) hA := by
    simp only [bList]
    rw [newL_ok' (by rw [List.length_map, ← hz0]; exact hb), hhA]
  have cc6 : ∀ h : HC, h[h9.length]? = some (.lst (us.map D.int)) → bLen [.ref h9.length] h = .ok (.int (us.length : Int)) h := fun h q => by simp [asSeq_of q]
  have cc7 : opIx (.ref hA.length) (.int (k4 : Int)) (h14 ++ [Cell.lst (us.map D.int)]) = .ok d4 (h14 ++ [Cell.lst (us.map D.int)]) := by
    have : (h14 ++ [Cell.lst (us.map D.int)])[hA.length]? = some (.lst o) := by
      refine Le.app.get ?_
      rw [hh14]
      exact last_get
    simp only [opIx, asSeq_of this, at4]
  have hbl1 := bl1 h11 q11
  have hbl2 := bl1 h12 q12
  have hbl3 := bl1 h14 q14
  have hl13 := cc6 h13 q13
  have hs : (List.map some [D.scr ns] ++ List.replicate (11 - [D.scr ns].length) none : SD) = [some (.scr ns), none, none, none, none, none, none, none, none, none, none] := rfl
  have z0l : zs.length = (z0 :: zr).length := by rw [hz0]
  have n14 := newL_ok' (h := hA) (xs := o) (by rw [ho]; simp [BIG])
  rw [← hh14] at n14
  have n16 := newL_ok' (h := h14 ++ [Cell.lst (us.map D.int)]) (xs := [.ref h14.length, d4]) (by simp [BIG])
  rw [← hh16] at n16
  have n18 := newL_ok' (h := h17) (xs := [.int 30, .int (-1), .non, .bl true, .str "3"]) (by simp [BIG])
  rw [← hh18] at n18
  have q18 : h18[h17.length]? = some (.lst [.int 30, .int (-1), .non, .bl true, .str "3"]) := by rw [hh18]; exact last_get
  have cc8 : opIx (.ref h17.length) (.int (cellv ns 5 % 5)) h18 = .ok d5 h18 := by simp only [opIx, asSeq_of q18, o5]
  have n19 := newL_ok' (h := h18) (xs := [d5]) (by simp [BIG])
  have n20 := newL_ok' (h := h19) (xs := [.str "slsls"]) (by simp [BIG])
  have hx' : ∀ h, opIx (setD zs b kk) (.int 0) h = .ok (.tup ((z0 :: zr).map D.str)) h := fun h => by rw [hx h, hz0]
  refine ⟨h19 ++ [Cell.lst [.str "slsls"]], ?_⟩
  simp only [m_law]
  rw [fnRun_res, hs]
  generalize hN16 : (h14 ++ [Cell.lst (us.map D.int)]).length = N16 at n16 e24
  simp only [decide_true, Bool.not_true] at e5 e25 e28 e30
  refine run_seq (s1 := [some (.scr ns), some d1, none, none, none, none, none, none, none, none, none]) (h1 := h1) (by simp [e1]) ?_
  refine run_seq (s1 := [some (.scr ns), some d1, some (.int (k : Int)), none, none, none, none, none, none, none, none]) (h1 := h1) (by simp [c0, hk]) ?_
  refine run_seq (s1 := [some (.scr ns), some d1, some (.int (k : Int)), none, none, none, none, none, none, none, none]) (h1 := h3) (by simp [-lenR, e2, e3, e4, e5, e6]) ?_
  refine run_seq (s1 := [some (.scr ns), some d1, some (.int (k : Int)), some (.str y), none, none, none, none, none, none, none]) (h1 := h4) (by simp [c1, e7, e8]) ?_
  refine run_seq (s1 := [some (.scr ns), some d1, some (.int (k : Int)), some (.str y), none, none, none, none, none, none, none]) (h1 := h7) (by simp [-lenR, e9, e10, e11, e12, e13, e14]) ?_
  refine run_seq (s1 := [some (.scr ns), some d1, some (.int (k : Int)), some (.str y), some (setD zs b kk), none, none, none, none, none, none]) (h1 := h8) (by simp [c2, e15, e16]) ?_
  refine run_seq (s1 := [some (.scr ns), some d1, some (.int (k : Int)), some (.str y), some (setD zs b kk), some (.ref h9.length), none, none, none, none, none]) (h1 := h9 ++ [Cell.lst (us.map D.int)]) (by simp [hx, wipeD, hb, e17]) ?_
  refine run_seq (s1 := [some (.scr ns), some d1, some (.int (k : Int)), some (.str y), some (setD zs b kk), some (.ref h9.length), some (.int (wt us zs).sum), none, none, none, none]) (h1 := h11) (by simp [-lenR, hx, wipeD, q9, e18, e19, ← hh11]) ?_
  refine run_seq (s1 := [some (.scr ns), some d1, some (.int (k : Int)), some (.str y), some (setD zs b kk), some (.ref h9.length), some (.int (wt us zs).sum), none, none, none, none]) (h1 := h13) (by simp [-lenR, hx, hbl1, e20, hbl2, e21, e22]) ?_
  refine run_seq (s1 := [some (.scr ns), some d1, some (.int (k : Int)), some (.str y), some (setD zs b kk), some (.ref h9.length), some (.int (wt us zs).sum), some (.ref hA.length), none, none, none]) (h1 := h14) (by rw [ho] at n14; simp [-lenR, -newL_ok', -List.map_cons, -List.map_append, hx', cc1, cc2, cc3, cc4, cc5, hl13, n14]) ?_
  refine run_seq (s1 := [some (.scr ns), some d1, some (.int (k : Int)), some (.str y), some (setD zs b kk), some (.ref h9.length), some (.int (wt us zs).sum), some (.ref hA.length), none, none, none]) (h1 := h17) (by simp [-lenR, -newL_ok', hbl3, c4, hk4, cc7, n16, e24, e25]) ?_
  refine run_seq (s1 := [some (.scr ns), some d1, some (.int (k : Int)), some (.str y), some (setD zs b kk), some (.ref h9.length), some (.int (wt us zs).sum), some d5, none, none, none]) (h1 := h18) (by simp [-lenR, -newL_ok', n18, c5, cc8]) ?_
  simp [-lenR, -newL_ok', n19, e27, e28, n20, e29, e30, fnRes]
end G9


set_option Elab.async false
set_option linter.all false
set_option maxRecDepth 100000
set_option maxHeartbeats 0
namespace G9
open PySem PySem.Spec PyProof.Rows L2

def topS (i : Nat) : Stmt := PySem.Challenge.pw_ringhouses_k15_codebook.main.body.getD i (.Pass ⟨0, 0, 0, 0⟩)
abbrev s_law_beats : Stmt := topS 73
abbrev nm_law_beats : List Str := ["code", "found", "sign"]
abbrev s_law_all_codes : Stmt := topS 74
abbrev nm_law_all_codes : List Str := ["found", "row", "k", "code", "ticks"]
abbrev s_law_cell : Stmt := topS 66
abbrev nm_law_cell : List Str := ["script", "k"]
abbrev s_all_codes : Stmt := topS 28
abbrev nm_all_codes : List Str := ["found", "codes", "many", "code"]
abbrev s_beats : Stmt := topS 24
abbrev nm_beats : List Str := ["code", "found", "sign"]
abbrev s_book : Stmt := topS 31
abbrev nm_book : List Str := ["ticks", "code"]
abbrev s_is_within : Stmt := topS 19
abbrev nm_is_within : List Str := ["thing", "low", "high"]
abbrev s_code_at : Stmt := topS 32
abbrev nm_code_at : List Str := ["number", "some"]
abbrev s_is_code : Stmt := topS 20
abbrev nm_is_code : List Str := ["thing", "sign"]
abbrev s_number_of_code : Stmt := topS 33
abbrev nm_number_of_code : List Str := ["code"]
abbrev s_law_pick : Stmt := topS 70
abbrev nm_law_pick : List Str := ["seed", "many"]
abbrev s_law_seed : Stmt := topS 69
abbrev nm_law_seed : List Str := ["seed", "k"]
abbrev s_law_code : Stmt := topS 71
abbrev nm_law_code : List Str := ["seed", "k"]
abbrev s_ticks_for : Stmt := topS 30
abbrev nm_ticks_for : List Str := ["code"]
abbrev s_law_setting : Stmt := topS 72
abbrev nm_law_setting : List Str := ["seed", "codes", "k", "code"]
abbrev s_law_mix : Stmt := topS 67
abbrev nm_law_mix : List Str := ["cell", "prime", "many"]
abbrev s_whole_ticks : Stmt := topS 34
abbrev nm_whole_ticks : List Str := ["uses", "codes", "one", "code", "often"]
abbrev s_law_whole : Stmt := topS 68
abbrev nm_law_whole : List Str := ["found"]
abbrev s_is_setting : Stmt := topS 21
abbrev nm_is_setting : List Str := ["thing", "code"]
abbrev s_look : Stmt := topS 22
abbrev nm_look : List Str := ["setting"]
abbrev s_look_house : Stmt := topS 23
abbrev nm_look_house : List Str := ["setting", "house"]
abbrev s_ring : Stmt := topS 25
abbrev nm_ring : List Str := ["code", "ticks", "one", "tick"]
abbrev s_apart_behind : Stmt := topS 37
abbrev nm_apart_behind : List Str := ["setting", "one", "other", "mine", "theirs", "ticks"]
abbrev s_mistaken : Stmt := topS 38
abbrev nm_mistaken : List Str := ["setting", "ticks", "rows", "found", "other", "code", "one"]
abbrev s_meant : Stmt := topS 26
abbrev nm_meant : List Str := ["setting", "row", "one", "house", "code"]
abbrev s_sure_behind : Stmt := topS 27
abbrev nm_sure_behind : List Str := ["setting", "house", "row", "ticks"]
abbrev s_all_sure_behind : Stmt := topS 39
abbrev nm_all_sure_behind : List Str := ["setting", "house"]
abbrev s_law_called : Stmt := topS 75
abbrev nm_law_called : List Str := ["which", "a"]
abbrev s_law_caught : Stmt := topS 77
abbrev nm_law_caught : List Str := ["which", "a", "caught"]
abbrev s_law : Stmt := topS 78
abbrev nm_law : List Str := ["script", "some", "number", "code", "setting", "uses", "due", "odd", "k", "often", "one"]
/-- what the top has written -/
structure Ctx (K : PySem.W.Frag) (mg : Str → Option Value) : Prop where
  b_bool : mg "bool" = none
  b_enumerate : mg "enumerate" = none
  b_int : mg "int" = none
  b_isinstance : mg "isinstance" = none
  b_len : mg "len" = none
  b_list : mg "list" = none
  b_max : mg "max" = none
  b_range : mg "range" = none
  b_set : mg "set" = none
  b_sorted : mg "sorted" = none
  b_str : mg "str" = none
  b_sum : mg "sum" = none
  b_tuple : mg "tuple" = none
  b_zip : mg "zip" = none
  c_LONG : ∃ t, mg "LONG" = some (.int 3 t)
  c_MOST_DEEDS : ∃ t, mg "MOST_DEEDS" = some (.int 100 t)
  c_MOST_SIGNS : ∃ t, mg "MOST_SIGNS" = some (.int 4 t)
  c_MOST_TICKS : ∃ t, mg "MOST_TICKS" = some (.int 400 t)
  c_REST : ∃ t, mg "REST" = some (.int 4 t)
  x_NoText : mg "NoText" = some (.ref (He.ga K "NoText"))
  x_NoDeeds : mg "NoDeeds" = some (.ref (He.ga K "NoDeeds"))
  x_NoCount : mg "NoCount" = some (.ref (He.ga K "NoCount"))
  x_NoHouse : mg "NoHouse" = some (.ref (He.ga K "NoHouse"))
  x_NoCode : mg "NoCode" = some (.ref (He.ga K "NoCode"))
  x_NoSetting : mg "NoSetting" = some (.ref (He.ga K "NoSetting"))
  tab : TabOk K tabL
  e_NoCode : ExF K mg "NoCode"
  e_NoCount : ExF K mg "NoCount"
  e_NoHouse : ExF K mg "NoHouse"
  e_NoSetting : ExF K mg "NoSetting"
  g_law_beats : mg "_law_beats" = some (.ref (He.ga K "_law_beats"))
  g_law_all_codes : mg "_law_all_codes" = some (.ref (He.ga K "_law_all_codes"))
  g_law_cell : mg "_law_cell" = some (.ref (He.ga K "_law_cell"))
  g_all_codes : mg "all_codes" = some (.ref (He.ga K "all_codes"))
  g_beats : mg "beats" = some (.ref (He.ga K "beats"))
  g_book : mg "book" = some (.ref (He.ga K "book"))
  g_is_within : mg "is_within" = some (.ref (He.ga K "is_within"))
  g_code_at : mg "code_at" = some (.ref (He.ga K "code_at"))
  g_is_code : mg "is_code" = some (.ref (He.ga K "is_code"))
  g_number_of_code : mg "number_of_code" = some (.ref (He.ga K "number_of_code"))
  g_law_pick : mg "_law_pick" = some (.ref (He.ga K "_law_pick"))
  g_law_seed : mg "_law_seed" = some (.ref (He.ga K "_law_seed"))
  g_law_code : mg "_law_code" = some (.ref (He.ga K "_law_code"))
  g_ticks_for : mg "ticks_for" = some (.ref (He.ga K "ticks_for"))
  g_law_setting : mg "_law_setting" = some (.ref (He.ga K "_law_setting"))
  g_law_mix : mg "_law_mix" = some (.ref (He.ga K "_law_mix"))
  g_whole_ticks : mg "whole_ticks" = some (.ref (He.ga K "whole_ticks"))
  g_law_whole : mg "_law_whole" = some (.ref (He.ga K "_law_whole"))
  g_is_setting : mg "is_setting" = some (.ref (He.ga K "is_setting"))
  g_look : mg "look" = some (.ref (He.ga K "look"))
  g_look_house : mg "look_house" = some (.ref (He.ga K "look_house"))
  g_ring : mg "ring" = some (.ref (He.ga K "ring"))
  g_apart_behind : mg "apart_behind" = some (.ref (He.ga K "apart_behind"))
  g_mistaken : mg "mistaken" = some (.ref (He.ga K "mistaken"))
  g_meant : mg "meant" = some (.ref (He.ga K "meant"))
  g_sure_behind : mg "sure_behind" = some (.ref (He.ga K "sure_behind"))
  g_all_sure_behind : mg "all_sure_behind" = some (.ref (He.ga K "all_sure_behind"))
  g_law_called : mg "_law_called" = some (.ref (He.ga K "_law_called"))
  g_law_caught : mg "_law_caught" = some (.ref (He.ga K "_law_caught"))
  g_law : mg "law" = some (.ref (He.ga K "law"))
  f_law_beats : ∃ fd, FunD K "_law_beats" "_law_beats" (defArgs s_law_beats) (defBody s_law_beats) (defScope s_law_beats) [] [] (He.ga K "_law_beats") fd
  f_law_all_codes : ∃ fd, FunD K "_law_all_codes" "_law_all_codes" (defArgs s_law_all_codes) (defBody s_law_all_codes) (defScope s_law_all_codes) [] [] (He.ga K "_law_all_codes") fd
  f_law_cell : ∃ fd, FunD K "_law_cell" "_law_cell" (defArgs s_law_cell) (defBody s_law_cell) (defScope s_law_cell) [] [] (He.ga K "_law_cell") fd
  f_all_codes : ∃ fd, FunD K "all_codes" "all_codes" (defArgs s_all_codes) (defBody s_all_codes) (defScope s_all_codes) [] [] (He.ga K "all_codes") fd
  f_beats : ∃ fd, FunD K "beats" "beats" (defArgs s_beats) (defBody s_beats) (defScope s_beats) [] [] (He.ga K "beats") fd
  f_book : ∃ fd, FunD K "book" "book" (defArgs s_book) (defBody s_book) (defScope s_book) [] [] (He.ga K "book") fd
  f_is_within : ∃ fd, FunD K "is_within" "is_within" (defArgs s_is_within) (defBody s_is_within) (defScope s_is_within) [] [] (He.ga K "is_within") fd
  f_code_at : ∃ fd, FunD K "code_at" "code_at" (defArgs s_code_at) (defBody s_code_at) (defScope s_code_at) [] [] (He.ga K "code_at") fd
  f_is_code : ∃ fd, FunD K "is_code" "is_code" (defArgs s_is_code) (defBody s_is_code) (defScope s_is_code) [] [] (He.ga K "is_code") fd
  f_number_of_code : ∃ fd, FunD K "number_of_code" "number_of_code" (defArgs s_number_of_code) (defBody s_number_of_code) (defScope s_number_of_code) [] [] (He.ga K "number_of_code") fd
  f_law_pick : ∃ fd, FunD K "_law_pick" "_law_pick" (defArgs s_law_pick) (defBody s_law_pick) (defScope s_law_pick) [] [] (He.ga K "_law_pick") fd
  f_law_seed : ∃ fd, FunD K "_law_seed" "_law_seed" (defArgs s_law_seed) (defBody s_law_seed) (defScope s_law_seed) [] [] (He.ga K "_law_seed") fd
  f_law_code : ∃ fd, FunD K "_law_code" "_law_code" (defArgs s_law_code) (defBody s_law_code) (defScope s_law_code) [] [] (He.ga K "_law_code") fd
  f_ticks_for : ∃ fd, FunD K "ticks_for" "ticks_for" (defArgs s_ticks_for) (defBody s_ticks_for) (defScope s_ticks_for) [] [] (He.ga K "ticks_for") fd
  f_law_setting : ∃ fd, FunD K "_law_setting" "_law_setting" (defArgs s_law_setting) (defBody s_law_setting) (defScope s_law_setting) [] [] (He.ga K "_law_setting") fd
  f_law_mix : ∃ fd, FunD K "_law_mix" "_law_mix" (defArgs s_law_mix) (defBody s_law_mix) (defScope s_law_mix) [] [] (He.ga K "_law_mix") fd
  f_whole_ticks : ∃ fd, FunD K "whole_ticks" "whole_ticks" (defArgs s_whole_ticks) (defBody s_whole_ticks) (defScope s_whole_ticks) [] [] (He.ga K "whole_ticks") fd
  f_law_whole : ∃ fd, FunD K "_law_whole" "_law_whole" (defArgs s_law_whole) (defBody s_law_whole) (defScope s_law_whole) [] [] (He.ga K "_law_whole") fd
  f_is_setting : ∃ fd, FunD K "is_setting" "is_setting" (defArgs s_is_setting) (defBody s_is_setting) (defScope s_is_setting) [] [] (He.ga K "is_setting") fd
  f_look : ∃ fd, FunD K "look" "look" (defArgs s_look) (defBody s_look) (defScope s_look) [] [] (He.ga K "look") fd
  f_look_house : ∃ fd, FunD K "look_house" "look_house" (defArgs s_look_house) (defBody s_look_house) (defScope s_look_house) [] [] (He.ga K "look_house") fd
  f_ring : ∃ fd, FunD K "ring" "ring" (defArgs s_ring) (defBody s_ring) (defScope s_ring) [] [] (He.ga K "ring") fd
  f_apart_behind : ∃ fd, FunD K "apart_behind" "apart_behind" (defArgs s_apart_behind) (defBody s_apart_behind) (defScope s_apart_behind) [] [] (He.ga K "apart_behind") fd
  f_mistaken : ∃ fd, FunD K "mistaken" "mistaken" (defArgs s_mistaken) (defBody s_mistaken) (defScope s_mistaken) [] [] (He.ga K "mistaken") fd
  f_meant : ∃ fd, FunD K "meant" "meant" (defArgs s_meant) (defBody s_meant) (defScope s_meant) [] [] (He.ga K "meant") fd
  f_sure_behind : ∃ fd, FunD K "sure_behind" "sure_behind" (defArgs s_sure_behind) (defBody s_sure_behind) (defScope s_sure_behind) [] [] (He.ga K "sure_behind") fd
  f_all_sure_behind : ∃ fd, FunD K "all_sure_behind" "all_sure_behind" (defArgs s_all_sure_behind) (defBody s_all_sure_behind) (defScope s_all_sure_behind) [] [] (He.ga K "all_sure_behind") fd
  f_law_called : ∃ fd, FunD K "_law_called" "_law_called" (defArgs s_law_called) (defBody s_law_called) (defScope s_law_called) [] [] (He.ga K "_law_called") fd
  f_law_caught : ∃ fd, FunD K "_law_caught" "_law_caught" (defArgs s_law_caught) (defBody s_law_caught) (defScope s_law_caught) [] [] (He.ga K "_law_caught") fd
  f_law : ∃ fd, FunD K "law" "law" (defArgs s_law) (defBody s_law) (defScope s_law) [] [] (He.ga K "law") fd
def d_law_beats : He.DefD := ⟨("_law_beats", none), "_law_beats", "_law_beats", defArgs s_law_beats, defBody s_law_beats, defScope s_law_beats, [], []⟩
def d_law_all_codes : He.DefD := ⟨("_law_all_codes", none), "_law_all_codes", "_law_all_codes", defArgs s_law_all_codes, defBody s_law_all_codes, defScope s_law_all_codes, [], []⟩
def d_law_cell : He.DefD := ⟨("_law_cell", none), "_law_cell", "_law_cell", defArgs s_law_cell, defBody s_law_cell, defScope s_law_cell, [], []⟩
def d_all_codes : He.DefD := ⟨("all_codes", none), "all_codes", "all_codes", defArgs s_all_codes, defBody s_all_codes, defScope s_all_codes, [], []⟩
def d_beats : He.DefD := ⟨("beats", none), "beats", "beats", defArgs s_beats, defBody s_beats, defScope s_beats, [], []⟩
def d_book : He.DefD := ⟨("book", none), "book", "book", defArgs s_book, defBody s_book, defScope s_book, [], []⟩
def d_is_within : He.DefD := ⟨("is_within", none), "is_within", "is_within", defArgs s_is_within, defBody s_is_within, defScope s_is_within, [], []⟩
def d_code_at : He.DefD := ⟨("code_at", none), "code_at", "code_at", defArgs s_code_at, defBody s_code_at, defScope s_code_at, [], []⟩
def d_is_code : He.DefD := ⟨("is_code", none), "is_code", "is_code", defArgs s_is_code, defBody s_is_code, defScope s_is_code, [], []⟩
def d_number_of_code : He.DefD := ⟨("number_of_code", none), "number_of_code", "number_of_code", defArgs s_number_of_code, defBody s_number_of_code, defScope s_number_of_code, [], []⟩
def d_law_pick : He.DefD := ⟨("_law_pick", none), "_law_pick", "_law_pick", defArgs s_law_pick, defBody s_law_pick, defScope s_law_pick, [], []⟩
def d_law_seed : He.DefD := ⟨("_law_seed", none), "_law_seed", "_law_seed", defArgs s_law_seed, defBody s_law_seed, defScope s_law_seed, [], []⟩
def d_law_code : He.DefD := ⟨("_law_code", none), "_law_code", "_law_code", defArgs s_law_code, defBody s_law_code, defScope s_law_code, [], []⟩
def d_ticks_for : He.DefD := ⟨("ticks_for", none), "ticks_for", "ticks_for", defArgs s_ticks_for, defBody s_ticks_for, defScope s_ticks_for, [], []⟩
def d_law_setting : He.DefD := ⟨("_law_setting", none), "_law_setting", "_law_setting", defArgs s_law_setting, defBody s_law_setting, defScope s_law_setting, [], []⟩
def d_law_mix : He.DefD := ⟨("_law_mix", none), "_law_mix", "_law_mix", defArgs s_law_mix, defBody s_law_mix, defScope s_law_mix, [], []⟩
def d_whole_ticks : He.DefD := ⟨("whole_ticks", none), "whole_ticks", "whole_ticks", defArgs s_whole_ticks, defBody s_whole_ticks, defScope s_whole_ticks, [], []⟩
def d_law_whole : He.DefD := ⟨("_law_whole", none), "_law_whole", "_law_whole", defArgs s_law_whole, defBody s_law_whole, defScope s_law_whole, [], []⟩
def d_is_setting : He.DefD := ⟨("is_setting", none), "is_setting", "is_setting", defArgs s_is_setting, defBody s_is_setting, defScope s_is_setting, [], []⟩
def d_look : He.DefD := ⟨("look", none), "look", "look", defArgs s_look, defBody s_look, defScope s_look, [], []⟩
def d_look_house : He.DefD := ⟨("look_house", none), "look_house", "look_house", defArgs s_look_house, defBody s_look_house, defScope s_look_house, [], []⟩
def d_ring : He.DefD := ⟨("ring", none), "ring", "ring", defArgs s_ring, defBody s_ring, defScope s_ring, [], []⟩
def d_apart_behind : He.DefD := ⟨("apart_behind", none), "apart_behind", "apart_behind", defArgs s_apart_behind, defBody s_apart_behind, defScope s_apart_behind, [], []⟩
def d_mistaken : He.DefD := ⟨("mistaken", none), "mistaken", "mistaken", defArgs s_mistaken, defBody s_mistaken, defScope s_mistaken, [], []⟩
def d_meant : He.DefD := ⟨("meant", none), "meant", "meant", defArgs s_meant, defBody s_meant, defScope s_meant, [], []⟩
def d_sure_behind : He.DefD := ⟨("sure_behind", none), "sure_behind", "sure_behind", defArgs s_sure_behind, defBody s_sure_behind, defScope s_sure_behind, [], []⟩
def d_all_sure_behind : He.DefD := ⟨("all_sure_behind", none), "all_sure_behind", "all_sure_behind", defArgs s_all_sure_behind, defBody s_all_sure_behind, defScope s_all_sure_behind, [], []⟩
def d_law_called : He.DefD := ⟨("_law_called", none), "_law_called", "_law_called", defArgs s_law_called, defBody s_law_called, defScope s_law_called, [], []⟩
def d_law_caught : He.DefD := ⟨("_law_caught", none), "_law_caught", "_law_caught", defArgs s_law_caught, defBody s_law_caught, defScope s_law_caught, [], []⟩
def d_law : He.DefD := ⟨("law", none), "law", "law", defArgs s_law, defBody s_law, defScope s_law, [], []⟩
def fns : List He.DefD := [d_law_beats, d_law_all_codes, d_law_cell, d_all_codes, d_beats, d_book, d_is_within, d_code_at, d_is_code, d_number_of_code, d_law_pick, d_law_seed, d_law_code, d_ticks_for, d_law_setting, d_law_mix, d_whole_ticks, d_law_whole, d_is_setting, d_look, d_look_house, d_ring, d_apart_behind, d_mistaken, d_meant, d_sure_behind, d_all_sure_behind, d_law_called, d_law_caught, d_law]
def fas : List He.Fa := [.free "bool", .free "enumerate", .free "int", .free "isinstance", .free "len", .free "list", .free "max", .free "range", .free "set", .free "sorted", .free "str", .free "sum", .free "tuple", .free "zip", .int "LONG" 3, .int "MOST_DEEDS" 100, .int "MOST_SIGNS" 4, .int "MOST_TICKS" 400, .int "REST" 4, .glo "NoText", .glo "NoDeeds", .glo "NoCount", .glo "NoHouse", .glo "NoCode", .glo "NoSetting", .exm "NoCode" "NoText" false, .exm "NoCode" "NoDeeds" false, .exm "NoCode" "NoCount" false, .exm "NoCode" "NoHouse" false, .exm "NoCode" "NoCode" true, .exm "NoCode" "NoSetting" false, .exm "NoCount" "NoText" false, .exm "NoCount" "NoDeeds" false, .exm "NoCount" "NoCount" true, .exm "NoCount" "NoHouse" false, .exm "NoCount" "NoCode" false, .exm "NoCount" "NoSetting" false, .exm "NoHouse" "NoText" false, .exm "NoHouse" "NoDeeds" false, .exm "NoHouse" "NoCount" false, .exm "NoHouse" "NoHouse" true, .exm "NoHouse" "NoCode" false, .exm "NoHouse" "NoSetting" false, .exm "NoSetting" "NoText" false, .exm "NoSetting" "NoDeeds" false, .exm "NoSetting" "NoCount" false, .exm "NoSetting" "NoHouse" false, .exm "NoSetting" "NoCode" false, .exm "NoSetting" "NoSetting" true, .glo "NoCode", .exc "NoCode", .glo "NoCount", .exc "NoCount", .glo "NoHouse", .exc "NoHouse", .glo "NoSetting", .exc "NoSetting", .glo "_law_beats", .glo "_law_all_codes", .glo "_law_cell", .glo "all_codes", .glo "beats", .glo "book", .glo "is_within", .glo "code_at", .glo "is_code", .glo "number_of_code", .glo "_law_pick", .glo "_law_seed", .glo "_law_code", .glo "ticks_for", .glo "_law_setting", .glo "_law_mix", .glo "whole_ticks", .glo "_law_whole", .glo "is_setting", .glo "look", .glo "look_house", .glo "ring", .glo "apart_behind", .glo "mistaken", .glo "meant", .glo "sure_behind", .glo "all_sure_behind", .glo "_law_called", .glo "_law_caught", .glo "law"]
theorem ctx_of {K : PySem.W.Frag} {h : Heap} {mg : Str → Option Value} (X : K.In h) (G : h.Ns mainGlobals mg) (c : He.SaysD fas fns K) : Ctx K mg :=
  ⟨He.free_ok X G (c.fact 0 (f := .free "bool") rfl),
   He.free_ok X G (c.fact 1 (f := .free "enumerate") rfl),
   He.free_ok X G (c.fact 2 (f := .free "int") rfl),
   He.free_ok X G (c.fact 3 (f := .free "isinstance") rfl),
   He.free_ok X G (c.fact 4 (f := .free "len") rfl),
   He.free_ok X G (c.fact 5 (f := .free "list") rfl),
   He.free_ok X G (c.fact 6 (f := .free "max") rfl),
   He.free_ok X G (c.fact 7 (f := .free "range") rfl),
   He.free_ok X G (c.fact 8 (f := .free "set") rfl),
   He.free_ok X G (c.fact 9 (f := .free "sorted") rfl),
   He.free_ok X G (c.fact 10 (f := .free "str") rfl),
   He.free_ok X G (c.fact 11 (f := .free "sum") rfl),
   He.free_ok X G (c.fact 12 (f := .free "tuple") rfl),
   He.free_ok X G (c.fact 13 (f := .free "zip") rfl),
   He.int_ok X G (c.fact 14 (f := .int "LONG" 3) rfl),
   He.int_ok X G (c.fact 15 (f := .int "MOST_DEEDS" 100) rfl),
   He.int_ok X G (c.fact 16 (f := .int "MOST_SIGNS" 4) rfl),
   He.int_ok X G (c.fact 17 (f := .int "MOST_TICKS" 400) rfl),
   He.int_ok X G (c.fact 18 (f := .int "REST" 4) rfl),
   He.glo_ok X G (c.fact 19 (f := .glo "NoText") rfl),
   He.glo_ok X G (c.fact 20 (f := .glo "NoDeeds") rfl),
   He.glo_ok X G (c.fact 21 (f := .glo "NoCount") rfl),
   He.glo_ok X G (c.fact 22 (f := .glo "NoHouse") rfl),
   He.glo_ok X G (c.fact 23 (f := .glo "NoCode") rfl),
   He.glo_ok X G (c.fact 24 (f := .glo "NoSetting") rfl),
   tabOf_ok (tabs_cons (He.exm_ok (c.fact 25 (f := .exm "NoCode" "NoText" false) rfl)) (tabs_cons (He.exm_ok (c.fact 26 (f := .exm "NoCode" "NoDeeds" false) rfl)) (tabs_cons (He.exm_ok (c.fact 27 (f := .exm "NoCode" "NoCount" false) rfl)) (tabs_cons (He.exm_ok (c.fact 28 (f := .exm "NoCode" "NoHouse" false) rfl)) (tabs_cons (He.exm_ok (c.fact 29 (f := .exm "NoCode" "NoCode" true) rfl)) (tabs_cons (He.exm_ok (c.fact 30 (f := .exm "NoCode" "NoSetting" false) rfl)) (tabs_cons (He.exm_ok (c.fact 31 (f := .exm "NoCount" "NoText" false) rfl)) (tabs_cons (He.exm_ok (c.fact 32 (f := .exm "NoCount" "NoDeeds" false) rfl)) (tabs_cons (He.exm_ok (c.fact 33 (f := .exm "NoCount" "NoCount" true) rfl)) (tabs_cons (He.exm_ok (c.fact 34 (f := .exm "NoCount" "NoHouse" false) rfl)) (tabs_cons (He.exm_ok (c.fact 35 (f := .exm "NoCount" "NoCode" false) rfl)) (tabs_cons (He.exm_ok (c.fact 36 (f := .exm "NoCount" "NoSetting" false) rfl)) (tabs_cons (He.exm_ok (c.fact 37 (f := .exm "NoHouse" "NoText" false) rfl)) (tabs_cons (He.exm_ok (c.fact 38 (f := .exm "NoHouse" "NoDeeds" false) rfl)) (tabs_cons (He.exm_ok (c.fact 39 (f := .exm "NoHouse" "NoCount" false) rfl)) (tabs_cons (He.exm_ok (c.fact 40 (f := .exm "NoHouse" "NoHouse" true) rfl)) (tabs_cons (He.exm_ok (c.fact 41 (f := .exm "NoHouse" "NoCode" false) rfl)) (tabs_cons (He.exm_ok (c.fact 42 (f := .exm "NoHouse" "NoSetting" false) rfl)) (tabs_cons (He.exm_ok (c.fact 43 (f := .exm "NoSetting" "NoText" false) rfl)) (tabs_cons (He.exm_ok (c.fact 44 (f := .exm "NoSetting" "NoDeeds" false) rfl)) (tabs_cons (He.exm_ok (c.fact 45 (f := .exm "NoSetting" "NoCount" false) rfl)) (tabs_cons (He.exm_ok (c.fact 46 (f := .exm "NoSetting" "NoHouse" false) rfl)) (tabs_cons (He.exm_ok (c.fact 47 (f := .exm "NoSetting" "NoCode" false) rfl)) (tabs_cons (He.exm_ok (c.fact 48 (f := .exm "NoSetting" "NoSetting" true) rfl)) tabs_nil)))))))))))))))))))))))),
   exf_of X G (c.fact 49 (f := .glo "NoCode") rfl) (c.fact 50 (f := .exc "NoCode") rfl),
   exf_of X G (c.fact 51 (f := .glo "NoCount") rfl) (c.fact 52 (f := .exc "NoCount") rfl),
   exf_of X G (c.fact 53 (f := .glo "NoHouse") rfl) (c.fact 54 (f := .exc "NoHouse") rfl),
   exf_of X G (c.fact 55 (f := .glo "NoSetting") rfl) (c.fact 56 (f := .exc "NoSetting") rfl),
   He.glo_ok X G (c.fact 57 (f := .glo "_law_beats") rfl),
   He.glo_ok X G (c.fact 58 (f := .glo "_law_all_codes") rfl),
   He.glo_ok X G (c.fact 59 (f := .glo "_law_cell") rfl),
   He.glo_ok X G (c.fact 60 (f := .glo "all_codes") rfl),
   He.glo_ok X G (c.fact 61 (f := .glo "beats") rfl),
   He.glo_ok X G (c.fact 62 (f := .glo "book") rfl),
   He.glo_ok X G (c.fact 63 (f := .glo "is_within") rfl),
   He.glo_ok X G (c.fact 64 (f := .glo "code_at") rfl),
   He.glo_ok X G (c.fact 65 (f := .glo "is_code") rfl),
   He.glo_ok X G (c.fact 66 (f := .glo "number_of_code") rfl),
   He.glo_ok X G (c.fact 67 (f := .glo "_law_pick") rfl),
   He.glo_ok X G (c.fact 68 (f := .glo "_law_seed") rfl),
   He.glo_ok X G (c.fact 69 (f := .glo "_law_code") rfl),
   He.glo_ok X G (c.fact 70 (f := .glo "ticks_for") rfl),
   He.glo_ok X G (c.fact 71 (f := .glo "_law_setting") rfl),
   He.glo_ok X G (c.fact 72 (f := .glo "_law_mix") rfl),
   He.glo_ok X G (c.fact 73 (f := .glo "whole_ticks") rfl),
   He.glo_ok X G (c.fact 74 (f := .glo "_law_whole") rfl),
   He.glo_ok X G (c.fact 75 (f := .glo "is_setting") rfl),
   He.glo_ok X G (c.fact 76 (f := .glo "look") rfl),
   He.glo_ok X G (c.fact 77 (f := .glo "look_house") rfl),
   He.glo_ok X G (c.fact 78 (f := .glo "ring") rfl),
   He.glo_ok X G (c.fact 79 (f := .glo "apart_behind") rfl),
   He.glo_ok X G (c.fact 80 (f := .glo "mistaken") rfl),
   He.glo_ok X G (c.fact 81 (f := .glo "meant") rfl),
   He.glo_ok X G (c.fact 82 (f := .glo "sure_behind") rfl),
   He.glo_ok X G (c.fact 83 (f := .glo "all_sure_behind") rfl),
   He.glo_ok X G (c.fact 84 (f := .glo "_law_called") rfl),
   He.glo_ok X G (c.fact 85 (f := .glo "_law_caught") rfl),
   He.glo_ok X G (c.fact 86 (f := .glo "law") rfl),
   c.def_ 0 (d := d_law_beats) rfl,
   c.def_ 1 (d := d_law_all_codes) rfl,
   c.def_ 2 (d := d_law_cell) rfl,
   c.def_ 3 (d := d_all_codes) rfl,
   c.def_ 4 (d := d_beats) rfl,
   c.def_ 5 (d := d_book) rfl,
   c.def_ 6 (d := d_is_within) rfl,
   c.def_ 7 (d := d_code_at) rfl,
   c.def_ 8 (d := d_is_code) rfl,
   c.def_ 9 (d := d_number_of_code) rfl,
   c.def_ 10 (d := d_law_pick) rfl,
   c.def_ 11 (d := d_law_seed) rfl,
   c.def_ 12 (d := d_law_code) rfl,
   c.def_ 13 (d := d_ticks_for) rfl,
   c.def_ 14 (d := d_law_setting) rfl,
   c.def_ 15 (d := d_law_mix) rfl,
   c.def_ 16 (d := d_whole_ticks) rfl,
   c.def_ 17 (d := d_law_whole) rfl,
   c.def_ 18 (d := d_is_setting) rfl,
   c.def_ 19 (d := d_look) rfl,
   c.def_ 20 (d := d_look_house) rfl,
   c.def_ 21 (d := d_ring) rfl,
   c.def_ 22 (d := d_apart_behind) rfl,
   c.def_ 23 (d := d_mistaken) rfl,
   c.def_ 24 (d := d_meant) rfl,
   c.def_ 25 (d := d_sure_behind) rfl,
   c.def_ 26 (d := d_all_sure_behind) rfl,
   c.def_ 27 (d := d_law_called) rfl,
   c.def_ 28 (d := d_law_caught) rfl,
   c.def_ 29 (d := d_law) rfl⟩
theorem sc_law_beats : FnScope nm_law_beats ["code"] (defScope s_law_beats) := ⟨rfl, rfl, rfl, by decide +kernel, rfl, by decide +kernel, by decide +kernel⟩
theorem sc_law_all_codes : FnScope nm_law_all_codes [] (defScope s_law_all_codes) := ⟨rfl, rfl, rfl, by decide +kernel, rfl, by decide +kernel, by decide +kernel⟩
theorem sc_law_cell : FnScope nm_law_cell ["script", "k"] (defScope s_law_cell) := ⟨rfl, rfl, rfl, by decide +kernel, rfl, by decide +kernel, by decide +kernel⟩
theorem sc_all_codes : FnScope nm_all_codes [] (defScope s_all_codes) := ⟨rfl, rfl, rfl, by decide +kernel, rfl, by decide +kernel, by decide +kernel⟩
theorem sc_beats : FnScope nm_beats ["code"] (defScope s_beats) := ⟨rfl, rfl, rfl, by decide +kernel, rfl, by decide +kernel, by decide +kernel⟩
theorem sc_book : FnScope nm_book [] (defScope s_book) := ⟨rfl, rfl, rfl, by decide +kernel, rfl, by decide +kernel, by decide +kernel⟩
theorem sc_is_within : FnScope nm_is_within ["thing", "low", "high"] (defScope s_is_within) := ⟨rfl, rfl, rfl, by decide +kernel, rfl, by decide +kernel, by decide +kernel⟩
theorem sc_code_at : FnScope nm_code_at ["number"] (defScope s_code_at) := ⟨rfl, rfl, rfl, by decide +kernel, rfl, by decide +kernel, by decide +kernel⟩
theorem sc_is_code : FnScope nm_is_code ["thing"] (defScope s_is_code) := ⟨rfl, rfl, rfl, by decide +kernel, rfl, by decide +kernel, by decide +kernel⟩
theorem sc_number_of_code : FnScope nm_number_of_code ["code"] (defScope s_number_of_code) := ⟨rfl, rfl, rfl, by decide +kernel, rfl, by decide +kernel, by decide +kernel⟩
theorem sc_law_pick : FnScope nm_law_pick ["seed", "many"] (defScope s_law_pick) := ⟨rfl, rfl, rfl, by decide +kernel, rfl, by decide +kernel, by decide +kernel⟩
theorem sc_law_seed : FnScope nm_law_seed ["seed", "k"] (defScope s_law_seed) := ⟨rfl, rfl, rfl, by decide +kernel, rfl, by decide +kernel, by decide +kernel⟩
theorem sc_law_code : FnScope nm_law_code ["seed"] (defScope s_law_code) := ⟨rfl, rfl, rfl, by decide +kernel, rfl, by decide +kernel, by decide +kernel⟩
theorem sc_ticks_for : FnScope nm_ticks_for ["code"] (defScope s_ticks_for) := ⟨rfl, rfl, rfl, by decide +kernel, rfl, by decide +kernel, by decide +kernel⟩
theorem sc_law_setting : FnScope nm_law_setting ["seed"] (defScope s_law_setting) := ⟨rfl, rfl, rfl, by decide +kernel, rfl, by decide +kernel, by decide +kernel⟩
theorem sc_law_mix : FnScope nm_law_mix ["cell", "prime", "many"] (defScope s_law_mix) := ⟨rfl, rfl, rfl, by decide +kernel, rfl, by decide +kernel, by decide +kernel⟩
theorem sc_whole_ticks : FnScope nm_whole_ticks ["uses", "codes"] (defScope s_whole_ticks) := ⟨rfl, rfl, rfl, by decide +kernel, rfl, by decide +kernel, by decide +kernel⟩
theorem sc_law_whole : FnScope nm_law_whole ["found"] (defScope s_law_whole) := ⟨rfl, rfl, rfl, by decide +kernel, rfl, by decide +kernel, by decide +kernel⟩
theorem sc_is_setting : FnScope nm_is_setting ["thing"] (defScope s_is_setting) := ⟨rfl, rfl, rfl, by decide +kernel, rfl, by decide +kernel, by decide +kernel⟩
theorem sc_look : FnScope nm_look ["setting"] (defScope s_look) := ⟨rfl, rfl, rfl, by decide +kernel, rfl, by decide +kernel, by decide +kernel⟩
theorem sc_look_house : FnScope nm_look_house ["setting", "house"] (defScope s_look_house) := ⟨rfl, rfl, rfl, by decide +kernel, rfl, by decide +kernel, by decide +kernel⟩
theorem sc_ring : FnScope nm_ring ["code", "ticks"] (defScope s_ring) := ⟨rfl, rfl, rfl, by decide +kernel, rfl, by decide +kernel, by decide +kernel⟩
theorem sc_apart_behind : FnScope nm_apart_behind ["setting", "one", "other"] (defScope s_apart_behind) := ⟨rfl, rfl, rfl, by decide +kernel, rfl, by decide +kernel, by decide +kernel⟩
theorem sc_mistaken : FnScope nm_mistaken ["setting", "ticks"] (defScope s_mistaken) := ⟨rfl, rfl, rfl, by decide +kernel, rfl, by decide +kernel, by decide +kernel⟩
theorem sc_meant : FnScope nm_meant ["setting", "row"] (defScope s_meant) := ⟨rfl, rfl, rfl, by decide +kernel, rfl, by decide +kernel, by decide +kernel⟩
theorem sc_sure_behind : FnScope nm_sure_behind ["setting", "house"] (defScope s_sure_behind) := ⟨rfl, rfl, rfl, by decide +kernel, rfl, by decide +kernel, by decide +kernel⟩
theorem sc_all_sure_behind : FnScope nm_all_sure_behind ["setting"] (defScope s_all_sure_behind) := ⟨rfl, rfl, rfl, by decide +kernel, rfl, by decide +kernel, by decide +kernel⟩
theorem sc_law_called : FnScope nm_law_called ["which", "a"] (defScope s_law_called) := ⟨rfl, rfl, rfl, by decide +kernel, rfl, by decide +kernel, by decide +kernel⟩
theorem sc_law_caught : FnScope nm_law_caught ["which", "a"] (defScope s_law_caught) := ⟨rfl, rfl, rfl, by decide +kernel, rfl, by decide +kernel, by decide +kernel⟩
theorem sc_law : FnScope nm_law ["script"] (defScope s_law) := ⟨rfl, rfl, rfl, by decide +kernel, rfl, by decide +kernel, by decide +kernel⟩
section
variable {P : Program} {w : World} {K : PySem.W.Frag} {mg : Str → Option Value} {base : Heap}
theorem ok_law_beats (T : Ctx K mg) : Fn P w K mg base "_law_beats" 1 1 m_law_beats := by
  obtain ⟨fd, F⟩ := T.f_law_beats
  refine ⟨_, fd, ["code"], fn_ok (k := 0) (N := nm_law_beats) F sc_law_beats (fun cdv A outer s H E hr => ?_), T.g_law_beats, F.kp, F.bindsN fun _ _ _ _ _ _ us hl => match us, hl with | [_], _ => rfl⟩
  exact (ss_cons (ss_set sc_law_beats.nd (se_lst sa_nil))
    (ss_cons (ss_for (vs := [2]) (passes_of rfl) rfl (si_str (sv 0)) (sg_name sc_law_beats.nd) (ss_one (ss_set sc_law_beats.nd (xadd (xadd (sv 1) (xmul (se_lst (sa_cons se_bl sa_nil)) (se_dget (hu1 hr) (se_disp (ps := [((fC (.str "s")), (fC (.int 1))), ((fC (.str "l")), (fC (.int 3)))]) (pps_cons se_str se_int (pps_cons se_str se_int pps_nil))) (sv 2)))) (se_lst (sa_cons se_bl sa_nil))))))
    (ss_one (ss_ret (xadd (sv 1) (se_lst (sa_cons se_bl (sa_cons se_bl (sa_cons se_bl sa_nil)))))))))
theorem ok_law_all_codes (T : Ctx K mg) : Fn P w K mg base "_law_all_codes" 2 0 m_law_all_codes := by
  obtain ⟨fd, F⟩ := T.f_law_all_codes
  refine ⟨_, fd, [], fn_ok (k := 1) (N := nm_law_all_codes) F sc_law_all_codes (fun cdv A outer s H E hr => ?_), T.g_law_all_codes, F.kp, F.bindsN fun _ _ _ _ _ _ us hl => match us, hl with | [], _ => rfl⟩
  exact (ss_cons (ss_par rfl sc_law_all_codes.nd (sa_cons (se_lst sa_nil) (sa_cons (se_lst (sa_cons se_str sa_nil)) sa_nil)))
    (ss_cons (ss_for (vs := [2]) (passes_of rfl) rfl (si_range1 T.b_range se_int) (sg_name sc_law_all_codes.nd) (ss_cons (ss_set sc_law_all_codes.nd (xadd (se_lc (own := [("code", 3)]) rfl sc_law_all_codes.nd (blkOk_by (N := nm_law_all_codes) (sc := defScope s_law_all_codes) (by decide +kernel)) (si_list (sv 1)) (fun _ _ _ _ _ => (sg_name sc_law_all_codes.nd)) (fun _ _ _ _ _ => sts_nil) (fun _ _ _ _ _ => (xadd (sv 3) se_str))) (se_lc (own := [("code", 3)]) rfl sc_law_all_codes.nd (blkOk_by (N := nm_law_all_codes) (sc := defScope s_law_all_codes) (by decide +kernel)) (si_list (sv 1)) (fun _ _ _ _ _ => (sg_name sc_law_all_codes.nd)) (fun _ _ _ _ _ => sts_nil) (fun _ _ _ _ _ => (xadd (sv 3) se_str)))))
    (ss_one (ss_set sc_law_all_codes.nd (xadd (sv 0) (sv 1))))))
    (ss_one (ss_ret (se_lc (own := [("ticks", 4), ("code", 3)]) rfl sc_law_all_codes.nd (blkOk_by (N := nm_law_all_codes) (sc := defScope s_law_all_codes) (by decide +kernel)) (si_list (xsortA hr T.b_sorted (sa_cons (se_lc (own := [("code", 3)]) rfl sc_law_all_codes.nd (blkOk_by (N := nm_law_all_codes) (sc := defScope s_law_all_codes) (by decide +kernel)) (si_list (sv 0)) (fun _ _ _ _ _ => (sg_name sc_law_all_codes.nd)) (fun _ _ _ _ _ => sts_nil) (fun _ _ _ _ _ => (se_tup (sa_cons (xlen T.b_len (sa_cons (se_call (ok_law_beats T) (hr.mono (by decide)) takes0 (sa_cons (sv 3) sa_nil)) sa_nil)) (sa_cons (sv 3) sa_nil))))) sa_nil))) (fun _ _ _ _ _ => (sg_tup rfl (sgs_cons (sg_name sc_law_all_codes.nd) (sgs_cons (sg_name sc_law_all_codes.nd) sgs_nil)) (gl_cons (gl_cons gl_nil)))) (fun _ _ _ _ _ => sts_nil) (fun _ _ _ _ _ => (sv 3)))))))
theorem ok_law_cell (T : Ctx K mg) : Fn P w K mg base "_law_cell" 1 2 m_law_cell := by
  obtain ⟨fd, F⟩ := T.f_law_cell
  refine ⟨_, fd, ["script", "k"], fn_ok (k := 0) (N := nm_law_cell) F sc_law_cell (fun cdv A outer s H E hr => ?_), T.g_law_cell, F.kp, F.bindsN fun _ _ _ _ _ _ us hl => match us, hl with | [_, _], _ => rfl⟩
  exact (ss_cons (ss_if (tc c_lt (sv 1) (xlen T.b_len (sa_cons (sv 0) sa_nil))) (ss_one (ss_ret (se_ix (sv 0) (sv 1)))) ss_nil)
    (ss_one (ss_ret se_int)))
theorem ok_all_codes (T : Ctx K mg) : Fn P w K mg base "all_codes" 1 0 m_all_codes := by
  obtain ⟨fd, F⟩ := T.f_all_codes
  refine ⟨_, fd, [], fn_ok (k := 0) (N := nm_all_codes) F sc_all_codes (fun cdv A outer s H E hr => ?_), T.g_all_codes, F.kp, F.bindsN fun _ _ _ _ _ _ us hl => match us, hl with | [], _ => rfl⟩
  exact (ss_cons (ss_set sc_all_codes.nd (se_lst (sa_cons se_str sa_nil)))
    (ss_cons (ss_set sc_all_codes.nd (se_lst sa_nil))
    (ss_cons (ss_for (vs := [2]) (passes_of rfl) rfl (si_range1 T.b_range (se_gint T.c_MOST_SIGNS)) (sg_name sc_all_codes.nd) (ss_cons (ss_set sc_all_codes.nd (xadd (se_lc (own := [("code", 3)]) rfl sc_all_codes.nd (blkOk_by (N := nm_all_codes) (sc := defScope s_all_codes) (by decide +kernel)) (si_list (sv 0)) (fun _ _ _ _ _ => (sg_name sc_all_codes.nd)) (fun _ _ _ _ _ => sts_nil) (fun _ _ _ _ _ => (xadd (sv 3) se_str))) (se_lc (own := [("code", 3)]) rfl sc_all_codes.nd (blkOk_by (N := nm_all_codes) (sc := defScope s_all_codes) (by decide +kernel)) (si_list (sv 0)) (fun _ _ _ _ _ => (sg_name sc_all_codes.nd)) (fun _ _ _ _ _ => sts_nil) (fun _ _ _ _ _ => (xadd (sv 3) se_str)))))
    (ss_one (ss_expr (se_mt PySem.F.plainAttrs_list PySem.F.slot_list_extend PySem.F.type_list_extend mt_extend ms_extend (sv 1) (sa_cons (sv 0) sa_nil))))))
    (ss_one (ss_ret (sv 1))))))
theorem ok_beats (T : Ctx K mg) : Fn P w K mg base "beats" 1 1 m_beats := by
  obtain ⟨fd, F⟩ := T.f_beats
  refine ⟨_, fd, ["code"], fn_ok (k := 0) (N := nm_beats) F sc_beats (fun cdv A outer s H E hr => ?_), T.g_beats, F.kp, F.bindsN fun _ _ _ _ _ _ us hl => match us, hl with | [_], _ => rfl⟩
  exact (ss_cons (ss_set sc_beats.nd (se_lst sa_nil))
    (ss_cons (ss_for (vs := [2]) (passes_of rfl) rfl (si_str (sv 0)) (sg_name sc_beats.nd) (ss_one (ss_expr (se_mt PySem.F.plainAttrs_list PySem.F.slot_list_extend PySem.F.type_list_extend mt_extend ms_extend (sv 1) (sa_cons (xadd (xmul (se_lst (sa_cons se_bl sa_nil)) (se_if (tc (c_eq hr) (sv 2) se_str) (se_gint T.c_LONG) se_int)) (se_lst (sa_cons se_bl sa_nil))) sa_nil)))))
    (ss_one (ss_ret (xadd (sv 1) (xmul (se_lst (sa_cons se_bl sa_nil)) (xsub (se_gint T.c_REST) se_int)))))))
theorem ok_book (T : Ctx K mg) : Fn P w K mg base "book" 2 0 m_book := by
  obtain ⟨fd, F⟩ := T.f_book
  refine ⟨_, fd, [], fn_ok (k := 1) (N := nm_book) F sc_book (fun cdv A outer s H E hr => ?_), T.g_book, F.kp, F.bindsN fun _ _ _ _ _ _ us hl => match us, hl with | [], _ => rfl⟩
  exact (ss_one (ss_ret (se_lc (own := [("ticks", 0), ("code", 1)]) rfl sc_book.nd (blkOk_by (N := nm_book) (sc := defScope s_book) (by decide +kernel)) (si_list (xsortA hr T.b_sorted (sa_cons (se_lc (own := [("code", 1)]) rfl sc_book.nd (blkOk_by (N := nm_book) (sc := defScope s_book) (by decide +kernel)) (si_list (se_call0 (ok_all_codes T) (hr.mono (by decide)) (takes_of rfl rfl rfl rfl))) (fun _ _ _ _ _ => (sg_name sc_book.nd)) (fun _ _ _ _ _ => sts_nil) (fun _ _ _ _ _ => (se_tup (sa_cons (xlen T.b_len (sa_cons (se_call (ok_beats T) (hr.mono (by decide)) takes0 (sa_cons (sv 1) sa_nil)) sa_nil)) (sa_cons (sv 1) sa_nil))))) sa_nil))) (fun _ _ _ _ _ => (sg_tup rfl (sgs_cons (sg_name sc_book.nd) (sgs_cons (sg_name sc_book.nd) sgs_nil)) (gl_cons (gl_cons gl_nil)))) (fun _ _ _ _ _ => sts_nil) (fun _ _ _ _ _ => (sv 1)))))
theorem ok_is_within (T : Ctx K mg) : Fn P w K mg base "is_within" 1 3 m_is_within := by
  obtain ⟨fd, F⟩ := T.f_is_within
  refine ⟨_, fd, ["thing", "low", "high"], fn_ok (k := 0) (N := nm_is_within) F sc_is_within (fun cdv A outer s H E hr => ?_), T.g_is_within, F.kp, F.bindsN fun _ _ _ _ _ _ us hl => match us, hl with | [_, _, _], _ => rfl⟩
  exact (ss_one (ss_ret (se_andV (se_isi T.b_isinstance T.b_int bt_int (sv 0)) (se_andV (se_notV (se_isi T.b_isinstance T.b_bool bt_bool (sv 0))) (se_one (xc2 c_le c_le (sv 1) (sv 0) (sv 2)))))))
theorem ok_code_at (T : Ctx K mg) : Fn P w K mg base "code_at" 3 1 m_code_at := by
  obtain ⟨fd, F⟩ := T.f_code_at
  refine ⟨_, fd, ["number"], fn_ok (k := 2) (N := nm_code_at) F sc_code_at (fun cdv A outer s H E hr => ?_), T.g_code_at, F.kp, F.bindsN fun _ _ _ _ _ _ us hl => match us, hl with | [_], _ => rfl⟩
  exact (ss_cons (ss_set sc_code_at.nd (se_call0 (ok_book T) (hr.mono (by decide)) (takes_of rfl rfl rfl rfl)))
    (ss_cons (ss_if (st_not (st_tru (se_call (ok_is_within T) (hr.mono (by decide)) (takes_of rfl rfl rfl rfl) (sa_cons (sv 0) (sa_cons se_int (sa_cons (xsub (xlen T.b_len (sa_cons (sv 1) sa_nil)) se_int) sa_nil)))))) (ss_one (ss_raise T.e_NoCount rfl (takes_of rfl rfl rfl rfl))) ss_nil)
    (ss_one (ss_ret (se_ix (sv 1) (sv 0))))))
theorem ok_is_code (T : Ctx K mg) : Fn P w K mg base "is_code" 1 1 m_is_code := by
  obtain ⟨fd, F⟩ := T.f_is_code
  refine ⟨_, fd, ["thing"], fn_ok (k := 0) (N := nm_is_code) F sc_is_code (fun cdv A outer s H E hr => ?_), T.g_is_code, F.kp, F.bindsN fun _ _ _ _ _ _ us hl => match us, hl with | [_], _ => rfl⟩
  exact (ss_cons (ss_if (PW.pt (sw_or (st_not (st_tru (se_isi T.b_isinstance T.b_str bt_str (sv 0)))) (sw_or1 (st_not (tc2 c_le c_le se_int (xlen T.b_len (sa_cons (sv 0) sa_nil)) (se_gint T.c_MOST_SIGNS)))))) (ss_one (ss_ret se_bl)) ss_nil)
    (ss_one (ss_ret (se_notV (se_lc (own := [("sign", 1)]) rfl sc_is_code.nd (blkOk_by (N := nm_is_code) (sc := defScope s_is_code) (by decide +kernel)) (si_str (sv 0)) (fun _ _ _ _ _ => (sg_name sc_is_code.nd)) (fun _ _ _ _ _ => (sts_one (tc (c_notIn hr) (sv 1) se_str))) (fun _ _ _ _ _ => (sv 1)))))))
theorem ok_number_of_code (T : Ctx K mg) : Fn P w K mg base "number_of_code" 3 1 m_number_of_code := by
  obtain ⟨fd, F⟩ := T.f_number_of_code
  refine ⟨_, fd, ["code"], fn_ok (k := 2) (N := nm_number_of_code) F sc_number_of_code (fun cdv A outer s H E hr => ?_), T.g_number_of_code, F.kp, F.bindsN fun _ _ _ _ _ _ us hl => match us, hl with | [_], _ => rfl⟩
  exact (ss_cons (ss_if (st_not (st_tru (se_call (ok_is_code T) (hr.mono (by decide)) (takes_of rfl rfl rfl rfl) (sa_cons (sv 0) sa_nil)))) (ss_one (ss_raise T.e_NoCode rfl (takes_of rfl rfl rfl rfl))) ss_nil)
    (ss_one (ss_ret (se_mt PySem.F.plainAttrs_list PySem.F.slot_list_index PySem.F.type_list_index (mt_indexD (hu65 hr)) ms_index (se_call0 (ok_book T) (hr.mono (by decide)) (takes_of rfl rfl rfl rfl)) (sa_cons (sv 0) sa_nil)))))
theorem ok_law_pick (T : Ctx K mg) : Fn P w K mg base "_law_pick" 1 2 m_law_pick := by
  obtain ⟨fd, F⟩ := T.f_law_pick
  refine ⟨_, fd, ["seed", "many"], fn_ok (k := 0) (N := nm_law_pick) F sc_law_pick (fun cdv A outer s H E hr => ?_), T.g_law_pick, F.kp, F.bindsN fun _ _ _ _ _ _ us hl => match us, hl with | [_, _], _ => rfl⟩
  exact (ss_one (ss_ret (xmod (xdiv (sv 0) se_int) (sv 1))))
theorem ok_law_seed (T : Ctx K mg) : Fn P w K mg base "_law_seed" 1 2 m_law_seed := by
  obtain ⟨fd, F⟩ := T.f_law_seed
  refine ⟨_, fd, ["seed", "k"], fn_ok (k := 0) (N := nm_law_seed) F sc_law_seed (fun cdv A outer s H E hr => ?_), T.g_law_seed, F.kp, F.bindsN fun _ _ _ _ _ _ us hl => match us, hl with | [_, _], _ => rfl⟩
  exact (ss_one (ss_ret (xmod (xpow (xmod (xadd (xadd (xmul (sv 0) se_int) (xmul se_int (sv 1))) se_int) se_int) se_int) se_int)))
theorem ok_law_code (T : Ctx K mg) : Fn P w K mg base "_law_code" 2 1 m_law_code := by
  obtain ⟨fd, F⟩ := T.f_law_code
  refine ⟨_, fd, ["seed"], fn_ok (k := 1) (N := nm_law_code) F sc_law_code (fun cdv A outer s H E hr => ?_), T.g_law_code, F.kp, F.bindsN fun _ _ _ _ _ _ us hl => match us, hl with | [_], _ => rfl⟩
  exact (ss_one (ss_ret (se_mt PySem.F.plainAttrs_str PySem.F.slot_str_join PySem.F.type_str_join mt_join ms_join se_str (sa_cons (se_lc (own := [("k", 1)]) rfl sc_law_code.nd (blkOk_by (N := nm_law_code) (sc := defScope s_law_code) (by decide +kernel)) (si_range1 T.b_range (xadd se_int (xmod (xdiv (sv 0) se_int) se_int))) (fun _ _ _ _ _ => (sg_name sc_law_code.nd)) (fun _ _ _ _ _ => sts_nil) (fun _ _ _ _ _ => (se_ix se_str (se_call (ok_law_pick T) (hr.mono (by decide)) takes0 (sa_cons (se_call (ok_law_seed T) (hr.mono (by decide)) takes0 (sa_cons (sv 0) (sa_cons (sv 1) sa_nil))) (sa_cons se_int sa_nil)))))) sa_nil))))
theorem ok_ticks_for (T : Ctx K mg) : Fn P w K mg base "ticks_for" 2 1 m_ticks_for := by
  obtain ⟨fd, F⟩ := T.f_ticks_for
  refine ⟨_, fd, ["code"], fn_ok (k := 1) (N := nm_ticks_for) F sc_ticks_for (fun cdv A outer s H E hr => ?_), T.g_ticks_for, F.kp, F.bindsN fun _ _ _ _ _ _ us hl => match us, hl with | [_], _ => rfl⟩
  exact (ss_cons (ss_if (st_not (st_tru (se_call (ok_is_code T) (hr.mono (by decide)) (takes_of rfl rfl rfl rfl) (sa_cons (sv 0) sa_nil)))) (ss_one (ss_raise T.e_NoCode rfl (takes_of rfl rfl rfl rfl))) ss_nil)
    (ss_one (ss_ret (xlen T.b_len (sa_cons (se_call (ok_beats T) (hr.mono (by decide)) (takes_of rfl rfl rfl rfl) (sa_cons (sv 0) sa_nil)) sa_nil)))))
theorem ok_law_setting (T : Ctx K mg) : Fn P w K mg base "_law_setting" 3 1 m_law_setting := by
  obtain ⟨fd, F⟩ := T.f_law_setting
  refine ⟨_, fd, ["seed"], fn_ok (k := 2) (N := nm_law_setting) F sc_law_setting (fun cdv A outer s H E hr => ?_), T.g_law_setting, F.kp, F.bindsN fun _ _ _ _ _ _ us hl => match us, hl with | [_], _ => rfl⟩
  exact (ss_cons (ss_set sc_law_setting.nd (se_lst sa_nil))
    (ss_cons (ss_for (vs := [2]) (passes_of rfl) rfl (si_range1 T.b_range (xadd se_int (xmod (xdiv (sv 0) se_int) se_int))) (sg_name sc_law_setting.nd) (ss_cons (ss_set sc_law_setting.nd (se_call (ok_law_code T) (hr.mono (by decide)) (takes_of rfl rfl rfl rfl) (sa_cons (se_call (ok_law_seed T) (hr.mono (by decide)) (takes_of rfl rfl rfl rfl) (sa_cons (sv 0) (sa_cons (xadd se_int (sv 2)) sa_nil))) sa_nil)))
    (ss_one (ss_if (tc (c_notIn hr) (sv 3) (sv 1)) (ss_one (ss_expr (se_mt PySem.F.plainAttrs_list PySem.F.slot_list_append PySem.F.type_list_append mt_append ms_append (sv 1) (sa_cons (sv 3) sa_nil)))) ss_nil))))
    (ss_cons (ss_if (tc c_lt (xlen T.b_len (sa_cons (sv 1) sa_nil)) se_int) (ss_one (ss_set sc_law_setting.nd (xadd (sv 1) (se_sl (se_lc (own := [("code", 3)]) rfl sc_law_setting.nd (blkOk_by (N := nm_law_setting) (sc := defScope s_law_setting) (by decide +kernel)) (si_tup (se_tup (sa_cons se_str (sa_cons se_str sa_nil)))) (fun _ _ _ _ _ => (sg_name sc_law_setting.nd)) (fun _ _ _ _ _ => (sts_one (tc (c_notIn hr) (sv 3) (sv 1)))) (fun _ _ _ _ _ => (sv 3))) so_none (so_some se_int))))) ss_nil)
    (ss_one (ss_ret (se_tup (sa_cons (xtuple T.b_tuple (sa_cons (sv 1) sa_nil)) (sa_cons (xc (c_eq hr) (xmod (xdiv (sv 0) se_int) se_int) se_int) (sa_cons (xadd se_int (se_call (ok_law_pick T) (hr.mono (by decide)) (takes_of rfl rfl rfl rfl) (sa_cons (se_call (ok_law_seed T) (hr.mono (by decide)) (takes_of rfl rfl rfl rfl) (sa_cons (sv 0) (sa_cons se_int sa_nil))) (sa_cons (se_ix (se_lst (sa_cons se_int (sa_cons se_int sa_nil))) (xmod (xdiv (sv 0) se_int) se_int)) sa_nil)))) sa_nil)))))))))
theorem ok_law_mix (T : Ctx K mg) : Fn P w K mg base "_law_mix" 1 3 m_law_mix := by
  obtain ⟨fd, F⟩ := T.f_law_mix
  refine ⟨_, fd, ["cell", "prime", "many"], fn_ok (k := 0) (N := nm_law_mix) F sc_law_mix (fun cdv A outer s H E hr => ?_), T.g_law_mix, F.kp, F.bindsN fun _ _ _ _ _ _ us hl => match us, hl with | [_, _, _], _ => rfl⟩
  exact (ss_one (ss_ret (xmod (xmod (xpow (xmod (xmul (sv 0) se_int) (sv 1)) se_int) (sv 1)) (sv 2))))
theorem ok_whole_ticks (T : Ctx K mg) : Fn P w K mg base "whole_ticks" 2 2 m_whole_ticks := by
  obtain ⟨fd, F⟩ := T.f_whole_ticks
  refine ⟨_, fd, ["uses", "codes"], fn_ok (k := 1) (N := nm_whole_ticks) F sc_whole_ticks (fun cdv A outer s H E hr => ?_), T.g_whole_ticks, F.kp, F.bindsN fun _ _ _ _ _ _ us hl => match us, hl with | [_, _], _ => rfl⟩
  exact (ss_cons (ss_if (PW.pt (sw_or (st_not (st_tru (se_isi T.b_isinstance T.b_list bt_list (sv 0)))) (sw_or (st_not (tc2 c_le c_le se_int (xlen T.b_len (sa_cons (sv 0) sa_nil)) se_int)) (sw_or1 (st_tru (se_lc (own := [("one", 2)]) rfl sc_whole_ticks.nd (blkOk_by (N := nm_whole_ticks) (sc := defScope s_whole_ticks) (by decide +kernel)) (si_list (sv 0)) (fun _ _ _ _ _ => (sg_name sc_whole_ticks.nd)) (fun _ _ _ _ _ => (sts_one (st_not (st_tru (se_call (ok_is_within T) (hr.mono (by decide)) takes0 (sa_cons (sv 2) (sa_cons se_int (sa_cons se_int sa_nil)))))))) (fun _ _ _ _ _ => (sv 2)))))))) (ss_one (ss_raise T.e_NoCount rfl (takes_of rfl rfl rfl rfl))) ss_nil)
    (ss_cons (ss_if (PW.pt (sw_or (st_not (st_tru (se_isi T.b_isinstance T.b_tuple bt_tuple (sv 1)))) (sw_or (tc (c_ne hr) (xlen T.b_len (sa_cons (sv 1) sa_nil)) (xlen T.b_len (sa_cons (sv 0) sa_nil))) (sw_or1 (st_tru (se_lc (own := [("code", 3)]) rfl sc_whole_ticks.nd (blkOk_by (N := nm_whole_ticks) (sc := defScope s_whole_ticks) (by decide +kernel)) (si_tup (sv 1)) (fun _ _ _ _ _ => (sg_name sc_whole_ticks.nd)) (fun _ _ _ _ _ => (sts_one (st_not (st_tru (se_call (ok_is_code T) (hr.mono (by decide)) takes0 (sa_cons (sv 3) sa_nil)))))) (fun _ _ _ _ _ => (sv 3)))))))) (ss_one (ss_raise T.e_NoCode rfl (takes_of rfl rfl rfl rfl))) ss_nil)
    (ss_cons (ss_if (tc (c_ne hr) (se_lenSet rfl T.b_len T.b_set (sv 1)) (xlen T.b_len (sa_cons (sv 1) sa_nil))) (ss_one (ss_raise T.e_NoCode rfl (takes_of rfl rfl rfl rfl))) ss_nil)
    (ss_one (ss_ret (xsum rfl T.b_sum (sa_cons (se_lc (own := [("often", 4), ("code", 3)]) rfl sc_whole_ticks.nd (blkOk_by (N := nm_whole_ticks) (sc := defScope s_whole_ticks) (by decide +kernel)) (si_zipM T.b_zip (sv 0) (sv 1)) (fun _ _ _ _ _ => (sg_tup rfl (sgs_cons (sg_name sc_whole_ticks.nd) (sgs_cons (sg_name sc_whole_ticks.nd) sgs_nil)) (gl_cons (gl_cons gl_nil)))) (fun _ _ _ _ _ => sts_nil) (fun _ _ _ _ _ => (xmul (sv 4) (xlen T.b_len (sa_cons (se_call (ok_beats T) (hr.mono (by decide)) takes0 (sa_cons (sv 3) sa_nil)) sa_nil))))) sa_nil)))))))
theorem ok_law_whole (T : Ctx K mg) : Fn P w K mg base "_law_whole" 1 1 m_law_whole := by
  obtain ⟨fd, F⟩ := T.f_law_whole
  refine ⟨_, fd, ["found"], fn_ok (k := 0) (N := nm_law_whole) F sc_law_whole (fun cdv A outer s H E hr => ?_), T.g_law_whole, F.kp, F.bindsN fun _ _ _ _ _ _ us hl => match us, hl with | [_], _ => rfl⟩
  exact (ss_one (ss_ret (se_andV (se_isi T.b_isinstance T.b_int bt_int (sv 0)) (se_one (se_notV (se_isi T.b_isinstance T.b_bool bt_bool (sv 0)))))))
theorem ok_is_setting (T : Ctx K mg) : Fn P w K mg base "is_setting" 2 1 m_is_setting := by
  obtain ⟨fd, F⟩ := T.f_is_setting
  refine ⟨_, fd, ["thing"], fn_ok (k := 1) (N := nm_is_setting) F sc_is_setting (fun cdv A outer s H E hr => ?_), T.g_is_setting, F.kp, F.bindsN fun _ _ _ _ _ _ us hl => match us, hl with | [_], _ => rfl⟩
  exact (ss_cons (ss_if (PW.pt (sw_or (st_not (st_tru (se_isi T.b_isinstance T.b_tuple bt_tuple (sv 0)))) (sw_or (tc (c_ne hr) (xlen T.b_len (sa_cons (sv 0) sa_nil)) se_int) (sw_or1 (st_not (st_tru (se_isi T.b_isinstance T.b_tuple bt_tuple (se_ix (sv 0) se_int)))))))) (ss_one (ss_ret se_bl)) ss_nil)
    (ss_cons (ss_if (PW.pt (sw_or (st_not (tc2 c_le c_le se_int (xlen T.b_len (sa_cons (se_ix (sv 0) se_int) sa_nil)) se_int)) (sw_or1 (st_tru (se_lc (own := [("code", 1)]) rfl sc_is_setting.nd (blkOk_by (N := nm_is_setting) (sc := defScope s_is_setting) (by decide +kernel)) (si_tup (se_ix (sv 0) se_int)) (fun _ _ _ _ _ => (sg_name sc_is_setting.nd)) (fun _ _ _ _ _ => (sts_one (st_not (st_tru (se_call (ok_is_code T) (hr.mono (by decide)) takes0 (sa_cons (sv 1) sa_nil)))))) (fun _ _ _ _ _ => (sv 1))))))) (ss_one (ss_ret se_bl)) ss_nil)
    (ss_cons (ss_if (tc (c_ne hr) (se_lenSet rfl T.b_len T.b_set (se_ix (sv 0) se_int)) (xlen T.b_len (sa_cons (se_ix (sv 0) se_int) sa_nil))) (ss_one (ss_ret se_bl)) ss_nil)
    (ss_one (ss_ret (se_andV (se_isi T.b_isinstance T.b_bool bt_bool (se_ix (sv 0) se_int)) (se_one (se_call (ok_is_within T) (hr.mono (by decide)) (takes_of rfl rfl rfl rfl) (sa_cons (se_ix (sv 0) se_int) (sa_cons se_int (sa_cons se_int sa_nil)))))))))))
theorem ok_look (T : Ctx K mg) : Fn P w K mg base "look" 3 1 m_look := by
  obtain ⟨fd, F⟩ := T.f_look
  refine ⟨_, fd, ["setting"], fn_ok (k := 2) (N := nm_look) F sc_look (fun cdv A outer s H E hr => ?_), T.g_look, F.kp, F.bindsN fun _ _ _ _ _ _ us hl => match us, hl with | [_], _ => rfl⟩
  exact (ss_one (ss_if (st_not (st_tru (se_call (ok_is_setting T) (hr.mono (by decide)) (takes_of rfl rfl rfl rfl) (sa_cons (sv 0) sa_nil)))) (ss_one (ss_raise T.e_NoSetting rfl (takes_of rfl rfl rfl rfl))) ss_nil))
theorem ok_look_house (T : Ctx K mg) : Fn P w K mg base "look_house" 2 2 m_look_house := by
  obtain ⟨fd, F⟩ := T.f_look_house
  refine ⟨_, fd, ["setting", "house"], fn_ok (k := 1) (N := nm_look_house) F sc_look_house (fun cdv A outer s H E hr => ?_), T.g_look_house, F.kp, F.bindsN fun _ _ _ _ _ _ us hl => match us, hl with | [_, _], _ => rfl⟩
  exact (ss_one (ss_if (st_not (st_tru (se_call (ok_is_within T) (hr.mono (by decide)) (takes_of rfl rfl rfl rfl) (sa_cons (sv 1) (sa_cons se_int (sa_cons (xsub (xlen T.b_len (sa_cons (se_ix (sv 0) se_int) sa_nil)) se_int) sa_nil)))))) (ss_one (ss_raise T.e_NoHouse rfl (takes_of rfl rfl rfl rfl))) ss_nil))
theorem ok_ring (T : Ctx K mg) : Fn P w K mg base "ring" 2 2 m_ring := by
  obtain ⟨fd, F⟩ := T.f_ring
  refine ⟨_, fd, ["code", "ticks"], fn_ok (k := 1) (N := nm_ring) F sc_ring (fun cdv A outer s H E hr => ?_), T.g_ring, F.kp, F.bindsN fun _ _ _ _ _ _ us hl => match us, hl with | [_, _], _ => rfl⟩
  exact (ss_cons (ss_if (st_not (st_tru (se_call (ok_is_code T) (hr.mono (by decide)) (takes_of rfl rfl rfl rfl) (sa_cons (sv 0) sa_nil)))) (ss_one (ss_raise T.e_NoCode rfl (takes_of rfl rfl rfl rfl))) ss_nil)
    (ss_cons (ss_if (st_not (st_tru (se_call (ok_is_within T) (hr.mono (by decide)) (takes_of rfl rfl rfl rfl) (sa_cons (sv 1) (sa_cons se_int (sa_cons se_int sa_nil)))))) (ss_one (ss_raise T.e_NoCount rfl (takes_of rfl rfl rfl rfl))) ss_nil)
    (ss_cons (ss_set sc_ring.nd (se_call (ok_beats T) (hr.mono (by decide)) (takes_of rfl rfl rfl rfl) (sa_cons (sv 0) sa_nil)))
    (ss_one (ss_ret (se_lc (own := [("tick", 3)]) rfl sc_ring.nd (blkOk_by (N := nm_ring) (sc := defScope s_ring) (by decide +kernel)) (si_range1 T.b_range (sv 1)) (fun _ _ _ _ _ => (sg_name sc_ring.nd)) (fun _ _ _ _ _ => sts_nil) (fun _ _ _ _ _ => (se_ix (sv 2) (xmod (sv 3) (xlen T.b_len (sa_cons (sv 2) sa_nil)))))))))))
theorem ok_apart_behind (T : Ctx K mg) : Fn P w K mg base "apart_behind" 4 3 m_apart_behind := by
  obtain ⟨fd, F⟩ := T.f_apart_behind
  refine ⟨_, fd, ["setting", "one", "other"], fn_ok (k := 3) (N := nm_apart_behind) F sc_apart_behind (fun cdv A outer s H E hr => ?_), T.g_apart_behind, F.kp, F.bindsN fun _ _ _ _ _ _ us hl => match us, hl with | [_, _, _], _ => rfl⟩
  exact (ss_cons (ss_expr (se_call (ok_look T) (hr.mono (by decide)) (takes_of rfl rfl rfl rfl) (sa_cons (sv 0) sa_nil)))
    (ss_cons (ss_expr (se_call (ok_look_house T) (hr.mono (by decide)) (takes_of rfl rfl rfl rfl) (sa_cons (sv 0) (sa_cons (sv 1) sa_nil))))
    (ss_cons (ss_expr (se_call (ok_look_house T) (hr.mono (by decide)) (takes_of rfl rfl rfl rfl) (sa_cons (sv 0) (sa_cons (sv 2) sa_nil))))
    (ss_cons (ss_if (tc (c_eq hr) (sv 1) (sv 2)) (ss_one (ss_raise T.e_NoHouse rfl (takes_of rfl rfl rfl rfl))) ss_nil)
    (ss_cons (ss_set sc_apart_behind.nd (se_call (ok_ring T) (hr.mono (by decide)) (takes_of rfl rfl rfl rfl) (sa_cons (se_ix (se_ix (sv 0) se_int) (sv 1)) (sa_cons (se_gint T.c_MOST_TICKS) sa_nil))))
    (ss_cons (ss_set sc_apart_behind.nd (se_call (ok_ring T) (hr.mono (by decide)) (takes_of rfl rfl rfl rfl) (sa_cons (se_ix (se_ix (sv 0) se_int) (sv 2)) (sa_cons (se_gint T.c_MOST_TICKS) sa_nil))))
    (ss_cons (ss_set sc_apart_behind.nd se_int)
    (ss_cons (ss_while 1000 (passes_of rfl) (tc (c_eq hr) (se_sl (sv 3) so_none (so_some (sv 5))) (se_sl (sv 4) so_none (so_some (sv 5)))) (ss_one (ss_augAdd sc_apart_behind.nd se_int)))
    (ss_one (ss_ret (sv 5)))))))))))
theorem ok_mistaken (T : Ctx K mg) : Fn P w K mg base "mistaken" 4 2 m_mistaken := by
  obtain ⟨fd, F⟩ := T.f_mistaken
  refine ⟨_, fd, ["setting", "ticks"], fn_ok (k := 3) (N := nm_mistaken) F sc_mistaken (fun cdv A outer s H E hr => ?_), T.g_mistaken, F.kp, F.bindsN fun _ _ _ _ _ _ us hl => match us, hl with | [_, _], _ => rfl⟩
  exact (ss_cons (ss_expr (se_call (ok_look T) (hr.mono (by decide)) (takes_of rfl rfl rfl rfl) (sa_cons (sv 0) sa_nil)))
    (ss_cons (ss_if (st_not (st_tru (se_call (ok_is_within T) (hr.mono (by decide)) (takes_of rfl rfl rfl rfl) (sa_cons (sv 1) (sa_cons se_int (sa_cons (se_gint T.c_MOST_TICKS) sa_nil)))))) (ss_one (ss_raise T.e_NoCount rfl (takes_of rfl rfl rfl rfl))) ss_nil)
    (ss_cons (ss_set sc_mistaken.nd (se_lc (own := [("code", 5)]) rfl sc_mistaken.nd (blkOk_by (N := nm_mistaken) (sc := defScope s_mistaken) (by decide +kernel)) (si_tup (se_ix (sv 0) se_int)) (fun _ _ _ _ _ => (sg_name sc_mistaken.nd)) (fun _ _ _ _ _ => sts_nil) (fun _ _ _ _ _ => (se_call (ok_ring T) (hr.mono (by decide)) takes0 (sa_cons (sv 5) (sa_cons (sv 1) sa_nil))))))
    (ss_cons (ss_set sc_mistaken.nd (se_lst sa_nil))
    (ss_cons (ss_for (vs := [4]) (passes_of rfl) rfl (si_range1 T.b_range (xlen T.b_len (sa_cons (sv 2) sa_nil))) (sg_name sc_mistaken.nd) (ss_one (ss_expr (se_mt PySem.F.plainAttrs_list PySem.F.slot_list_extend PySem.F.type_list_extend mt_extend ms_extend (sv 3) (sa_cons (se_lc (own := [("one", 6)]) rfl sc_mistaken.nd (blkOk_by (N := nm_mistaken) (sc := defScope s_mistaken) (by decide +kernel)) (si_range1 T.b_range (sv 4)) (fun _ _ _ _ _ => (sg_name sc_mistaken.nd)) (fun _ _ _ _ _ => (sts_one (tc (c_eq hr) (se_ix (sv 2) (sv 6)) (se_ix (sv 2) (sv 4))))) (fun _ _ _ _ _ => (se_tup (sa_cons (sv 6) (sa_cons (sv 4) sa_nil))))) sa_nil)))))
    (ss_one (ss_ret (xsortA hr T.b_sorted (sa_cons (sv 3) sa_nil)))))))))
theorem ok_meant (T : Ctx K mg) : Fn P w K mg base "meant" 4 2 m_meant := by
  obtain ⟨fd, F⟩ := T.f_meant
  refine ⟨_, fd, ["setting", "row"], fn_ok (k := 3) (N := nm_meant) F sc_meant (fun cdv A outer s H E hr => ?_), T.g_meant, F.kp, F.bindsN fun _ _ _ _ _ _ us hl => match us, hl with | [_, _], _ => rfl⟩
  exact (ss_cons (ss_expr (se_call (ok_look T) (hr.mono (by decide)) (takes_of rfl rfl rfl rfl) (sa_cons (sv 0) sa_nil)))
    (ss_cons (ss_if (PW.pt (sw_or (st_not (st_tru (se_isi T.b_isinstance T.b_list bt_list (sv 1)))) (sw_or (tc c_gt (xlen T.b_len (sa_cons (sv 1) sa_nil)) se_int) (sw_or1 (st_tru (se_lc (own := [("one", 2)]) rfl sc_meant.nd (blkOk_by (N := nm_meant) (sc := defScope s_meant) (by decide +kernel)) (si_list (sv 1)) (fun _ _ _ _ _ => (sg_name sc_meant.nd)) (fun _ _ _ _ _ => (sts_one (st_not (st_tru (se_isi T.b_isinstance T.b_bool bt_bool (sv 2)))))) (fun _ _ _ _ _ => (sv 2)))))))) (ss_one (ss_raise T.e_NoCode rfl (takes_of rfl rfl rfl rfl))) ss_nil)
    (ss_one (ss_ret (se_lc (own := [("house", 3), ("code", 4)]) rfl sc_meant.nd (blkOk_by (N := nm_meant) (sc := defScope s_meant) (by decide +kernel)) (si_enumT T.b_enumerate (se_ix (sv 0) se_int)) (fun _ _ _ _ _ => (sg_tup rfl (sgs_cons (sg_name sc_meant.nd) (sgs_cons (sg_name sc_meant.nd) sgs_nil)) (gl_cons (gl_cons gl_nil)))) (fun _ _ _ _ _ => (sts_one (tc (c_eq hr) (se_call (ok_ring T) (hr.mono (by decide)) takes0 (sa_cons (sv 4) (sa_cons (xlen T.b_len (sa_cons (sv 1) sa_nil)) sa_nil))) (sv 1)))) (fun _ _ _ _ _ => (sv 3)))))))
theorem ok_sure_behind (T : Ctx K mg) : Fn P w K mg base "sure_behind" 5 2 m_sure_behind := by
  obtain ⟨fd, F⟩ := T.f_sure_behind
  refine ⟨_, fd, ["setting", "house"], fn_ok (k := 4) (N := nm_sure_behind) F sc_sure_behind (fun cdv A outer s H E hr => ?_), T.g_sure_behind, F.kp, F.bindsN fun _ _ _ _ _ _ us hl => match us, hl with | [_, _], _ => rfl⟩
  exact (ss_cons (ss_expr (se_call (ok_look T) (hr.mono (by decide)) (takes_of rfl rfl rfl rfl) (sa_cons (sv 0) sa_nil)))
    (ss_cons (ss_expr (se_call (ok_look_house T) (hr.mono (by decide)) (takes_of rfl rfl rfl rfl) (sa_cons (sv 0) (sa_cons (sv 1) sa_nil))))
    (ss_cons (ss_set sc_sure_behind.nd (se_call (ok_ring T) (hr.mono (by decide)) (takes_of rfl rfl rfl rfl) (sa_cons (se_ix (se_ix (sv 0) se_int) (sv 1)) (sa_cons se_int sa_nil))))
    (ss_cons (ss_set sc_sure_behind.nd se_int)
    (ss_cons (ss_while 1000 (passes_of rfl) (tc (c_ne hr) (se_call (ok_meant T) (hr.mono (by decide)) (takes_of rfl rfl rfl rfl) (sa_cons (sv 0) (sa_cons (se_sl (sv 2) so_none (so_some (sv 3))) sa_nil))) (se_lst (sa_cons (sv 1) sa_nil))) (ss_one (ss_augAdd sc_sure_behind.nd se_int)))
    (ss_one (ss_ret (sv 3))))))))
theorem ok_all_sure_behind (T : Ctx K mg) : Fn P w K mg base "all_sure_behind" 6 1 m_all_sure_behind := by
  obtain ⟨fd, F⟩ := T.f_all_sure_behind
  refine ⟨_, fd, ["setting"], fn_ok (k := 5) (N := nm_all_sure_behind) F sc_all_sure_behind (fun cdv A outer s H E hr => ?_), T.g_all_sure_behind, F.kp, F.bindsN fun _ _ _ _ _ _ us hl => match us, hl with | [_], _ => rfl⟩
  exact (ss_cons (ss_expr (se_call (ok_look T) (hr.mono (by decide)) (takes_of rfl rfl rfl rfl) (sa_cons (sv 0) sa_nil)))
    (ss_one (ss_ret (xmax rfl T.b_max (sa_cons (se_lc (own := [("house", 1)]) rfl sc_all_sure_behind.nd (blkOk_by (N := nm_all_sure_behind) (sc := defScope s_all_sure_behind) (by decide +kernel)) (si_range1 T.b_range (xlen T.b_len (sa_cons (se_ix (sv 0) se_int) sa_nil))) (fun _ _ _ _ _ => (sg_name sc_all_sure_behind.nd)) (fun _ _ _ _ _ => sts_nil) (fun _ _ _ _ _ => (se_call (ok_sure_behind T) (hr.mono (by decide)) takes0 (sa_cons (sv 0) (sa_cons (sv 1) sa_nil))))) sa_nil)))))
theorem ok_law_called (T : Ctx K mg) : Fn P w K mg base "_law_called" 7 2 m_law_called := by
  obtain ⟨fd, F⟩ := T.f_law_called
  refine ⟨_, fd, ["which", "a"], fn_ok (k := 6) (N := nm_law_called) F sc_law_called (fun cdv A outer s H E hr => ?_), T.g_law_called, F.kp, F.bindsN fun _ _ _ _ _ _ us hl => match us, hl with | [_, _], _ => rfl⟩
  exact (ss_cons (ss_if (tc c_lt (sv 0) se_int) (ss_cons (ss_if (tc (c_eq hr) (sv 0) se_int) (ss_one (ss_ret (se_call (ok_apart_behind T) (hr.mono (by decide)) (takes_of rfl rfl rfl rfl) (sa_cons (se_ix (sv 1) se_int) (sa_cons (se_ix (sv 1) se_int) (sa_cons (se_ix (sv 1) se_int) sa_nil)))))) ss_nil)
    (ss_one (ss_ret (se_if (tc (c_eq hr) (sv 0) se_int) (se_call (ok_mistaken T) (hr.mono (by decide)) (takes_of rfl rfl rfl rfl) (sa_cons (se_ix (sv 1) se_int) (sa_cons (se_ix (sv 1) se_int) sa_nil))) (se_call (ok_all_sure_behind T) (hr.mono (by decide)) (takes_of rfl rfl rfl rfl) (sa_cons (se_ix (sv 1) se_int) sa_nil)))))) ss_nil)
    (ss_cons (ss_if (tc c_lt (sv 0) se_int) (ss_one (ss_ret (se_if (tc (c_eq hr) (sv 0) se_int) (se_call (ok_ticks_for T) (hr.mono (by decide)) (takes_of rfl rfl rfl rfl) (sa_cons (se_ix (sv 1) se_int) sa_nil)) (se_if (tc (c_eq hr) (sv 0) se_int) (se_call (ok_code_at T) (hr.mono (by decide)) (takes_of rfl rfl rfl rfl) (sa_cons (se_ix (sv 1) se_int) sa_nil)) (se_call (ok_number_of_code T) (hr.mono (by decide)) (takes_of rfl rfl rfl rfl) (sa_cons (se_ix (sv 1) se_int) sa_nil)))))) ss_nil)
    (ss_one (ss_ret (se_call (ok_whole_ticks T) (hr.mono (by decide)) (takes_of rfl rfl rfl rfl) (sa_cons (se_ix (sv 1) se_int) (sa_cons (se_ix (sv 1) se_int) sa_nil)))))))
theorem ok_law_caught (T : Ctx K mg) : Fn P w K mg base "_law_caught" 8 2 m_law_caught := by
  obtain ⟨fd, F⟩ := T.f_law_caught
  refine ⟨_, fd, ["which", "a"], fn_ok (k := 7) (N := nm_law_caught) F sc_law_caught (fun cdv A outer s H E hr => ?_), T.g_law_caught, F.kp, F.bindsN fun _ _ _ _ _ _ us hl => match us, hl with | [_, _], _ => rfl⟩
  exact (ss_cons (ss_set sc_law_caught.nd se_str)
    (ss_cons (ss_try T.tab (takes_of rfl rfl rfl rfl) rfl rfl (fun _ _ _ tkt hpt => (ss_one (ss_if (tc c_lt (sv 0) se_int) (ss_one (ss_expr (se_call (ok_law_called T) (hr.mono (by decide)) tkt (sa_cons (sv 0) (sa_cons (sv 1) sa_nil))))) ss_bads))) (sh_cons T.x_NoSetting (fun _ _ _ => (ss_one (ss_set sc_law_caught.nd se_str))) (sh_cons T.x_NoCode (fun _ _ _ => (ss_one (ss_set sc_law_caught.nd se_str))) (sh_cons T.x_NoHouse (fun _ _ _ => (ss_one (ss_set sc_law_caught.nd se_str))) (sh_cons T.x_NoCount (fun _ _ _ => (ss_one (ss_set sc_law_caught.nd se_str))) (sh_cons T.x_NoDeeds (fun _ _ _ => (ss_one (ss_set sc_law_caught.nd se_str))) (sh_cons T.x_NoText (fun _ _ _ => (ss_one (ss_set sc_law_caught.nd se_str))) sh_nil)))))))
    (ss_one (ss_ret (sv 2)))))
theorem okf_law (T : Ctx K mg) {fd : FuncData} (F : FunD K "law" "law" (defArgs s_law) (defBody s_law) (defScope s_law) [] [] (He.ga K "law") fd) : FnOk P w K mg base (L2.CX P w) 9 (He.ga K "law") fd ["script"] (spF K m_law 1) := by
  refine fn_ok (k := 8) (N := nm_law) F sc_law (fun cdv A outer s H E hr => ?_)
  exact (ss_cons (ss_set sc_law.nd (se_call0 (ok_law_all_codes T) (hr.mono (by decide)) (takes_of rfl rfl rfl rfl)))
    (ss_cons (ss_set sc_law.nd (xmod (se_call (ok_law_cell T) (hr.mono (by decide)) (takes_of rfl rfl rfl rfl) (sa_cons (sv 0) (sa_cons se_int sa_nil))) se_int))
    (ss_cons (ss_if (PW.pt (sw_or (tc (c_ne hr) (xlen T.b_len (sa_cons (sv 1) sa_nil)) se_int) (sw_or (tc (c_ne hr) (se_call (ok_code_at T) (hr.mono (by decide)) (takes_of rfl rfl rfl rfl) (sa_cons (sv 2) sa_nil)) (se_ix (sv 1) (sv 2))) (sw_or1 (tc (c_ne hr) (se_call (ok_number_of_code T) (hr.mono (by decide)) (takes_of rfl rfl rfl rfl) (sa_cons (se_ix (sv 1) (sv 2)) sa_nil)) (sv 2)))))) (ss_one (ss_ret se_bl)) ss_nil)
    (ss_cons (ss_set sc_law.nd (se_call (ok_law_code T) (hr.mono (by decide)) (takes_of rfl rfl rfl rfl) (sa_cons (se_call (ok_law_seed T) (hr.mono (by decide)) (takes_of rfl rfl rfl rfl) (sa_cons (se_call (ok_law_cell T) (hr.mono (by decide)) (takes_of rfl rfl rfl rfl) (sa_cons (sv 0) (sa_cons se_int sa_nil))) (sa_cons se_int sa_nil))) sa_nil)))
    (ss_cons (ss_if (PW.pt (sw_or (tc (c_ne hr) (se_call (ok_ticks_for T) (hr.mono (by decide)) (takes_of rfl rfl rfl rfl) (sa_cons (sv 3) sa_nil)) (xlen T.b_len (sa_cons (se_call (ok_law_beats T) (hr.mono (by decide)) (takes_of rfl rfl rfl rfl) (sa_cons (sv 3) sa_nil)) sa_nil))) (sw_or1 (tc (c_ne hr) (se_call (ok_number_of_code T) (hr.mono (by decide)) (takes_of rfl rfl rfl rfl) (sa_cons (sv 3) sa_nil)) (se_mt PySem.F.plainAttrs_list PySem.F.slot_list_index PySem.F.type_list_index (mt_indexD (hu65 hr)) ms_index (sv 1) (sa_cons (sv 3) sa_nil)))))) (ss_one (ss_ret se_bl)) ss_nil)
    (ss_cons (ss_set sc_law.nd (se_call (ok_law_setting T) (hr.mono (by decide)) (takes_of rfl rfl rfl rfl) (sa_cons (se_call (ok_law_seed T) (hr.mono (by decide)) (takes_of rfl rfl rfl rfl) (sa_cons (se_call (ok_law_cell T) (hr.mono (by decide)) (takes_of rfl rfl rfl rfl) (sa_cons (sv 0) (sa_cons se_int sa_nil))) (sa_cons se_int sa_nil))) sa_nil)))
    (ss_cons (ss_setLc (own := [("k", 8)]) rfl sc_law.nd (blkOk_by (N := nm_law) (sc := defScope s_law) (by decide +kernel)) (sw_true rfl rfl rfl (by decide +kernel)) (si_range1 T.b_range (xlen T.b_len (sa_cons (se_ix (sv 4) se_int) sa_nil))) (fun _ _ _ _ _ => (sg_name sc_law.nd)) (fun _ _ _ _ _ => sts_nil) (fun _ _ _ _ _ => (se_call (ok_law_mix T) (hr.mono (by decide)) takes0 (sa_cons (xadd (se_call (ok_law_cell T) (hr.mono (by decide)) takes0 (sa_cons (sv 0) (sa_cons se_int sa_nil))) (xmul se_int (sv 8))) (sa_cons se_int (sa_cons (se_ix (se_lst (sa_cons se_int (sa_cons se_int sa_nil))) (xmod (sv 8) se_int)) sa_nil))))))
    (ss_cons (ss_set sc_law.nd (xsum rfl T.b_sum (sa_cons (se_lc (own := [("often", 9), ("one", 10)]) rfl sc_law.nd (blkOk_by (N := nm_law) (sc := defScope s_law) (by decide +kernel)) (si_zipM T.b_zip (sv 5) (se_ix (sv 4) se_int)) (fun _ _ _ _ _ => (sg_tup rfl (sgs_cons (sg_name sc_law.nd) (sgs_cons (sg_name sc_law.nd) sgs_nil)) (gl_cons (gl_cons gl_nil)))) (fun _ _ _ _ _ => sts_nil) (fun _ _ _ _ _ => (xmul (sv 9) (xlen T.b_len (sa_cons (se_call (ok_law_beats T) (hr.mono (by decide)) takes0 (sa_cons (sv 10) sa_nil)) sa_nil))))) sa_nil)))
    (ss_cons (ss_if (PW.pt (sw_or (tc (c_ne hr) (se_call (ok_whole_ticks T) (hr.mono (by decide)) (takes_of rfl rfl rfl rfl) (sa_cons (xlist T.b_list (sa_cons (sv 5) sa_nil)) (sa_cons (se_ix (sv 4) se_int) sa_nil))) (sv 6)) (sw_or1 (st_not (st_tru (se_call (ok_law_whole T) (hr.mono (by decide)) (takes_of rfl rfl rfl rfl) (sa_cons (se_call (ok_whole_ticks T) (hr.mono (by decide)) (takes_of rfl rfl rfl rfl) (sa_cons (xlist T.b_list (sa_cons (sv 5) sa_nil)) (sa_cons (se_ix (sv 4) se_int) sa_nil))) sa_nil))))))) (ss_one (ss_ret se_bl)) ss_nil)
    (ss_cons (ss_set sc_law.nd (se_lst (sa_cons se_non (sa_cons (se_sl (se_ix (sv 4) se_int) (so_some se_int) so_none) (sa_cons (xmul (se_sl (se_ix (sv 4) se_int) so_none (so_some se_int)) (xlen T.b_len (sa_cons (sv 5) sa_nil))) (sa_cons (xlist T.b_list (sa_cons (se_ix (sv 4) se_int) sa_nil)) (sa_cons (xadd (se_sl (se_ix (sv 4) se_int) (so_some se_int) so_none) (se_tup (sa_cons se_str sa_nil))) sa_nil)))))))
    (ss_cons (ss_if (tc (c_ne hr) (se_call (ok_law_caught T) (hr.mono (by decide)) (takes_of rfl rfl rfl rfl) (sa_cons se_int (sa_cons (se_lst (sa_cons (xlist T.b_list (sa_cons (sv 5) sa_nil)) (sa_cons (se_ix (sv 7) (xmod (se_call (ok_law_cell T) (hr.mono (by decide)) (takes_of rfl rfl rfl rfl) (sa_cons (sv 0) (sa_cons se_int sa_nil))) se_int)) sa_nil))) sa_nil))) se_str) (ss_one (ss_ret se_bl)) ss_nil)
    (ss_cons (ss_set sc_law.nd (se_ix (se_lst (sa_cons se_int (sa_cons (xneg se_int) (sa_cons se_non (sa_cons se_bl (sa_cons se_str sa_nil)))))) (xmod (se_call (ok_law_cell T) (hr.mono (by decide)) (takes_of rfl rfl rfl rfl) (sa_cons (sv 0) (sa_cons se_int sa_nil))) se_int)))
    (ss_one (ss_ret (se_andV (xc (c_eq hr) (se_call (ok_law_caught T) (hr.mono (by decide)) (takes_of rfl rfl rfl rfl) (sa_cons se_int (sa_cons (se_lst (sa_cons (sv 7) sa_nil)) sa_nil))) se_str) (se_one (xc (c_eq hr) (se_call (ok_law_caught T) (hr.mono (by decide)) (takes_of rfl rfl rfl rfl) (sa_cons se_int (sa_cons (se_lst (sa_cons se_str sa_nil)) sa_nil))) se_str)))))))))))))))))
end
end G9

set_option Elab.async false
set_option linter.all false
set_option maxRecDepth 100000
set_option maxHeartbeats 0
namespace G9
open PySem PySem.Spec PyProof.Rows L2
abbrev R : PySem.W.OpenRow := PySem.W.OpenLaw.row PySem.Challenge.rw_ringhouses_k15_codebook
abbrev hk : PySem.W.Hook := He.hookD 4 fas fns
def ob (s : PySem.W.SharedT) : He.AlD := He.obsDG 4 fas fns (HandSHeadRun.getT s)
theorem ob_eq (s : PySem.W.SharedT) : ob s = hk.obs s.abs := He.obsDG_eq (HandSHeadRun.getT_eq s)
def loose : List Str := (["_wall", "LineError", "NoSetting", "NoCode", "NoHouse", "IsOff", "IsOn", "NoTone", "NoTalk", "NoCall", "NoCount", "NoDeeds", "NoText", "Nothing", "REST", "LONG"] : List Str) ++ (["MOST_SIGNS", "is_within", "is_code", "is_setting", "look", "look_house", "beats", "ring", "meant", "sure_behind", "all_codes", "ticks_for", "book", "code_at", "number_of_code", "whole_ticks"] : List Str) ++ (["MOST_TICKS", "apart_behind", "mistaken", "all_sure_behind", "MOST_WAITING", "Line", "WORDS", "MOST_DEEDS", "is_deed", "are_deeds", "look_deeds", "told_by", "spoken", "standing", "try_deed", "talk_rows"] : List Str) ++ (["longest_talk", "bill", "Log", "number_of", "text_of", "setting_text", "read_setting", "_law_cell", "_law_mix", "_law_whole", "_law_seed", "_law_pick", "_law_code", "_law_setting", "_law_beats", "_law_all_codes"] : List Str) ++ (["_law_called", "_law_called_then", "_law_caught"] : List Str)
theorem run_false (w : World) : HandSHeadRun.RunEq R (PySem.W.view R.prog [78]) hk ob 20000 loose (w.withFollow "special-get-raises" false) := by
  intro os
  kernel_rfl
theorem run_true (w : World) : HandSHeadRun.RunEq R (PySem.W.view R.prog [78]) hk ob 20000 loose (w.withFollow "special-get-raises" true) := by
  intro os
  kernel_rfl
theorem run (w : World) : HandSHeadRun.RunEq R (PySem.W.view R.prog [78]) hk ob 20000 loose w :=
  PySem.W.byRow2 "special-get-raises" (P := fun w => HandSHeadRun.RunEq R (PySem.W.view R.prog [78]) hk ob 20000 loose w) run_false run_true w
end G9

set_option Elab.async false
set_option linter.all false
set_option maxRecDepth 100000
set_option maxHeartbeats 0
open PySem PySem.W PySem.Calls PyProof.Rows in
set_option maxRecDepth 100000 in
set_option maxHeartbeats 0 in
theorem PySem.Challenge.cw_ringhouses_k15_codebook_holds : PySem.Challenge.rw_ringhouses_k15_codebook.Holds := by
  w_on; o_law
  refine HandSHeadRun.head_any (r := OpenLaw.row PySem.Challenge.rw_ringhouses_k15_codebook) (q := view (OpenLaw.row PySem.Challenge.rw_ringhouses_k15_codebook).prog [78]) (H := G9.hk) (ob := G9.ob) (M := 20000) (loose := G9.loose) (d := HandSHeadRun.topDef (OpenLaw.row PySem.Challenge.rw_ringhouses_k15_codebook).prog 78) (kwd := []) G9.ob_eq
    (by kernel_rfl) (fun s => by kernel_rfl) G9.run (by kernel_rfl) (by kernel_rfl) (by kernel_rfl) (by rfl) (by first | assumption | decide +kernel) (by decide +kernel) ⟨rfl, rfl, rfl, rfl, rfl, by decide +kernel⟩ ?hw ?hc
  case hw => w_witness2
  case hc =>
    refine L2.walk_ofE (l := PySem.Challenge.rw_ringhouses_k15_codebook) (n := 63) (k := 9) (x := "script") (CX := L2.CX0) rfl (by decide) (by kernel_rfl) ⟨rfl, by decide, by decide⟩ ?F (fun _ _ _ _ z => z)
    intro w mg fa h Y G hmg0
    obtain ⟨K, KX, c⟩ := Y
    have hmg : mg ("law" : PySem.Str) = some (.ref fa) := by
      have e : (HandSHeadRun.topDef (OpenLaw.row PySem.Challenge.rw_ringhouses_k15_codebook).prog 78).name = ("law" : PySem.Str) := by kernel_rfl
      rw [← e]
      exact hmg0
    have T := G9.ctx_of KX G c
    obtain ⟨fd, F⟩ := T.f_law
    have e := hmg.symm.trans T.g_law
    cases e
    have b := L2.FunD.bindsA (ps := ["script"]) F fun _ _ _ _ _ _ us hl => match us, hl with | [_], _ => rfl
    exact ⟨K, fd, G9.spLaw K G9.m_law, KX, fun s v => b s [v] rfl, fun H a ns hl hO hS => G9.law_sp hO hS (G9.plain ns hl), fun base _ _ => G9.law_ok (G9.okf_law T F)⟩

