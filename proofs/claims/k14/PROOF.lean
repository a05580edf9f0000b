import PyProof.Rows.All
import Wide.All
import OpenK.AllK
import Wide.FinOn
import HandS.ForMost
import HandS.ForExc
import HandS.Walk
import HandS.TryMany
import HandS.CallSlots
import HandS.IsInst
import HandS.Flow
import HandS.Strs
import HandS.HeadHook2
import HandS.TupAny
import HandS.TupMul
import HandS.Deep
import HandS.Steps
import HandS.Zip
import KE.GoesEnum
import HandS.SortRule
import HandS.SortInts
import KE.KSortedM
import KE.KStateDown
import HandS.WordsExc
import HandS.Defaults
import HandS.Head0
import HandS.Head1
import HandS.Head2
import HandS.HeadEnd
import HandS.HeadHook1
import HandS.Text
import PySem.Challenge.RW_ringhouses_k14_whole_apart
set_option Elab.async false
set_option linter.all false
set_option maxRecDepth 100000
set_option maxHeartbeats 2000000
namespace G9
open PySem PySem.Spec PyProof.Rows L2

inductive D where
  | non
  | bl (b : Bool)
  | int (i : Int)
  | str (s : Str)
  | tup (xs : List D)
  | ref (n : Nat)
  | scr (ns : List Int)

mutual
def beqD : D → D → Bool
  | .non, .non => true
  | .bl a, .bl b => a == b
  | .int a, .int b => decide (a = b)
  | .str a, .str b => decide (a = b)
  | .tup a, .tup b => beqDs a b
  | .ref a, .ref b => decide (a = b)
  | .scr a, .scr b => decide (a = b)
  | _, _ => false
def beqDs : List D → List D → Bool
  | [], [] => true
  | a :: as, b :: bs => beqD a b && beqDs as bs
  | _, _ => false
end
mutual
theorem beqD_ok : ∀ a b : D, beqD a b = true → a = b
  | .non, b, h => by cases b <;> simp_all [beqD]
  | .bl x, b, h => by cases b <;> simp_all [beqD]
  | .int x, b, h => by cases b <;> simp_all [beqD]
  | .str x, b, h => by cases b <;> simp_all [beqD]
  | .tup x, b, h => by
    cases b with
    | tup y => exact congrArg D.tup (beqDs_ok x y (by simpa [beqD] using h))
    | _ => simp [beqD] at h
  | .ref x, b, h => by cases b <;> simp_all [beqD]
  | .scr x, b, h => by cases b <;> simp_all [beqD]
theorem beqDs_ok : ∀ a b : List D, beqDs a b = true → a = b
  | [], b, h => by cases b <;> simp_all [beqDs]
  | x :: xs, b, h => by
    cases b with
    | nil => simp [beqDs] at h
    | cons y ys =>
      have h2 : (beqD x y && beqDs xs ys) = true := by simpa [beqDs] using h
      obtain ⟨h3, h4⟩ := Bool.and_eq_true_iff.mp h2
      rw [beqD_ok x y h3, beqDs_ok xs ys h4]
end
mutual
theorem beqD_refl : ∀ a : D, beqD a a = true
  | .non => rfl
  | .bl x => by simp [beqD]
  | .int x => by simp [beqD]
  | .str x => by simp [beqD]
  | .tup x => by
    have h := beqDs_refl x
    simpa [beqD] using h
  | .ref x => by simp [beqD]
  | .scr x => by simp [beqD]
theorem beqDs_refl : ∀ a : List D, beqDs a a = true
  | [] => rfl
  | x :: xs => by
    have h1 := beqD_refl x
    have h2 := beqDs_refl xs
    simp [beqDs, h1, h2]
end
instance : DecidableEq D := fun a b => decidable_of_iff (beqD a b = true) ⟨beqD_ok a b, fun h => h ▸ beqD_refl a⟩

inductive Cell where
  | lst (xs : List D)
  | dk (kvs : List (Key × D))
  | dt (kvs : List (List Key × D))
  | ins (c : Str) (fs : List (Str × D))
  deriving DecidableEq

abbrev HC := List Cell
abbrev SD := List (Option D)

inductive Res (α : Type) where
  | ok (a : α) (h : HC)
  | exc (c : Str) (h : HC)
  | bad
def Res.bind {α β : Type} (r : Res α) (f : α → HC → Res β) : Res β := match r with
  | .ok a h => f a h
  | .exc c h => .exc c h
  | .bad => .bad

/-- the cells' addresses; the script: where it stands, its ints -/
structure Mp where
  ad : List Addr
  scr : Addr
  ns : List Int
def Mp.snoc (m : Mp) (p : Addr) : Mp := { m with ad := m.ad ++ [p] }
theorem Mp.last {m : Mp} {p : Addr} : (m.snoc p).ad[m.ad.length]? = some p := by simp [Mp.snoc]
mutual
def RelD (m : Mp) (H : Hp) : D → V → Prop
  | .non, v => v = .non
  | .bl b, v => v = .bl b
  | .int i, v => v = .int i
  | .str s, v => v = .str s
  | .tup ds, v => ∃ p vs, v = .ref p ∧ H p = some (.tup vs) ∧ RelDs m H ds vs
  | .ref n, v => ∃ a, m.ad[n]? = some a ∧ v = .ref a
  | .scr ns, v => v = .ref m.scr ∧ m.ns = ns
def RelDs (m : Mp) (H : Hp) : List D → List V → Prop
  | [], vs => vs = []
  | d :: ds, vs => ∃ v vs', vs = v :: vs' ∧ RelD m H d v ∧ RelDs m H ds vs'
end

/-- the cells by their addresses; nothing else of the tracked heap changes -/
structure Ext (m m' : Mp) (H H' : Hp) : Prop where
  le : ∀ (n : Nat) (a : Addr), m.ad[n]? = some a → m'.ad[n]? = some a
  sc : m'.scr = m.scr ∧ m'.ns = m.ns
  fr : ∀ (p : Addr) (o : HO), p ∉ m.ad → H p = some o → p ∉ m'.ad ∧ H' p = some o
theorem Ext.refl {m : Mp} {H : Hp} : Ext m m H H := ⟨fun _ _ h => h, ⟨rfl, rfl⟩, fun _ _ h e => ⟨h, e⟩⟩
theorem Ext.trans {m m1 m2 : Mp} {H H1 H2 : Hp} (a : Ext m m1 H H1) (b : Ext m1 m2 H1 H2) : Ext m m2 H H2 :=
  ⟨fun n x h => b.le n x (a.le n x h), ⟨b.sc.1.trans a.sc.1, b.sc.2.trans a.sc.2⟩, fun p o h e => b.fr p o (a.fr p o h e).1 (a.fr p o h e).2⟩

def RelK {κ : Type} (m : Mp) (H : Hp) : List (κ × D) → List (κ × V) → Prop
  | [], vs => vs = []
  | d :: ds, vs => ∃ v vs', vs = v :: vs' ∧ d.1 = v.1 ∧ RelD m H d.2 v.2 ∧ RelK m H ds vs'

def CellAtD (K : PySem.W.Frag) (m : Mp) (H : Hp) (a : Addr) : Cell → Prop
  | .lst xs => ∃ vs, H a = some (.lst vs) ∧ RelDs m H xs vs
  | .dk kvs => ∃ vs, H a = some (.dK vs) ∧ RelK m H kvs vs
  | .dt kvs => ∃ vs, H a = some (.dT vs) ∧ RelK m H kvs vs
  | .ins c fs => ∃ dx vs, H a = some (.ins (He.ga K c) dx vs) ∧ RelK m H fs vs

/-- the script: a list that nobody writes -/
def ScrOk (K : PySem.W.Frag) (H : Hp) (a : Addr) (ns : List Int) : Prop :=
  (∀ H' : Hp, SqL K H' a (ns.map V.int)) ∨ ∃ o, H a = some (.frz o (.lst (ns.map V.int)))
theorem ScrOk.sq {K : PySem.W.Frag} {H : Hp} {a : Addr} {ns : List Int} (x : ScrOk K H a ns) : SqL K H a (ns.map V.int) := by
  rcases x with x | ⟨o, x⟩
  · exact x H
  · exact .inl (.inr ⟨o, x⟩)
theorem ScrOk.of {K : PySem.W.Frag} {H : Hp} {a : Addr} {ns : List Int} (x : SqL K H a (ns.map V.int)) (hO : ∀ b, H b = none ∨ ∃ o xs, H b = some (.frz o (.lst xs))) : ScrOk K H a ns := by
  rcases x with (x | ⟨o, x⟩) | x
  · rcases hO a with e | ⟨o, xs, e⟩
    · rw [e] at x; cases x
    · rw [e] at x; cases x
  · exact .inr ⟨o, x⟩
  · exact .inl fun _ => .inr x
theorem ScrOk.upd {K : PySem.W.Frag} {H : Hp} {a p : Addr} {ns : List Int} {u : HO} (x : ScrOk K H a ns) (hp : ∀ o w, H p ≠ some (.frz o w)) : ScrOk K (L2.upd H p u) a ns := by
  rcases x with x | ⟨o, x⟩
  · exact .inl x
  · refine .inr ⟨o, ?_⟩
    rw [upd_ne (fun z => hp o _ (z ▸ x))]
    exact x
theorem nf_none {H : Hp} {p : Addr} (h : H p = none) : ∀ o w, H p ≠ some (.frz o w) := fun o w e => by rw [h] at e; cases e
structure Sm (K : PySem.W.Frag) (m : Mp) (h : HC) (H : Hp) : Prop where
  len : h.length = m.ad.length
  nd : m.ad.Nodup
  scr : ScrOk K H m.scr m.ns
  cell : ∀ (i : Nat) (c : Cell) (a : Addr), h[i]? = some c → m.ad[i]? = some a → CellAtD K m H a c

def Rs (m : Mp) (H : Hp) (s : SD) (σ : L2.St) : Prop :=
  s.length = σ.length ∧ ∀ (i : Nat) (d : D), s[i]? = some (some d) → ∃ v, σ[i]? = some (some v) ∧ RelD m H d v

section
variable {K : PySem.W.Frag} {m m' m1 m2 : Mp} {h h' : HC} {H H' H1 H2 : Hp}

theorem CellAtD.nt {a : Addr} {c : Cell} (x : CellAtD K m H a c) : ∀ vs, H a ≠ some (.tup vs) := by
  intro vs e
  cases c with
  | lst xs => obtain ⟨vs', e', _⟩ := x; rw [e] at e'; cases e'
  | dk xs => obtain ⟨vs', e', _⟩ := x; rw [e] at e'; cases e'
  | dt xs => obtain ⟨vs', e', _⟩ := x; rw [e] at e'; cases e'
  | ins c xs => obtain ⟨dx, vs', e', _⟩ := x; rw [e] at e'; cases e'
theorem CellAtD.nf {a : Addr} {c : Cell} (x : CellAtD K m H a c) : ∀ o w, H a ≠ some (.frz o w) := by
  intro o w e
  cases c with
  | lst xs => obtain ⟨vs', e', _⟩ := x; rw [e] at e'; cases e'
  | dk xs => obtain ⟨vs', e', _⟩ := x; rw [e] at e'; cases e'
  | dt xs => obtain ⟨vs', e', _⟩ := x; rw [e] at e'; cases e'
  | ins c xs => obtain ⟨dx, vs', e', _⟩ := x; rw [e] at e'; cases e'
theorem CellAtD.some_ {a : Addr} {c : Cell} (x : CellAtD K m H a c) : H a ≠ none := by
  intro e
  cases c with
  | lst xs => obtain ⟨vs', e', _⟩ := x; rw [e] at e'; cases e'
  | dk xs => obtain ⟨vs', e', _⟩ := x; rw [e] at e'; cases e'
  | dt xs => obtain ⟨vs', e', _⟩ := x; rw [e] at e'; cases e'
  | ins c xs => obtain ⟨dx, vs', e', _⟩ := x; rw [e] at e'; cases e'
theorem Sm.at_ (S : Sm K m h H) {i : Nat} {a : Addr} (e : m.ad[i]? = some a) : ∃ c, h[i]? = some c ∧ CellAtD K m H a c := by
  have hi : i < h.length := by rw [S.len]; exact (List.getElem?_eq_some_iff.mp e).1
  exact ⟨h[i], by simp [hi], S.cell i _ a (by simp [hi]) e⟩
theorem Sm.addr (S : Sm K m h H) {i : Nat} {c : Cell} (e : h[i]? = some c) : ∃ a, m.ad[i]? = some a ∧ CellAtD K m H a c := by
  have hi : i < m.ad.length := by rw [← S.len]; exact (List.getElem?_eq_some_iff.mp e).1
  exact ⟨m.ad[i], by simp [hi], S.cell i c _ e (by simp [hi])⟩
theorem Sm.tupOut (S : Sm K m h H) {p : Addr} {vs : List V} (e : H p = some (.tup vs)) : p ∉ m.ad := by
  intro hp
  obtain ⟨i, hi⟩ := List.mem_iff_getElem?.mp hp
  obtain ⟨c, _, hc⟩ := S.at_ hi
  exact hc.nt vs e
theorem Sm.freshOut (S : Sm K m h H) {p : Addr} (e : H p = none) : p ∉ m.ad := by
  intro hp
  obtain ⟨i, hi⟩ := List.mem_iff_getElem?.mp hp
  obtain ⟨c, _, hc⟩ := S.at_ hi
  exact hc.some_ e
mutual
theorem RelD.mono_ (hle : ∀ (n : Nat) (a : Addr), m.ad[n]? = some a → m'.ad[n]? = some a) (hsc : m'.scr = m.scr ∧ m'.ns = m.ns) (ht : ∀ p vs, H p = some (.tup vs) → H' p = some (.tup vs)) : ∀ (d : D) (v : V), RelD m H d v → RelD m' H' d v
  | .non, v, r => by simpa [RelD] using r
  | .bl b, v, r => by simpa [RelD] using r
  | .int i, v, r => by simpa [RelD] using r
  | .str s, v, r => by simpa [RelD] using r
  | .tup ds, v, r => by
    simp only [RelD] at r ⊢
    obtain ⟨p, vs, e, hp, hr⟩ := r
    exact ⟨p, vs, e, ht p vs hp, RelDs.mono_ hle hsc ht ds vs hr⟩
  | .ref n, v, r => by
    simp only [RelD] at r ⊢
    obtain ⟨a, ha, e⟩ := r
    exact ⟨a, hle n a ha, e⟩
  | .scr ns, v, r => by
    simp only [RelD] at r ⊢
    rw [hsc.1, hsc.2]
    exact r
theorem RelDs.mono_ (hle : ∀ (n : Nat) (a : Addr), m.ad[n]? = some a → m'.ad[n]? = some a) (hsc : m'.scr = m.scr ∧ m'.ns = m.ns) (ht : ∀ p vs, H p = some (.tup vs) → H' p = some (.tup vs)) : ∀ (ds : List D) (vs : List V), RelDs m H ds vs → RelDs m' H' ds vs
  | [], vs, r => by simpa [RelDs] using r
  | d :: ds, vs, r => by
    simp only [RelDs] at r ⊢
    obtain ⟨v, vs', e, h1, h2⟩ := r
    exact ⟨v, vs', e, RelD.mono_ hle hsc ht d v h1, RelDs.mono_ hle hsc ht ds vs' h2⟩
end
theorem RelK.mono_ {κ : Type} (hle : ∀ (n : Nat) (a : Addr), m.ad[n]? = some a → m'.ad[n]? = some a) (hsc : m'.scr = m.scr ∧ m'.ns = m.ns) (ht : ∀ p vs, H p = some (.tup vs) → H' p = some (.tup vs)) : ∀ (ds : List (κ × D)) (vs : List (κ × V)), RelK m H ds vs → RelK m' H' ds vs
  | [], vs, r => by simpa [RelK] using r
  | d :: ds, vs, r => by
    simp only [RelK] at r ⊢
    obtain ⟨v, vs', e, k, h1, h2⟩ := r
    exact ⟨v, vs', e, k, RelD.mono_ hle hsc ht _ _ h1, RelK.mono_ hle hsc ht ds vs' h2⟩
theorem Sm.kept (S : Sm K m h H) (E : Ext m m' H H') : ∀ p vs, H p = some (.tup vs) → H' p = some (.tup vs) := fun p vs e => (E.fr p _ (S.tupOut e) e).2
theorem RelD.mono {d : D} {v : V} (r : RelD m H d v) (S : Sm K m h H) (E : Ext m m' H H') : RelD m' H' d v := RelD.mono_ E.le E.sc (S.kept E) d v r
theorem RelDs.mono {d : List D} {v : List V} (r : RelDs m H d v) (S : Sm K m h H) (E : Ext m m' H H') : RelDs m' H' d v := RelDs.mono_ E.le E.sc (S.kept E) d v r
theorem Rs.mono {s : SD} {σ : L2.St} (r : Rs m H s σ) (S : Sm K m h H) (E : Ext m m' H H') : Rs m' H' s σ := ⟨r.1, fun i d e => by
  obtain ⟨v, hv, hr⟩ := r.2 i d e
  exact ⟨v, hv, hr.mono S E⟩⟩
theorem CellAtD.mono_ {a : Addr} {c : Cell} (hle : ∀ (n : Nat) (a : Addr), m.ad[n]? = some a → m'.ad[n]? = some a) (hsc : m'.scr = m.scr ∧ m'.ns = m.ns) (ht : ∀ p vs, H p = some (.tup vs) → H' p = some (.tup vs)) (hs : H' a = H a) (x : CellAtD K m H a c) : CellAtD K m' H' a c := by
  cases c with
  | lst xs => obtain ⟨vs', e', r⟩ := x; exact ⟨vs', hs.trans e', RelDs.mono_ hle hsc ht _ _ r⟩
  | dk xs => obtain ⟨vs', e', r⟩ := x; exact ⟨vs', hs.trans e', RelK.mono_ hle hsc ht _ _ r⟩
  | dt xs => obtain ⟨vs', e', r⟩ := x; exact ⟨vs', hs.trans e', RelK.mono_ hle hsc ht _ _ r⟩
  | ins c xs => obtain ⟨dx, vs', e', r⟩ := x; exact ⟨dx, vs', hs.trans e', RelK.mono_ hle hsc ht _ _ r⟩

/-- a tuple (or any other thing that is no cell) is laid at a new address -/
theorem Sm.newT (S : Sm K m h H) {p : Addr} {o : HO} (hp : H p = none) : Sm K m h (upd H p o) ∧ Ext m m H (upd H p o) := by
  have hn : p ∉ m.ad := S.freshOut hp
  have E : Ext m m H (upd H p o) := ⟨fun _ _ e => e, ⟨rfl, rfl⟩, fun q u hq e => ⟨hq, by rw [upd_ne (ne_of_none e hp)]; exact e⟩⟩
  refine ⟨⟨S.len, S.nd, S.scr.upd (nf_none hp), fun i c a hc ha => ?_⟩, E⟩
  refine (S.cell i c a hc ha).mono_ (fun _ _ e => e) ⟨rfl, rfl⟩ (S.kept E) (upd_ne ?_)
  rintro rfl
  exact hn (List.mem_of_getElem? ha)
/-- an address that is no cell yet becomes the next cell -/
theorem Sm.adopt (S : Sm K m h H) {p : Addr} {c : Cell} (hp : p ∉ m.ad) (hc : CellAtD K m H p c) (hle : ∀ o, H p = some o → True) : Sm K (m.snoc p) (h ++ [c]) H := by
  have hle' : ∀ (n : Nat) (a : Addr), m.ad[n]? = some a → (m.snoc p).ad[n]? = some a := fun n a e => by
    show (m.ad ++ [p])[n]? = some a
    rw [List.getElem?_append_left (List.getElem?_eq_some_iff.mp e).1]
    exact e
  refine ⟨by simp [S.len, Mp.snoc], ?_, S.scr, fun i c' a h1 h2 => ?_⟩
  · show (m.ad ++ [p]).Nodup
    rw [List.nodup_append]
    refine ⟨S.nd, by simp, fun x hx y hy e => ?_⟩
    have : y = p := by simpa using hy
    subst this
    subst e
    exact hp hx
  · replace h2 : (m.ad ++ [p])[i]? = some a := h2
    by_cases hi : i < h.length
    · rw [List.getElem?_append_left hi] at h1
      rw [List.getElem?_append_left (by rw [← S.len]; exact hi)] at h2
      exact (S.cell i c' a h1 h2).mono_ hle' ⟨rfl, rfl⟩ (fun _ _ e => e) rfl
    · have hi2 : i = h.length := by
        have := (List.getElem?_eq_some_iff.mp h1).1
        simp at this
        omega
      subst hi2
      rw [List.getElem?_append_right (Nat.le_refl _)] at h1
      rw [S.len, List.getElem?_append_right (Nat.le_refl _)] at h2
      simp at h1 h2
      subst h1
      subst h2
      exact hc.mono_ hle' ⟨rfl, rfl⟩ (fun _ _ e => e) rfl
/-- a new cell is laid -/
theorem Sm.newC (S : Sm K m h H) {p : Addr} {o : HO} {c : Cell} (hp : H p = none) (hc : CellAtD K m (upd H p o) p c) : Sm K (m.snoc p) (h ++ [c]) (upd H p o) ∧ Ext m (m.snoc p) H (upd H p o) := by
  have hn : p ∉ m.ad := S.freshOut hp
  obtain ⟨S1, E1⟩ := S.newT (o := o) hp
  refine ⟨S1.adopt hn hc (fun _ _ => trivial), ⟨fun n a e => ?_, ⟨rfl, rfl⟩, fun q u hq e => ?_⟩⟩
  · show (m.ad ++ [p])[n]? = some a
    rw [List.getElem?_append_left (List.getElem?_eq_some_iff.mp e).1]
    exact e
  · have hqp : q ≠ p := ne_of_none e hp
    exact ⟨by simp [hq, hqp, Mp.snoc], by rw [upd_ne hqp]; exact e⟩
/-- a cell is changed -/
theorem Sm.setC (S : Sm K m h H) {i : Nat} {p : Addr} {o : HO} {c : Cell} (hi : m.ad[i]? = some p) (hc : CellAtD K m (upd H p o) p c) : Sm K m (h.set i c) (upd H p o) ∧ Ext m m H (upd H p o) := by
  have hm : p ∈ m.ad := List.mem_of_getElem? hi
  have E : Ext m m H (upd H p o) := ⟨fun _ _ e => e, ⟨rfl, rfl⟩, fun q u hq e => ⟨hq, by rw [upd_ne (show q ≠ p from fun z => hq (by rw [z]; exact hm))]; exact e⟩⟩
  have hnf : ∀ o w, H p ≠ some (.frz o w) := by
    obtain ⟨c0, _, hc0⟩ := S.at_ hi
    exact hc0.nf
  refine ⟨⟨by simp [S.len], S.nd, S.scr.upd hnf, fun j c' a h1 h2 => ?_⟩, E⟩
  by_cases hj : j = i
  · subst hj
    rw [hi] at h2
    cases h2
    have hlt : j < h.length := by
      have := (List.getElem?_eq_some_iff.mp h1).1
      simpa using this
    rw [List.getElem?_set_self hlt] at h1
    cases h1
    exact hc
  · rw [List.getElem?_set_ne (Ne.symm hj)] at h1
    refine (S.cell j c' a h1 h2).mono_ (fun _ _ e => e) ⟨rfl, rfl⟩ (S.kept E) (upd_ne ?_)
    rintro rfl
    have hl1 := (List.getElem?_eq_some_iff.mp h2).1
    have hl2 := (List.getElem?_eq_some_iff.mp hi).1
    have e1 := (List.getElem?_eq_some_iff.mp h2).2
    have e2 := (List.getElem?_eq_some_iff.mp hi).2
    exact hj ((List.getElem_inj S.nd).mp (e1.trans e2.symm))

/-! ### lists of values -/
theorem RelDs.len : ∀ {ds : List D} {vs : List V}, RelDs m H ds vs → ds.length = vs.length
  | [], vs, r => by simp only [RelDs] at r; subst r; rfl
  | d :: ds, vs, r => by
    simp only [RelDs] at r
    obtain ⟨v, vs', rfl, _, h2⟩ := r
    simp [RelDs.len h2]
theorem RelDs.get : ∀ {ds : List D} {vs : List V} {i : Nat} {d : D}, RelDs m H ds vs → ds[i]? = some d → ∃ v, vs[i]? = some v ∧ RelD m H d v
  | [], vs, i, d, r, e => by simp at e
  | d0 :: ds, vs, 0, d, r, e => by
    simp only [RelDs] at r
    obtain ⟨v, vs', rfl, h1, h2⟩ := r
    simp at e
    subst e
    exact ⟨v, rfl, h1⟩
  | d0 :: ds, vs, i + 1, d, r, e => by
    simp only [RelDs] at r
    obtain ⟨v, vs', rfl, h1, h2⟩ := r
    simp at e
    obtain ⟨w, hw, hr⟩ := RelDs.get h2 e
    exact ⟨w, by simpa using hw, hr⟩
theorem RelDs.get2 : ∀ {ds : List D} {vs : List V} {i : Nat} {v : V}, RelDs m H ds vs → vs[i]? = some v → ∃ d, ds[i]? = some d ∧ RelD m H d v
  | [], vs, i, v, r, e => by simp only [RelDs] at r; subst r; simp at e
  | d0 :: ds, vs, 0, v, r, e => by
    simp only [RelDs] at r
    obtain ⟨v', vs', rfl, h1, h2⟩ := r
    simp at e
    subst e
    exact ⟨d0, rfl, h1⟩
  | d0 :: ds, vs, i + 1, v, r, e => by
    simp only [RelDs] at r
    obtain ⟨v', vs', rfl, h1, h2⟩ := r
    simp at e
    obtain ⟨w, hw, hr⟩ := RelDs.get2 h2 e
    exact ⟨w, by simpa using hw, hr⟩
theorem RelDs.nil : RelDs m H [] [] := by simp [RelDs]
theorem RelDs.cons {d : D} {v : V} {ds : List D} {vs : List V} (a : RelD m H d v) (b : RelDs m H ds vs) : RelDs m H (d :: ds) (v :: vs) := by
  simp only [RelDs]
  exact ⟨v, vs, rfl, a, b⟩
theorem RelDs.append : ∀ {ds es : List D} {vs us : List V}, RelDs m H ds vs → RelDs m H es us → RelDs m H (ds ++ es) (vs ++ us)
  | [], es, vs, us, r, q => by simp only [RelDs] at r; subst r; exact q
  | d :: ds, es, vs, us, r, q => by
    simp only [RelDs] at r
    obtain ⟨v, vs', rfl, h1, h2⟩ := r
    exact RelDs.cons h1 (RelDs.append h2 q)
theorem RelDs.take : ∀ {ds : List D} {vs : List V} (n : Nat), RelDs m H ds vs → RelDs m H (ds.take n) (vs.take n)
  | ds, vs, 0, r => by simp [RelDs]
  | [], vs, n + 1, r => by simp only [RelDs] at r; subst r; simp [RelDs]
  | d :: ds, vs, n + 1, r => by
    simp only [RelDs] at r
    obtain ⟨v, vs', rfl, h1, h2⟩ := r
    exact RelDs.cons h1 (RelDs.take n h2)
theorem RelDs.drop : ∀ {ds : List D} {vs : List V} (n : Nat), RelDs m H ds vs → RelDs m H (ds.drop n) (vs.drop n)
  | ds, vs, 0, r => by simpa using r
  | [], vs, n + 1, r => by simp only [RelDs] at r; subst r; simp [RelDs]
  | d :: ds, vs, n + 1, r => by
    simp only [RelDs] at r
    obtain ⟨v, vs', rfl, h1, h2⟩ := r
    simpa using RelDs.drop n h2
theorem RelDs.set : ∀ {ds : List D} {vs : List V} (n : Nat) {d : D} {v : V}, RelDs m H ds vs → RelD m H d v → RelDs m H (ds.set n d) (vs.set n v)
  | [], vs, n, d, v, r, q => by simp only [RelDs] at r; subst r; simp [RelDs]
  | d0 :: ds, vs, 0, d, v, r, q => by
    simp only [RelDs] at r
    obtain ⟨v', vs', rfl, h1, h2⟩ := r
    exact RelDs.cons q h2
  | d0 :: ds, vs, n + 1, d, v, r, q => by
    simp only [RelDs] at r
    obtain ⟨v', vs', rfl, h1, h2⟩ := r
    exact RelDs.cons h1 (RelDs.set n h2 q)
theorem RelDs.erase : ∀ {ds : List D} {vs : List V} (n : Nat), RelDs m H ds vs → RelDs m H (ds.eraseIdx n) (vs.eraseIdx n)
  | [], vs, n, r => by simp only [RelDs] at r; subst r; simp [RelDs]
  | d0 :: ds, vs, 0, r => by
    simp only [RelDs] at r
    obtain ⟨v', vs', rfl, h1, h2⟩ := r
    simpa using h2
  | d0 :: ds, vs, n + 1, r => by
    simp only [RelDs] at r
    obtain ⟨v', vs', rfl, h1, h2⟩ := r
    exact RelDs.cons h1 (RelDs.erase n h2)
theorem RelDs.replicate {d : D} {v : V} (q : RelD m H d v) : ∀ n : Nat, RelDs m H (List.replicate n d) (List.replicate n v)
  | 0 => RelDs.nil
  | n + 1 => RelDs.cons q (RelDs.replicate q n)
theorem RelDs.rep {ds : List D} {vs : List V} (q : RelDs m H ds vs) : ∀ n : Nat, RelDs m H (List.replicate n ds).flatten (List.replicate n vs).flatten
  | 0 => RelDs.nil
  | n + 1 => by
    rw [List.replicate_succ, List.flatten_cons, List.replicate_succ, List.flatten_cons]
    exact q.append (RelDs.rep q n)
theorem RelDs.ints : ∀ {ns : List Int} , RelDs m H (ns.map D.int) (ns.map V.int)
  | [] => RelDs.nil
  | n :: ns => RelDs.cons (by simp [RelD]) RelDs.ints
end

end G9

set_option Elab.async false
set_option linter.all false
set_option maxRecDepth 100000
set_option maxHeartbeats 2000000
namespace G9
open PySem PySem.Spec PyProof.Rows L2

/-! ### readings -/
def post {α β : Type} (R : Mp → Hp → α → β → Prop) (K : PySem.W.Frag) (W : WX) (σ : L2.St) (m : Mp) (H : Hp) (Q : β → Hp → Prop) : Res α → Prop
  | .ok a h' => ∀ m' H' b, Ext m m' H H' → Sm K m' h' H' → R m' H' a b → Q b H'
  | .exc c h' => ∀ m' H', Ext m m' H H' → Sm K m' h' H' → W (.ref (He.ga K c)) none σ H'
  | .bad => False
def rd {α β : Type} (R : Mp → Hp → α → β → Prop) (K : PySem.W.Frag) (W : WX) (f : SD → HC → Res α) : L2.St → Hp → (β → Hp → Prop) → Prop := fun σ H Q =>
  ∃ m s h, Sm K m h H ∧ Rs m H s σ ∧ post R K W σ m H Q (f s h)
def RelB (_ : Mp) (_ : Hp) (a b : Bool) : Prop := a = b
abbrev rE (K : PySem.W.Frag) (W : WX) (f : SD → HC → Res D) : TE := rd RelD K W f
abbrev rT (K : PySem.W.Frag) (W : WX) (f : SD → HC → Res Bool) : TT := rd RelB K W f
abbrev rA (K : PySem.W.Frag) (W : WX) (f : SD → HC → Res (List D)) : TA := rd RelDs K W f
abbrev EE := SD → HC → Res D
abbrev ET := SD → HC → Res Bool
abbrev EA := SD → HC → Res (List D)

section
variable {α β γ δ : Type} {R : Mp → Hp → α → β → Prop} {R' : Mp → Hp → γ → δ → Prop} {K : PySem.W.Frag} {W : WX} {σ : L2.St} {m m1 : Mp} {H H1 : Hp}
theorem post_ext {Q : β → Hp → Prop} {r : Res α} (p : post R K W σ m H Q r) (E : Ext m m1 H H1) : post R K W σ m1 H1 Q r := by
  cases r with
  | ok a h => exact fun m' H' b e S q => p m' H' b (E.trans e) S q
  | exc c h => exact fun m' H' e S => p m' H' (E.trans e) S
  | bad => exact p
theorem post_mono {Q Q' : β → Hp → Prop} {r : Res α} (p : post R K W σ m H Q r) (hq : ∀ b H', Q b H' → Q' b H') : post R K W σ m H Q' r := by
  cases r with
  | ok a h => exact fun m' H' b e S q => hq _ _ (p m' H' b e S q)
  | exc c h => exact p
  | bad => exact p
theorem rd_mono {Q Q' : β → Hp → Prop} {f : SD → HC → Res α} (p : rd R K W f σ H Q) (hq : ∀ b H', Q b H' → Q' b H') : rd R K W f σ H Q' := by
  obtain ⟨m, s, h, S, r, p⟩ := p
  exact ⟨m, s, h, S, r, post_mono p hq⟩
/-- the same, with what is known behind it -/
theorem rd_know {Q : β → Hp → Prop} {f : SD → HC → Res α} {m : Mp} {s : SD} {h : HC} (S : Sm K m h H) (r : Rs m H s σ)
    (p : post R K W σ m H Q (f s h)) : rd R K W f σ H Q := ⟨m, s, h, S, r, p⟩
theorem rd_bind {Q : δ → Hp → Prop} {f : SD → HC → Res α} {g : α → SD → HC → Res γ} (p : rd R' K W (fun s h => (f s h).bind fun a h1 => g a s h1) σ H Q) :
    rd R K W f σ H (fun b H1 => ∃ m1 s h1 a, Sm K m1 h1 H1 ∧ Rs m1 H1 s σ ∧ R m1 H1 a b ∧ post R' K W σ m1 H1 Q (g a s h1)) := by
  obtain ⟨m, s, h, S, r, p⟩ := p
  refine ⟨m, s, h, S, r, ?_⟩
  dsimp only at p
  cases e : f s h with
  | ok a h1 =>
    rw [e] at p
    exact fun m' H' b E S' q => ⟨m', s, h1, a, S', r.mono S E, q, post_ext p E⟩
  | exc c h1 =>
    rw [e] at p
    exact p
  | bad =>
    rw [e] at p
    exact p
end

section
variable {X : Cx} {W : WX} {e : Expr}
theorem PEw {t t' : TE} (h : PE X e t) (w : ∀ σ H Q, t' σ H Q → t σ H Q) : PE X e t' := ⟨fun pins s σ H Q I q => h.run pins s σ H Q I (w _ _ _ q)⟩
theorem PTw {t t' : TT} (h : PT X e t) (w : ∀ σ H Q, t' σ H Q → t σ H Q) : PT X e t' := ⟨fun pins s σ H Q I q => h.run pins s σ H Q I (w _ _ _ q)⟩
theorem PWw {t t' : TT} (h : PW X e t) (w : ∀ σ H Q, t' σ H Q → t σ H Q) : PW X e t' := ⟨fun wh pins s σ H Q I q => h.run wh pins s σ H Q I (w _ _ _ q)⟩
theorem PAw {es : List Expr} {t t' : TA} (h : PA X es t) (w : ∀ σ H Q, t' σ H Q → t σ H Q) : PA X es t' := ⟨fun pos pins s σ H Q I q => h.run pos pins s σ H Q I (w _ _ _ q)⟩
theorem PSw {st : Stmt} {t t' : TS} (h : PS X st t) (w : ∀ D σ H, t' D σ H → t D σ H) : PS X st t' := ⟨fun pins s σ H D I q => h.run pins s σ H D I (w _ _ _ q)⟩
theorem PSsw {st : List Stmt} {t t' : TS} (h : PSs X st t) (w : ∀ D σ H, t' D σ H → t D σ H) : PSs X st t' := ⟨fun pins s σ H D I q => h.run pins s σ H D I (w _ _ _ q)⟩
end

/-! ### names and constants -/
def fVar (i : Nat) : EE := fun s h => match s[i]? with
  | some (some d) => .ok d h
  | _ => .bad
def fC (d : D) : EE := fun _ h => .ok d h
section
variable {X : Cx} {W : WX} {e : Expr}
theorem se_of_var {i : Nat} (h : PE X e (tVar i)) : PE X e (rE X.K W (fVar i)) := PEw h fun σ H Q q => by
  obtain ⟨m, s, h, S, r, p⟩ := q
  unfold fVar at p
  cases e1 : s[i]? with
  | none => rw [e1] at p; exact p.elim
  | some o =>
    cases o with
    | none => rw [e1] at p; exact p.elim
    | some d =>
      rw [e1] at p
      obtain ⟨v, hv, hr⟩ := r.2 i d e1
      exact ⟨v, hv, p m H v Ext.refl S hr⟩
theorem sv (i : Nat) {x : Str} {pos : Pos} (hN : X.N[i]? = some x := by rfl) (hv : Vis X.env.scope x := by first | exact Or.inl rfl | exact Or.inr (Or.inl rfl) | exact Or.inr (Or.inr rfl)) (hd : (x == ("__debug__" : Str)) = false := by decide)
    (hcd : (x == ("__classdict__" : Str)) = false := by decide) : PE X (.Name x pos) (rE X.K W (fVar i)) := se_of_var (pe_var hN hv hd hcd)
theorem se_of_c {v : V} {d : D} (h : PE X e (tC v)) (hr : ∀ m H, RelD m H d v) : PE X e (rE X.K W (fC d)) := PEw h fun σ H Q q => by
  obtain ⟨m, s, h, S, r, p⟩ := q
  exact p m H v Ext.refl S (hr m H)
theorem se_int {i j pos} : PE X (.Constant (.int i) j pos) (rE X.K W (fC (.int i))) := se_of_c pe_int fun _ _ => by simp [RelD]
theorem se_bl {b j pos} : PE X (.Constant (.bool b) j pos) (rE X.K W (fC (.bl b))) := se_of_c pe_bl fun _ _ => by simp [RelD]
theorem se_non {j pos} : PE X (.Constant .none j pos) (rE X.K W (fC .non)) := se_of_c pe_non fun _ _ => by simp [RelD]
theorem se_str {x j pos} : PE X (.Constant (.str x) j pos) (rE X.K W (fC (.str x))) := se_of_c pe_str fun _ _ => by simp [RelD]
/-- a constant of the module -/
theorem se_gint {x : Str} {i : Int} {pos : Pos} (hm : ∃ t, X.mg x = some (.int i t)) (hg : Gl X x := by rfl) (hd : (x == ("__debug__" : Str)) = false := by decide) : PE X (.Name x pos) (rE X.K W (fC (.int i))) := by
  obtain ⟨t, hm⟩ := hm
  exact se_of_c (pe_glob hg hm (v := .int i) ⟨t, rfl⟩ hd) fun _ _ => by simp [RelD]
end

/-! ### operators by values -/
def OpS (K : PySem.W.Frag) (r : R2) (op : D → D → HC → Res D) : Prop :=
  ∀ (W : WX) (σ : L2.St) (m : Mp) (h : HC) (H : Hp) (d1 d2 : D) (v1 v2 : V) (Q : VK), Sm K m h H → RelD m H d1 v1 → RelD m H d2 v2 → post RelD K W σ m H Q (op d1 d2 h) → r v1 v2 H Q
def fOp (op : D → D → HC → Res D) (a b : EE) : EE := fun s h => (a s h).bind fun x h1 => (b s h1).bind fun y h2 => op x y h2
section
variable {X : Cx} {W : WX} {a b c : Expr} {fa fb fc : EE} {pos : Pos} {r r' : R2} {op op' : D → D → HC → Res D}
theorem tOp_of {K : PySem.W.Frag} (hs : OpS K r op) (σ : L2.St) (H : Hp) (Q : VK) (q : rE K W (fOp op fa fb) σ H Q) : tOp r (rE K W fa) (rE K W fb) σ H Q := by
  refine rd_mono (rd_bind (R := RelD) (f := fa) (g := fun x s h1 => (fb s h1).bind fun y h2 => op x y h2) q) fun x H1 ⟨m1, s, h1, d1, S1, r1, q1, p1⟩ => ?_
  refine ⟨m1, s, h1, S1, r1, ?_⟩
  cases e : fb s h1 with
  | ok d2 h2 =>
    rw [e] at p1
    exact fun m2 H2 y E2 S2 q2 => hs W σ m2 h2 H2 d1 d2 x y Q S2 (q1.mono S1 E2) q2 (post_ext p1 E2)
  | exc c h2 =>
    rw [e] at p1
    exact p1
  | bad =>
    rw [e] at p1
    exact p1
theorem se_op {o : Operator} (ho : OpR X (binaryOp o) r) (hs : OpS X.K r op) (ha : PE X a (rE X.K W fa)) (hb : PE X b (rE X.K W fb)) : PE X (.BinOp a o b pos) (rE X.K W (fOp op fa fb)) :=
  PEw (pe_op ho ha hb) (tOp_of hs)
theorem se_cmp {o : CmpOp} (ho : OpR X (compareOp o) r) (hs : OpS X.K r op) (ha : PE X a (rE X.K W fa)) (hb : PE X b (rE X.K W fb)) (hm : behindInMarks o b = false := by first | exact nomark _ | rfl) : PE X (.Compare a [o] [b] pos) (rE X.K W (fOp op fa fb)) :=
  PEw (pe_cmpR ho ha hb hm) (tOp_of hs)
theorem OpS.or {K : PySem.W.Frag} (h : ∀ d1 d2 h, op' d1 d2 h = .bad ∨ op' d1 d2 h = op d1 d2 h) (hs : OpS K r op) : OpS K r op' := fun W σ m hh H d1 d2 v1 v2 Q S r1 r2 p => by
  rcases h d1 d2 hh with e | e
  · rw [e] at p; exact p.elim
  · rw [e] at p; exact hs W σ m hh H d1 d2 v1 v2 Q S r1 r2 p
end

/-! ### arithmetic, texts, lists, tuples -/
def BIG : Nat := 100000
theorem big_le : BIG ≤ sizeLine := by rw [sizeLine_eq]; decide
def newL (xs : List D) (h : HC) : Res D := if xs.length ≤ BIG then .ok (.ref h.length) (h ++ [.lst xs]) else .bad
def mkT (xs : List D) (h : HC) : Res D := if xs.length ≤ BIG then .ok (.tup xs) h else .bad
def opAdd : D → D → HC → Res D
  | .int a, .int b, h => .ok (.int (a + b)) h
  | .str a, .str b, h => if a.length + b.length ≤ BIG then .ok (.str (a ++ b)) h else .bad
  | .tup a, .tup b, h => mkT (a ++ b) h
  | .ref a, .ref b, h => (match h[a]?, h[b]? with
    | some (.lst xs), some (.lst ys) => newL (xs ++ ys) h
    | _, _ => .bad)
  | _, _, _ => .bad
def opSub : D → D → HC → Res D
  | .int a, .int b, h => .ok (.int (a - b)) h
  | _, _, _ => .bad
def mulOk (i j : Int) : Bool := (decide (-(2 ^ 64) < i) && decide (i < 2 ^ 64)) || (decide (-(2 ^ 64) < j) && decide (j < 2 ^ 64))
def opMul : D → D → HC → Res D
  | .int a, .int b, h => if mulOk a b then .ok (.int (a * b)) h else .bad
  | .ref a, .int k, h => (match h[a]? with
    | some (.lst xs) => if -(2 ^ 63) ≤ k ∧ k < 2 ^ 63 then newL (List.replicate k.toNat xs).flatten h else .bad
    | _ => .bad)
  | .tup xs, .int k, h => if xs ≠ [] ∧ 2 ≤ k ∧ k ≤ 1000 ∧ xs.length ≤ 1000 then .ok (.tup (List.replicate k.toNat xs).flatten) h else .bad
  | _, _, _ => .bad
def opMod : D → D → HC → Res D
  | .int a, .int b, h => if 0 < b then .ok (.int (a % b)) h else .bad
  | _, _, _ => .bad
def opDiv : D → D → HC → Res D
  | .int a, .int b, h => if 0 < b ∧ b < 1073741824 then .ok (.int (a / b)) h else .bad
  | _, _, _ => .bad
def opPow : D → D → HC → Res D
  | .int a, .int b, h => if 0 ≤ b ∧ b ≤ 1000000 ∧ a.natAbs < 2 ^ 64 then .ok (.int (a ^ b.toNat)) h else .bad
  | _, _, _ => .bad
def opI (g : Int → Int → Bool) : D → D → HC → Res D
  | .int a, .int b, h => .ok (.bl (g a b)) h
  | _, _, _ => .bad
abbrev opLt := opI fun i j => decide (i < j)
abbrev opLe := opI fun i j => decide (i ≤ j)
abbrev opGt := opI fun i j => decide (j < i)
abbrev opGe := opI fun i j => decide (j ≤ i)

section
variable {K : PySem.W.Frag}
theorem newL_ok {W : WX} {σ : L2.St} {m : Mp} {h : HC} {H : Hp} {xs : List D} {vs : List V} {Q : VK} {R : Prop} (S : Sm K m h H) (r : RelDs m H xs vs) (p : post RelD K W σ m H Q (newL xs h))
    (k : vs.length ≤ sizeLine → (∀ p, H p = none → Q (.ref p) (upd H p (.lst vs))) → R) : R := by
  unfold newL at p
  split at p
  · rename_i hl
    refine k (by rw [← r.len]; exact Nat.le_trans hl big_le) fun q hq => ?_
    obtain ⟨S1, E1⟩ := S.newC (o := .lst vs) (c := .lst xs) hq ⟨vs, upd_same, r.mono S (S.newT (o := .lst vs) hq).2⟩
    refine p _ _ _ E1 S1 ?_
    simp only [RelD]
    exact ⟨q, by rw [S.len]; exact Mp.last, rfl⟩
  · exact p.elim
theorem mkT_ok {W : WX} {σ : L2.St} {m : Mp} {h : HC} {H : Hp} {xs : List D} {vs : List V} {Q : VK} {R : Prop} (S : Sm K m h H) (r : RelDs m H xs vs) (p : post RelD K W σ m H Q (mkT xs h))
    (k : vs.length ≤ sizeLine → (∀ p, H p = none → Q (.ref p) (upd H p (.tup vs))) → (∀ p, H p = some (.tup vs) → Q (.ref p) H) → R) : R := by
  unfold mkT at p
  split at p
  · rename_i hl
    refine k (by rw [← r.len]; exact Nat.le_trans hl big_le) (fun q hq => ?_) (fun q hq => ?_)
    · obtain ⟨S1, E1⟩ := S.newT (o := .tup vs) hq
      refine p _ _ _ E1 S1 ?_
      simp only [RelD]
      exact ⟨q, vs, rfl, upd_same, r.mono S E1⟩
    · refine p _ _ _ Ext.refl S ?_
      simp only [RelD]
      exact ⟨q, vs, rfl, hq, r⟩
  · exact p.elim
theorem Sm.lst (S : Sm K m h H) {n : Nat} {v : V} {xs : List D} (r : RelD m H (.ref n) v) (e : h[n]? = some (.lst xs)) : ∃ a vs, v = .ref a ∧ m.ad[n]? = some a ∧ H a = some (.lst vs) ∧ RelDs m H xs vs := by
  simp only [RelD] at r
  obtain ⟨a, ha, rfl⟩ := r
  obtain ⟨vs, hv, hr⟩ := S.cell n _ a e ha
  exact ⟨a, vs, rfl, ha, hv, hr⟩
theorem RelDs.nil_iff {ds : List D} {vs : List V} (r : RelDs m H ds vs) : ds = [] ↔ vs = [] := by
  have := r.len
  cases ds <;> cases vs <;> simp_all

def rAddAll (K : PySem.W.Frag) : R2 := fun x y H Q => (rI0 fun i j => .int (i + j)) x y H Q ∨ ((fun x y H Q => ∃ i j, x = .str i ∧ y = .str j ∧ i.length + j.length ≤ sizeLine ∧ Q (.str (i ++ j)) H) : R2) x y H Q ∨ rCatA K x y H Q ∨ rCat x y H Q
theorem op_addAll {X : Cx} : OpR X (binaryOp .Add) (rAddAll X.K) := op_add.or (op_add_str.or (op_catA.or op_cat))
theorem os_add : OpS K (rAddAll K) opAdd := by
  intro W σ m h H d1 d2 v1 v2 Q S r1 r2 p
  unfold opAdd at p
  split at p
  · simp only [RelD] at r1 r2
    exact .inl ⟨_, _, r1, r2, p _ _ _ Ext.refl S (by simp [RelD])⟩
  · simp only [RelD] at r1 r2
    split at p
    · rename_i hl
      exact .inr (.inl ⟨_, _, r1, r2, Nat.le_trans hl big_le, p _ _ _ Ext.refl S (by simp [RelD])⟩)
    · exact p.elim
  · rename_i a b
    simp only [RelD] at r1 r2
    obtain ⟨p1, vs1, rfl, h1, q1⟩ := r1
    obtain ⟨p2, vs2, rfl, h2, q2⟩ := r2
    refine mkT_ok S (q1.append q2) p fun hl k1 k2 => .inr (.inr (.inl ⟨p1, p2, vs1, vs2, rfl, rfl, SqT.of h1, SqT.of h2, by simpa using hl, fun e => ?_, fun _ e => ?_, fun _ _ => k1⟩))
    · subst e
      exact k2 p2 (by simpa using h2)
    · subst e
      exact k2 p1 (by simpa using h1)
  · split at p
    · rename_i xs ys e1 e2
      obtain ⟨a1, vs1, rfl, _, h1, q1⟩ := S.lst r1 e1
      obtain ⟨a2, vs2, rfl, _, h2, q2⟩ := S.lst r2 e2
      exact newL_ok S (q1.append q2) p fun hl k => .inr (.inr (.inr ⟨a1, a2, vs1, vs2, rfl, rfl, h1, h2, by simpa using hl, k⟩))
    · exact p.elim
  · exact p.elim
theorem os_sub : OpS K (rI0 fun i j => .int (i - j)) opSub := by
  intro W σ m h H d1 d2 v1 v2 Q S r1 r2 p
  unfold opSub at p
  split at p
  · simp only [RelD] at r1 r2
    exact ⟨_, _, r1, r2, p _ _ _ Ext.refl S (by simp [RelD])⟩
  · exact p.elim
theorem mulOk_ok {i j : Int} (h : mulOk i j = true) : CMul i j := by
  unfold mulOk at h
  rcases Bool.or_eq_true_iff.mp h with h | h
  · obtain ⟨h1, h2⟩ := Bool.and_eq_true_iff.mp h
    exact .inl ⟨of_decide_eq_true h1, of_decide_eq_true h2⟩
  · obtain ⟨h1, h2⟩ := Bool.and_eq_true_iff.mp h
    exact .inr ⟨of_decide_eq_true h1, of_decide_eq_true h2⟩
def rMulAll (K : PySem.W.Frag) : R2 := fun x y H Q => (rI CMul fun i j => .int (i * j)) x y H Q ∨ rRep x y H Q ∨ rRepT K x y H Q
theorem op_mulAll {X : Cx} : OpR X (binaryOp .Mult) (rMulAll X.K) := op_mul.or (op_rep.or op_repT)
theorem os_mul : OpS K (rMulAll K) opMul := by
  intro W σ m h H d1 d2 v1 v2 Q S r1 r2 p
  unfold opMul at p
  split at p
  · simp only [RelD] at r1 r2
    split at p
    · rename_i hc
      exact .inl ⟨_, _, r1, r2, mulOk_ok hc, p _ _ _ Ext.refl S (by simp [RelD])⟩
    · exact p.elim
  · split at p
    · rename_i xs e1
      split at p
      · rename_i hk
        obtain ⟨a1, vs1, rfl, _, h1, q1⟩ := S.lst r1 e1
        simp only [RelD] at r2
        refine newL_ok S (q1.rep _) p fun hl k => .inr (.inl ⟨a1, _, vs1, rfl, r2, h1, hk.1, hk.2, ?_, k⟩)
        simpa [Nat.mul_comm] using hl
      · exact p.elim
    · exact p.elim
  · split at p
    · rename_i xs k hk
      simp only [RelD] at r1 r2
      obtain ⟨p1, vs1, rfl, h1, q1⟩ := r1
      refine .inr (.inr ⟨p1, k, vs1, rfl, r2, SqT.of h1, fun z => hk.1 (q1.nil_iff.mpr z), hk.2.1, hk.2.2.1, by rw [← q1.len]; exact hk.2.2.2, fun q hq => ?_⟩)
      obtain ⟨S1, E1⟩ := S.newT (o := .tup (List.replicate k.toNat vs1).flatten) hq
      refine p _ _ _ E1 S1 ?_
      simp only [RelD]
      exact ⟨q, _, rfl, upd_same, (q1.rep _).mono S E1⟩
    · exact p.elim
  · exact p.elim
theorem os_mod : OpS K (rI (fun _ j => 0 < j) fun i j => .int (i % j)) opMod := by
  intro W σ m h H d1 d2 v1 v2 Q S r1 r2 p
  unfold opMod at p
  split at p
  · simp only [RelD] at r1 r2
    split at p
    · rename_i hc
      exact ⟨_, _, r1, r2, hc, p _ _ _ Ext.refl S (by simp [RelD])⟩
    · exact p.elim
  · exact p.elim
theorem os_div : OpS K (rI CDiv fun i j => .int (i / j)) opDiv := by
  intro W σ m h H d1 d2 v1 v2 Q S r1 r2 p
  unfold opDiv at p
  split at p
  · simp only [RelD] at r1 r2
    split at p
    · rename_i hc
      exact ⟨_, _, r1, r2, hc, p _ _ _ Ext.refl S (by simp [RelD])⟩
    · exact p.elim
  · exact p.elim
theorem os_pow : OpS K (rI CPow fun i j => .int (i ^ j.toNat)) opPow := by
  intro W σ m h H d1 d2 v1 v2 Q S r1 r2 p
  unfold opPow at p
  split at p
  · simp only [RelD] at r1 r2
    split at p
    · rename_i hc
      exact ⟨_, _, r1, r2, hc, p _ _ _ Ext.refl S (by simp [RelD])⟩
    · exact p.elim
  · exact p.elim
theorem os_I {g : Int → Int → Bool} : OpS K (rI0 fun i j => .bl (g i j)) (opI g) := by
  intro W σ m h H d1 d2 v1 v2 Q S r1 r2 p
  unfold opI at p
  split at p
  · simp only [RelD] at r1 r2
    exact ⟨_, _, r1, r2, p _ _ _ Ext.refl S (by simp [RelD])⟩
  · exact p.elim
end

end G9

set_option Elab.async false
set_option linter.all false
set_option maxRecDepth 100000
set_option maxHeartbeats 2000000
namespace G9
open PySem PySem.Spec PyProof.Rows L2

/-! ### data as a whole -/
def optAll {α : Type} : List (Option α) → Option (List α)
  | [] => some []
  | some a :: r => (optAll r).map (a :: ·)
  | none :: _ => none
def toPy (h : HC) : Nat → D → Option PyData
  | 0, _ => none
  | n + 1, d => match d with
    | .non => some .none
    | .bl b => some (.bool b)
    | .int i => some (.int i)
    | .str s => if PyData.strOk s = true then some (.str s) else none
    | .tup xs => (optAll (xs.map (toPy h n))).map .tuple
    | .ref a => match h[a]? with
      | some (.lst xs) => (optAll (xs.map (toPy h n))).map .list
      | _ => none
    | .scr _ => none
section
variable {K : PySem.W.Frag} {m : Mp} {h : HC} {H : Hp}
theorem optAll_dp {n : Nat} (ih : ∀ (d : D) (v : V) (p : PyData), RelD m H d v → toPy h n d = some p → Dp K H v p) : ∀ (ds : List D) (vs : List V) (ps : List PyData), RelDs m H ds vs → optAll (ds.map (toPy h n)) = some ps → DpAll K H vs ps
  | [], vs, ps, r, e => by
    simp only [RelDs] at r
    subst r
    simp [optAll] at e
    subst e
    exact .nil
  | d :: ds, vs, ps, r, e => by
    simp only [RelDs] at r
    obtain ⟨v, vs', rfl, h1, h2⟩ := r
    cases q : toPy h n d with
    | none => simp [optAll, q] at e
    | some p =>
      cases q2 : optAll (ds.map (toPy h n)) with
      | none => simp [optAll, q, q2] at e
      | some ps' =>
        simp [optAll, q, q2] at e
        subst e
        exact .cons (ih d v p h1 q) (optAll_dp ih ds vs' ps' h2 q2)
theorem toPy_ok (S : Sm K m h H) : ∀ (n : Nat) (d : D) (v : V) (p : PyData), RelD m H d v → toPy h n d = some p → Dp K H v p
  | 0, d, v, p, r, e => by simp [toPy] at e
  | n + 1, d, v, p, r, e => by
    cases d with
    | scr _ => simp [toPy] at e
    | non => simp [toPy] at e; simp only [RelD] at r; subst e r; exact .non
    | bl b => simp [toPy] at e; simp only [RelD] at r; subst e r; exact .bl b
    | int i => simp [toPy] at e; simp only [RelD] at r; subst e r; exact .int i
    | str s =>
      simp only [toPy] at e
      simp only [RelD] at r
      split at e
      · cases e; subst r; exact .str s
      · cases e
    | tup xs =>
      simp only [toPy] at e
      simp only [RelD] at r
      obtain ⟨q, vs, rfl, hq, hr⟩ := r
      cases o : optAll (xs.map (toPy h n)) with
      | none => simp [o] at e
      | some ps =>
        simp [o] at e
        subst e
        exact .tup (SqT.of hq) (optAll_dp (fun d v p => toPy_ok S n d v p) xs vs ps hr o)
    | ref a =>
      simp only [toPy] at e
      split at e
      · rename_i xs he
        obtain ⟨b, vs, rfl, _, hb, hr⟩ := S.lst r he
        cases o : optAll (xs.map (toPy h n)) with
        | none => simp [o] at e
        | some ps =>
          simp [o] at e
          subst e
          exact .lst (SqL.of hb) (optAll_dp (fun d v p => toPy_ok S n d v p) xs vs ps hr o)
      · cases e
theorem optAll_lay {n : Nat} (ih : ∀ (d : D) (p : PyData), toPy h n d = some p → p.canLay0 = true ∧ p.depth ≤ n) : ∀ (ds : List D) (ps : List PyData), optAll (ds.map (toPy h n)) = some ps → PyData.canLayAll0 ps = true ∧ PyData.depthAll ps ≤ n
  | [], ps, e => by
    simp [optAll] at e
    subst e
    exact ⟨rfl, Nat.zero_le _⟩
  | d :: ds, ps, e => by
    cases q : toPy h n d with
    | none => simp [optAll, q] at e
    | some p =>
      cases q2 : optAll (ds.map (toPy h n)) with
      | none => simp [optAll, q, q2] at e
      | some ps' =>
        simp [optAll, q, q2] at e
        subst e
        obtain ⟨a1, a2⟩ := ih d p q
        obtain ⟨b1, b2⟩ := optAll_lay ih ds ps' q2
        refine ⟨by simp [PyData.canLayAll0, a1, b1], ?_⟩
        simp only [PyData.depthAll]
        omega
theorem toPy_lay : ∀ (n : Nat) (d : D) (p : PyData), toPy h n d = some p → p.canLay0 = true ∧ p.depth ≤ n
  | 0, d, p, e => by simp [toPy] at e
  | n + 1, d, p, e => by
    cases d with
    | scr _ => simp [toPy] at e
    | non => simp [toPy] at e; subst e; simp [PyData.canLay0, PyData.depth]
    | bl b => simp [toPy] at e; subst e; simp [PyData.canLay0, PyData.depth]
    | int i => simp [toPy] at e; subst e; simp [PyData.canLay0, PyData.depth]
    | str s =>
      simp only [toPy] at e
      split at e
      · rename_i hs
        cases e
        exact ⟨by simpa [PyData.canLay0] using hs, by simp [PyData.depth]⟩
      · cases e
    | tup xs =>
      simp only [toPy] at e
      cases o : optAll (xs.map (toPy h n)) with
      | none => simp [o] at e
      | some ps =>
        simp [o] at e
        subst e
        obtain ⟨b1, b2⟩ := optAll_lay (fun d p => toPy_lay n d p) xs ps o
        exact ⟨by simpa [PyData.canLay0] using b1, by simp only [PyData.depth]; omega⟩
    | ref a =>
      simp only [toPy] at e
      split at e
      · rename_i xs he
        cases o : optAll (xs.map (toPy h n)) with
        | none => simp [o] at e
        | some ps =>
          simp [o] at e
          subst e
          obtain ⟨b1, b2⟩ := optAll_lay (fun d p => toPy_lay n d p) xs ps o
          exact ⟨by simpa [PyData.canLay0] using b1, by simp only [PyData.depth]; omega⟩
      · cases e
theorem toPy_shaped {n : Nat} {d : D} {p : PyData} (hn : n ≤ 64) (e : toPy h n d = some p) : SeqAt.shaped p = true := by
  obtain ⟨a, b⟩ := toPy_lay n d p e
  unfold SeqAt.shaped
  rw [a, decide_eq_true (Nat.le_trans b hn)]
  rfl
end
def opEq : D → D → HC → Res D := fun x y h => match toPy h 9 x, toPy h 9 y with
  | some a, some b => .ok (.bl (PyData.eqv a b)) h
  | _, _ => .bad
def opNe : D → D → HC → Res D := fun x y h => match toPy h 9 x, toPy h 9 y with
  | some a, some b => .ok (.bl (!PyData.eqv a b)) h
  | _, _ => .bad
/-- flat values -/
def flatD : D → Option V
  | .non => some .non
  | .bl b => some (.bl b)
  | .int i => some (.int i)
  | .str s => some (.str s)
  | _ => none
def opInB (neg : Bool) : D → D → HC → Res D
  | .str a, .str z, h => (match a.cps.toList with
    | [c] => .ok (.bl (if neg then !decide (c ∈ z.cps.toList) else decide (c ∈ z.cps.toList))) h
    | _ => .bad)
  | x, .tup ys, h => (match flatD x, optAll (ys.map flatD) with
    | some v, some vs => .ok (.bl (if neg then !inV v vs else inV v vs)) h
    | _, _ => .bad)
  | x, .ref n, h => (match toPy h 9 x, toPy h 9 (.ref n) with
    | some a, some (.list ds) => .ok (.bl (if neg then !(ds.any fun z => PyData.eqv z a) else ds.any fun z => PyData.eqv z a)) h
    | _, _ => .bad)
  | _, _, _ => .bad
abbrev opIn := opInB false
abbrev opNotIn := opInB true
def opIsN : D → D → HC → Res D
  | x, .non, h => .ok (.bl (decide (x = .non))) h
  | _, _, _ => .bad
def opNotN : D → D → HC → Res D
  | x, .non, h => .ok (.bl (!decide (x = .non))) h
  | _, _, _ => .bad
section
variable {K : PySem.W.Frag} {m : Mp} {h : HC} {H : Hp}
theorem os_eq : OpS K (rEqD K) opEq := by
  intro W σ m h H d1 d2 v1 v2 Q S r1 r2 p
  unfold opEq at p
  split at p
  · rename_i a b e1 e2
    exact ⟨a, b, toPy_ok S _ _ _ _ r1 e1, toPy_ok S _ _ _ _ r2 e2, toPy_shaped (by decide) e1, toPy_shaped (by decide) e2, p _ _ _ Ext.refl S (by simp [RelD])⟩
  · exact p.elim
theorem os_ne : OpS K (rNeD K) opNe := by
  intro W σ m h H d1 d2 v1 v2 Q S r1 r2 p
  unfold opNe at p
  split at p
  · rename_i a b e1 e2
    exact ⟨a, b, toPy_ok S _ _ _ _ r1 e1, toPy_ok S _ _ _ _ r2 e2, toPy_shaped (by decide) e1, toPy_shaped (by decide) e2, p _ _ _ Ext.refl S (by simp [RelD])⟩
  · exact p.elim
theorem flatD_ok {d : D} {v v' : V} (e : flatD d = some v') (r : RelD m H d v) : v = v' ∧ flatV v' = true := by
  cases d <;> simp [flatD] at e <;> subst e <;> simp only [RelD] at r <;> subst r <;> exact ⟨rfl, rfl⟩
theorem flatDs_ok : ∀ {ds : List D} {vs vs' : List V}, optAll (ds.map flatD) = some vs' → RelDs m H ds vs → vs = vs' ∧ vs'.all flatV = true
  | [], vs, vs', e, r => by
    simp only [RelDs] at r
    simp [optAll] at e
    subst e r
    exact ⟨rfl, rfl⟩
  | d :: ds, vs, vs', e, r => by
    simp only [RelDs] at r
    obtain ⟨v, ws, rfl, h1, h2⟩ := r
    cases q : flatD d with
    | none => simp [optAll, q] at e
    | some u =>
      cases q2 : optAll (ds.map flatD) with
      | none => simp [optAll, q, q2] at e
      | some us =>
        simp [optAll, q, q2] at e
        subst e
        obtain ⟨a1, a2⟩ := flatD_ok q h1
        obtain ⟨b1, b2⟩ := flatDs_ok q2 h2
        exact ⟨by rw [a1, b1], by simp [a2]; simpa using b2⟩
def rInAll (K : PySem.W.Frag) : R2 := fun x y H Q => rInS x y H Q ∨ rIn K false x y H Q ∨ rInD K x y H Q
def rNotInAll (K : PySem.W.Frag) : R2 := fun x y H Q => rNotInS x y H Q ∨ rIn K true x y H Q ∨ rNotInD K x y H Q
theorem op_inAll {X : Cx} (hu : X.A.units + 65 < cLine) : OpR X (compareOp .In) (rInAll X.K) := op_inS.or (op_in_seq.or (op_inD hu))
theorem op_notInAll {X : Cx} (hu : X.A.units + 65 < cLine) : OpR X (compareOp .NotIn) (rNotInAll X.K) := op_notInS.or (op_notIn_seq.or (op_notInD hu))
theorem sign_eq {a : Str} {c : Nat} (e : a.cps.toList = [c]) : a = ⟨#[c]⟩ := by
  cases a with
  | mk cps =>
    cases cps with
    | mk l =>
      simp at e
      subst e
      rfl
theorem os_in : OpS K (rInAll K) opIn := by
  intro W σ m h H d1 d2 v1 v2 Q S r1 r2 p
  unfold opIn opInB at p
  split at p
  · split at p
    · rename_i c e
      simp only [RelD] at r1 r2
      rw [sign_eq e] at r1
      exact .inl ⟨c, _, r1, r2, p _ _ _ Ext.refl S (by simp [RelD])⟩
    · exact p.elim
  · split at p
    · rename_i v vs e1 e2
      obtain ⟨rfl, f1⟩ := flatD_ok e1 r1
      simp only [RelD] at r2
      obtain ⟨q, us, rfl, hq, hr⟩ := r2
      obtain ⟨rfl, f2⟩ := flatDs_ok e2 hr
      exact .inr (.inl ⟨q, us, rfl, .inr (SqT.of hq), f1, f2, p _ _ _ Ext.refl S (by simp [RelD])⟩)
    · exact p.elim
  · split at p
    · rename_i a ds e1 e2
      exact .inr (.inr ⟨a, ds, toPy_ok S _ _ _ _ r1 e1, toPy_ok S _ _ _ _ r2 e2, toPy_shaped (by decide) e1, toPy_shaped (by decide) e2, p _ _ _ Ext.refl S (by simp [RelD])⟩)
    · exact p.elim
  · exact p.elim
theorem os_notIn : OpS K (rNotInAll K) opNotIn := by
  intro W σ m h H d1 d2 v1 v2 Q S r1 r2 p
  unfold opNotIn opInB at p
  split at p
  · split at p
    · rename_i c e
      simp only [RelD] at r1 r2
      rw [sign_eq e] at r1
      exact .inl ⟨c, _, r1, r2, p _ _ _ Ext.refl S (by simp [RelD])⟩
    · exact p.elim
  · split at p
    · rename_i v vs e1 e2
      obtain ⟨rfl, f1⟩ := flatD_ok e1 r1
      simp only [RelD] at r2
      obtain ⟨q, us, rfl, hq, hr⟩ := r2
      obtain ⟨rfl, f2⟩ := flatDs_ok e2 hr
      exact .inr (.inl ⟨q, us, rfl, .inr (SqT.of hq), f1, f2, p _ _ _ Ext.refl S (by simp [RelD])⟩)
    · exact p.elim
  · split at p
    · rename_i a ds e1 e2
      exact .inr (.inr ⟨a, ds, toPy_ok S _ _ _ _ r1 e1, toPy_ok S _ _ _ _ r2 e2, toPy_shaped (by decide) e1, toPy_shaped (by decide) e2, p _ _ _ Ext.refl S (by simp [RelD])⟩)
    · exact p.elim
  · exact p.elim
theorem RelD.non_iff {d : D} {v : V} (r : RelD m H d v) : decide (v = .non) = decide (d = .non) := by
  cases d <;> simp only [RelD] at r
  · subst r; simp
  · subst r; simp
  · subst r; simp
  · subst r; simp
  · obtain ⟨p, vs, rfl, _⟩ := r; simp
  · obtain ⟨a, _, rfl⟩ := r; simp
  · obtain ⟨rfl, _⟩ := r; simp
theorem os_isN : OpS K rIsN opIsN := by
  intro W σ m h H d1 d2 v1 v2 Q S r1 r2 p
  unfold opIsN at p
  split at p
  · simp only [RelD] at r2
    exact ⟨r2, by rw [r1.non_iff]; exact p _ _ _ Ext.refl S (by simp [RelD])⟩
  · exact p.elim
theorem os_notN : OpS K rNotN opNotN := by
  intro W σ m h H d1 d2 v1 v2 Q S r1 r2 p
  unfold opNotN at p
  split at p
  · simp only [RelD] at r2
    exact ⟨r2, by rw [r1.non_iff]; exact p _ _ _ Ext.refl S (by simp [RelD])⟩
  · exact p.elim
end

/-! ### truth and tests -/
def truD (h : HC) : D → Option Bool
  | .non => some false
  | .bl b => some b
  | .int i => some (i != 0)
  | .str s => if s.length ≤ BIG then some ((s.length : Int) != 0) else none
  | .tup xs => some (!xs.isEmpty)
  | .ref n => match h[n]? with
    | some (.lst xs) => some (!xs.isEmpty)
    | some (.dk xs) => some (!xs.isEmpty)
    | _ => none
  | .scr _ => none
theorem RelDs.isEmpty {m : Mp} {H : Hp} {ds : List D} {vs : List V} (r : RelDs m H ds vs) : ds.isEmpty = vs.isEmpty := by
  have := r.len
  cases ds <;> cases vs <;> simp_all
theorem RelK.isEmpty {κ : Type} {m : Mp} {H : Hp} {ds : List (κ × D)} {vs : List (κ × V)} (r : RelK m H ds vs) : ds.isEmpty = vs.isEmpty := by
  cases ds with
  | nil => simp only [RelK] at r; subst r; rfl
  | cons d ds =>
    simp only [RelK] at r
    obtain ⟨v, vs', rfl, _⟩ := r
    rfl
theorem truD_ok {K : PySem.W.Frag} {m : Mp} {h : HC} {H : Hp} {d : D} {v : V} {b : Bool} (S : Sm K m h H) (r : RelD m H d v) (e : truD h d = some b) : TruV K v H b := by
  cases d with
  | scr _ => simp [truD] at e
  | non => simp [truD] at e; simp only [RelD] at r; subst e r; rfl
  | bl b => simp [truD] at e; simp only [RelD] at r; subst e r; rfl
  | int i => simp only [truD, Option.some.injEq] at e; simp only [RelD] at r; subst r; exact e.symm
  | str s =>
    simp only [truD] at e
    simp only [RelD] at r
    subst r
    split at e
    · rename_i hl
      cases e
      exact ⟨Nat.le_trans hl big_le, rfl⟩
    · cases e
  | tup xs =>
    simp only [truD, Option.some.injEq] at e
    simp only [RelD] at r
    obtain ⟨p, vs, rfl, hp, hr⟩ := r
    exact .inr (.inl ⟨vs, SqT.of hp, by rw [← e, hr.isEmpty]⟩)
  | ref n =>
    simp only [truD] at e
    simp only [RelD] at r
    obtain ⟨a, ha, rfl⟩ := r
    split at e
    · rename_i xs hx
      obtain ⟨vs, hv, hr⟩ := S.cell n _ a hx ha
      cases e
      exact .inl ⟨vs, SqL.of hv, by rw [hr.isEmpty]⟩
    · rename_i xs hx
      obtain ⟨vs, hv, hr⟩ := S.cell n _ a hx ha
      cases e
      exact .inr (.inr ⟨vs, hv, by rw [hr.isEmpty]⟩)
    · cases e
def fTru (a : EE) : ET := fun s h => (a s h).bind fun x h1 => match truD h1 x with
  | some b => .ok b h1
  | none => .bad
def fNot (a : ET) : ET := fun s h => (a s h).bind fun b h1 => .ok (!b) h1
def fAnd (a b : ET) : ET := fun s h => (a s h).bind fun x h1 => if x = true then b s h1 else .ok false h1
def fOr (a b : ET) : ET := fun s h => (a s h).bind fun x h1 => if x = true then .ok true h1 else b s h1
/-- as values -/
def fNotV (a : EE) : EE := fun s h => (a s h).bind fun x h1 => match truD h1 x with
  | some b => .ok (.bl (!b)) h1
  | none => .bad
def fAndV (a b : EE) : EE := fun s h => (a s h).bind fun x h1 => match truD h1 x with
  | some k => if k = true then b s h1 else .ok x h1
  | none => .bad
def fOrV (a b : EE) : EE := fun s h => (a s h).bind fun x h1 => match truD h1 x with
  | some k => if k = true then .ok x h1 else b s h1
  | none => .bad
def fIf (c : ET) (a b : EE) : EE := fun s h => (c s h).bind fun x h1 => if x = true then a s h1 else b s h1
def fChain (op op' : D → D → HC → Res D) (a b c : EE) : EE := fun s h => (a s h).bind fun x h1 => (b s h1).bind fun y h2 => (op x y h2).bind fun z h3 => match z with
  | .bl true => (c s h3).bind fun w h4 => op' y w h4
  | .bl false => .ok (.bl false) h3
  | _ => .bad
section
variable {X : Cx} {W : WX} {a b c : Expr} {fa fb fc : EE} {ga gb gc : ET} {pos : Pos} {rest : List Expr}
theorem st_tru (ha : PE X a (rE X.K W fa)) (he : ∀ whole, isTrue a X.env whole = (do let v ← whole; standAt a.pos; holding [v] (truthy v)) := by intro _; rfl) : PT X a (rT X.K W (fTru fa)) :=
  PTw (pt_truth ha he) fun σ H Q q => rd_mono (rd_bind (R := RelD) (f := fa) (g := fun x s h1 => match truD h1 x with | some b => .ok b h1 | none => .bad) q) fun x H1 ⟨m1, s, h1, d1, S1, r1, q1, p1⟩ => by
    split at p1
    · rename_i k e
      exact ⟨k, truD_ok S1 q1 e, p1 _ _ _ Ext.refl S1 rfl⟩
    · exact p1.elim
/-- a comparison as a test: its answer is a bool -/
def fBo (a : EE) : ET := fun s h => (a s h).bind fun x h1 => match x with
  | .bl b => .ok b h1
  | _ => .bad
theorem tTest_of {K : PySem.W.Frag} {t : TE} (w : ∀ σ H Q, rE K W fa σ H Q → t σ H Q) (σ : L2.St) (H : Hp) (Q : Bool → Hp → Prop) (q : rT K W (fBo fa) σ H Q) : tTest t σ H Q := by
  refine w σ H _ (rd_mono (rd_bind (R := RelD) (f := fa) (g := fun x s h1 => match x with | .bl b => .ok b h1 | _ => .bad) q) fun x H1 ⟨m1, s, h1, d1, S1, r1, q1, p1⟩ => ?_)
  split at p1
  · simp only [RelD] at q1
    exact ⟨_, q1, p1 _ _ _ Ext.refl S1 rfl⟩
  · exact p1.elim
theorem st_not (ha : PT X a (rT X.K W ga)) : PT X (.UnaryOp .Not a pos) (rT X.K W (fNot ga)) :=
  PTw (pt_not ha) fun σ H Q q => rd_mono (rd_bind (R := RelB) (f := ga) (g := fun b s h1 => .ok (!b) h1) q) fun x H1 ⟨m1, s, h1, d1, S1, r1, q1, p1⟩ => by
    obtain rfl : d1 = x := q1
    exact p1 _ _ _ Ext.refl S1 rfl
theorem sw_and1 (ha : PT X a (rT X.K W ga)) : PW X (.BoolOp .And [a] pos) (rT X.K W ga) := pw_and1 ha
theorem sw_or1 (ha : PT X a (rT X.K W ga)) : PW X (.BoolOp .Or [a] pos) (rT X.K W ga) := pw_or1 ha
theorem sw_and (ha : PT X a (rT X.K W ga)) (hb : PW X (.BoolOp .And (b :: rest) pos) (rT X.K W gb)) : PW X (.BoolOp .And (a :: b :: rest) pos) (rT X.K W (fAnd ga gb)) :=
  PWw (pw_and ha hb) fun σ H Q q => rd_mono (rd_bind (R := RelB) (f := ga) (g := fun x s h1 => if x = true then gb s h1 else .ok false h1) q) fun x H1 ⟨m1, s, h1, d1, S1, r1, q1, p1⟩ => by
    obtain rfl : d1 = x := q1
    cases d1 with
    | true => exact ⟨m1, s, h1, S1, r1, p1⟩
    | false => exact p1 _ _ _ Ext.refl S1 rfl
theorem sw_or (ha : PT X a (rT X.K W ga)) (hb : PW X (.BoolOp .Or (b :: rest) pos) (rT X.K W gb)) : PW X (.BoolOp .Or (a :: b :: rest) pos) (rT X.K W (fOr ga gb)) :=
  PWw (pw_or ha hb) fun σ H Q q => rd_mono (rd_bind (R := RelB) (f := ga) (g := fun x s h1 => if x = true then .ok true h1 else gb s h1) q) fun x H1 ⟨m1, s, h1, d1, S1, r1, q1, p1⟩ => by
    obtain rfl : d1 = x := q1
    cases d1 with
    | false => exact ⟨m1, s, h1, S1, r1, p1⟩
    | true => exact p1 _ _ _ Ext.refl S1 rfl
theorem se_notV (ha : PE X a (rE X.K W fa)) : PE X (.UnaryOp .Not a pos) (rE X.K W (fNotV fa)) :=
  PEw (pe_notT ha) fun σ H Q q => rd_mono (rd_bind (R := RelD) (f := fa) (g := fun x s h1 => match truD h1 x with | some b => .ok (D.bl (!b)) h1 | none => .bad) q) fun x H1 ⟨m1, s, h1, d1, S1, r1, q1, p1⟩ => by
    split at p1
    · rename_i k e
      exact ⟨k, truD_ok S1 q1 e, p1 _ _ _ Ext.refl S1 (by simp [RelD])⟩
    · exact p1.elim
theorem se_one {op} (h : PE X a (rE X.K W fa)) : PE X (.BoolOp op [a] pos) (rE X.K W fa) := pe_one h
theorem se_andV (ha : PE X a (rE X.K W fa)) (hb : PE X (.BoolOp .And (b :: rest) pos) (rE X.K W fb)) : PE X (.BoolOp .And (a :: b :: rest) pos) (rE X.K W (fAndV fa fb)) :=
  PEw (pe_andT ha hb) fun σ H Q q => rd_mono (rd_bind (R := RelD) (f := fa) (g := fun x s h1 => match truD h1 x with | some k => (if k = true then fb s h1 else .ok x h1) | none => .bad) q) fun x H1 ⟨m1, s, h1, d1, S1, r1, q1, p1⟩ => by
    split at p1
    · rename_i k e
      refine ⟨k, truD_ok S1 q1 e, ?_⟩
      cases k with
      | true => exact ⟨m1, s, h1, S1, r1, p1⟩
      | false => exact p1 _ _ _ Ext.refl S1 q1
    · exact p1.elim
theorem se_orV (ha : PE X a (rE X.K W fa)) (hb : PE X (.BoolOp .Or (b :: rest) pos) (rE X.K W fb)) : PE X (.BoolOp .Or (a :: b :: rest) pos) (rE X.K W (fOrV fa fb)) :=
  PEw (pe_orT ha hb) fun σ H Q q => rd_mono (rd_bind (R := RelD) (f := fa) (g := fun x s h1 => match truD h1 x with | some k => (if k = true then .ok x h1 else fb s h1) | none => .bad) q) fun x H1 ⟨m1, s, h1, d1, S1, r1, q1, p1⟩ => by
    split at p1
    · rename_i k e
      refine ⟨k, truD_ok S1 q1 e, ?_⟩
      cases k with
      | false => exact ⟨m1, s, h1, S1, r1, p1⟩
      | true => exact p1 _ _ _ Ext.refl S1 q1
    · exact p1.elim
theorem se_if (hc : PT X c (rT X.K W gc)) (ha : PE X a (rE X.K W fa)) (hb : PE X b (rE X.K W fb)) : PE X (.IfExp c a b pos) (rE X.K W (fIf gc fa fb)) :=
  PEw (pe_ifExp hc ha hb) fun σ H Q q => rd_mono (rd_bind (R := RelB) (f := gc) (g := fun x s h1 => if x = true then fa s h1 else fb s h1) q) fun x H1 ⟨m1, s, h1, d1, S1, r1, q1, p1⟩ => by
    obtain rfl : d1 = x := q1
    cases d1 with
    | true => exact ⟨m1, s, h1, S1, r1, p1⟩
    | false => exact ⟨m1, s, h1, S1, r1, p1⟩
variable {r r' : R2} {op op' : D → D → HC → Res D}
theorem st_cmp {o : CmpOp} (ho : OpR X (compareOp o) r) (hs : OpS X.K r op) (ha : PE X a (rE X.K W fa)) (hb : PE X b (rE X.K W fb)) (hm : behindInMarks o b = false := by first | exact nomark _ | rfl) :
    PT X (.Compare a [o] [b] pos) (rT X.K W (fBo (fOp op fa fb))) :=
  PTw (pt_cmpR ho ha hb hm) fun σ H Q q => tTest_of (tOp_of hs) σ H Q q
theorem tChain_of {K : PySem.W.Frag} (hs : OpS K r op) (hs' : OpS K r' op') (σ : L2.St) (H : Hp) (Q : VK) (q : rE K W (fChain op op' fa fb fc) σ H Q) : tChain r r' (rE K W fa) (rE K W fb) (rE K W fc) σ H Q := by
  refine rd_mono (rd_bind (R := RelD) (f := fa) (g := fun x s h1 => (fb s h1).bind fun y h2 => (op x y h2).bind fun z h3 => match z with
    | .bl true => (fc s h3).bind fun w h4 => op' y w h4
    | .bl false => .ok (.bl false) h3
    | _ => .bad) q) fun x H1 ⟨m1, s, h1, d1, S1, r1, q1, p1⟩ => ?_
  refine ⟨m1, s, h1, S1, r1, ?_⟩
  cases e : fb s h1 with
  | ok d2 h2 =>
    rw [e] at p1
    intro m2 H2 y E2 S2 q2
    have p2 := post_ext p1 E2
    refine hs W σ m2 h2 H2 d1 d2 x y _ S2 (q1.mono S1 E2) q2 ?_
    dsimp only [Res.bind] at p2
    cases e3 : op d1 d2 h2 with
    | ok z h3 =>
      rw [e3] at p2
      intro m3 H3 zv E3 S3 q3
      have p3 := post_ext p2 E3
      dsimp only at p3
      split at p3
      · simp only [RelD] at q3
        refine ⟨true, q3, ?_⟩
        rw [if_pos rfl]
        refine ⟨m3, s, h3, S3, (r1.mono S1 E2).mono S2 E3, ?_⟩
        cases e4 : fc s h3 with
        | ok d4 h4 =>
          rw [e4] at p3
          exact fun m4 H4 w E4 S4 q4 => hs' W σ m4 h4 H4 d2 d4 y w Q S4 ((q2.mono S2 E3).mono S3 E4) q4 (post_ext p3 E4)
        | exc c h4 => rw [e4] at p3; exact p3
        | bad => rw [e4] at p3; exact p3
      · simp only [RelD] at q3
        exact ⟨false, q3, by rw [if_neg Bool.false_ne_true]; exact p3 _ _ _ Ext.refl S3 (by simp [RelD])⟩
      · exact p3.elim
    | exc c h3 => rw [e3] at p2; exact p2
    | bad => rw [e3] at p2; exact p2
  | exc c h2 =>
    rw [e] at p1
    exact p1
  | bad =>
    rw [e] at p1
    exact p1
theorem se_chain {o o' : CmpOp} (ho : OpR X (compareOp o) r) (hs : OpS X.K r op) (ho' : OpR X (compareOp o') r') (hs' : OpS X.K r' op') (ha : PE X a (rE X.K W fa)) (hb : PE X b (rE X.K W fb)) (hc : PE X c (rE X.K W fc))
    (hm : lastMarks [o, o'] [b, c] = false := by with_unfolding_all rfl) : PE X (.Compare a [o, o'] [b, c] pos) (rE X.K W (fChain op op' fa fb fc)) :=
  PEw (pe_chain ho ho' ha hb hc hm) (tChain_of hs hs')
theorem st_chain {o o' : CmpOp} (ho : OpR X (compareOp o) r) (hs : OpS X.K r op) (ho' : OpR X (compareOp o') r') (hs' : OpS X.K r' op') (ha : PE X a (rE X.K W fa)) (hb : PE X b (rE X.K W fb)) (hc : PE X c (rE X.K W fc))
    (hm : lastMarks [o, o'] [b, c] = false := by with_unfolding_all rfl) : PT X (.Compare a [o, o'] [b, c] pos) (rT X.K W (fBo (fChain op op' fa fb fc))) :=
  PTw (pt_chain ho ho' ha hb hc hm) fun σ H Q q => tTest_of (tChain_of hs hs') σ H Q q
end
end G9

set_option Elab.async false
set_option linter.all false
set_option maxRecDepth 100000
set_option maxHeartbeats 2000000
namespace G9
open PySem PySem.Spec PyProof.Rows L2

/-! ### arguments, displays -/
def fNil : EA := fun _ h => .ok [] h
def fCons (a : EE) (as : EA) : EA := fun s h => (a s h).bind fun x h1 => (as s h1).bind fun xs h2 => .ok (x :: xs) h2
def fTup (as : EA) : EE := fun s h => (as s h).bind fun xs h1 => mkT xs h1
def fLst (as : EA) : EE := fun s h => (as s h).bind fun xs h1 => newL xs h1
section
variable {X : Cx} {W : WX} {e : Expr} {es : List Expr} {fa : EE} {as : EA} {pos : Pos}
theorem sa_nil : PA X [] (rA X.K W fNil) := PAw pa_nil fun σ H Q q => by
  obtain ⟨m, s, h, S, r, p⟩ := q
  exact p _ _ _ Ext.refl S RelDs.nil
theorem sa_cons (ha : PE X e (rE X.K W fa)) (hr : PA X es (rA X.K W as)) (hs : starEach (e :: es) X.env = (false, eval e X.env) :: starEach es X.env := by rfl) : PA X (e :: es) (rA X.K W (fCons fa as)) :=
  PAw (pa_cons ha hr hs) fun σ H Q q => rd_mono (rd_bind (R := RelD) (f := fa) (g := fun x s h1 => (as s h1).bind fun xs h2 => .ok (x :: xs) h2) q) fun x H1 ⟨m1, s, h1, d1, S1, r1, q1, p1⟩ => by
    refine ⟨m1, s, h1, S1, r1, ?_⟩
    cases e : as s h1 with
    | ok ds h2 =>
      rw [e] at p1
      exact fun m2 H2 vs E2 S2 q2 => p1 m2 H2 _ E2 S2 (RelDs.cons (q1.mono S1 E2) q2)
    | exc c h2 => rw [e] at p1; exact p1
    | bad => rw [e] at p1; exact p1
theorem se_tup {x1} (h : PA X es (rA X.K W as)) : PE X (.Tuple es x1 pos) (rE X.K W (fTup as)) :=
  PEw (pe_tup h) fun σ H Q q => rd_mono (rd_bind (R := RelDs) (f := as) (g := fun xs s h1 => mkT xs h1) q) fun x H1 ⟨m1, s, h1, d1, S1, r1, q1, p1⟩ =>
    mkT_ok S1 q1 p1 fun a b _ => ⟨a, b⟩
theorem se_lst (h : PA X es (rA X.K W as)) : PE X (.List es pos) (rE X.K W (fLst as)) :=
  PEw (pe_lst h) fun σ H Q q => rd_mono (rd_bind (R := RelDs) (f := as) (g := fun xs s h1 => newL xs h1) q) fun x H1 ⟨m1, s, h1, d1, S1, r1, q1, p1⟩ =>
    newL_ok S1 q1 p1 fun a b => ⟨a, b⟩
end

/-! ### subscripts -/
def asSeq (h : HC) (n : Nat) : Option (List D) := match h[n]? with
  | some (.lst xs) => some xs
  | _ => none
def opIx : D → D → HC → Res D
  | .tup xs, .int i, h => (match atI xs i with
    | some d => .ok d h
    | none => .bad)
  | .ref n, .int i, h => (match asSeq h n with
    | some xs => (match atI xs i with
      | some d => .ok d h
      | none => .bad)
    | none => .bad)
  | .str z, .int i, h => if z.length ≤ BIG then (match atI z.cps.toList i with
    | some c => .ok (.str ⟨#[c]⟩) h
    | none => .bad) else .bad
  | .scr ns, .int i, h => (match atI ns i with
    | some n => .ok (.int n) h
    | none => .bad)
  | _, _, _ => .bad
section
variable {K : PySem.W.Frag} {m : Mp} {h : HC} {H : Hp}
theorem Sm.seq (S : Sm K m h H) {n : Nat} {v : V} {xs : List D} (r : RelD m H (.ref n) v) (e : asSeq h n = some xs) : ∃ a vs, v = .ref a ∧ m.ad[n]? = some a ∧ SqL K H a vs ∧ RelDs m H xs vs := by
  simp only [RelD] at r
  obtain ⟨a, ha, rfl⟩ := r
  unfold asSeq at e
  split at e
  · rename_i ys hy
    cases e
    obtain ⟨vs, hv, hr⟩ := S.cell n _ a hy ha
    exact ⟨a, vs, rfl, ha, SqL.of hv, hr⟩
  · cases e
theorem atI_rel {ds : List D} {vs : List V} {i : Int} {d : D} (r : RelDs m H ds vs) (e : atI ds i = some d) : ∃ v, atI vs i = some v ∧ RelD m H d v := by
  unfold atI at e ⊢
  rw [← r.len]
  cases q : ixN ds.length i with
  | none => rw [q] at e; cases e
  | some j =>
    rw [q] at e
    exact r.get e
theorem os_ix : OpS K (rIx K) opIx := by
  intro W σ m h H d1 d2 v1 v2 Q S r1 r2 p
  unfold opIx at p
  split at p
  · split at p
    · rename_i xs i d e
      simp only [RelD] at r1 r2
      obtain ⟨q, vs, rfl, hq, hr⟩ := r1
      obtain ⟨v, hv, hd⟩ := atI_rel hr e
      exact .inr (.inl ⟨q, vs, _, v, rfl, r2, SqT.of hq, hv, p _ _ _ Ext.refl S hd⟩)
    · exact p.elim
  · split at p
    · rename_i xs hx
      split at p
      · rename_i d e
        obtain ⟨a, vs, rfl, _, hs, hr⟩ := S.seq r1 hx
        obtain ⟨v, hv, hd⟩ := atI_rel hr e
        simp only [RelD] at r2
        exact .inl ⟨a, vs, _, v, rfl, r2, hs, hv, p _ _ _ Ext.refl S hd⟩
      · exact p.elim
    · exact p.elim
  · split at p
    · rename_i hl
      split at p
      · rename_i c e
        simp only [RelD] at r1 r2
        exact .inr (.inr ⟨_, _, c, r1, r2, Nat.le_trans hl big_le, e, p _ _ _ Ext.refl S (by simp [RelD])⟩)
      · exact p.elim
    · exact p.elim
  · split at p
    · rename_i ns i _ n e
      simp only [RelD] at r1 r2
      obtain ⟨rfl, rfl⟩ := r1
      refine .inl ⟨_, _, i, .int n, rfl, r2, S.scr.sq, ?_, p _ _ _ Ext.refl S (by simp [RelD])⟩
      unfold atI at e ⊢
      rw [List.length_map]
      cases q : ixN m.ns.length i with
      | none => rw [q] at e; cases e
      | some j =>
        rw [q] at e
        simp only [Option.bind] at e ⊢
        simp [e]
    · exact p.elim
  · exact p.elim
end
section
variable {X : Cx} {W : WX} {a b c : Expr} {fa fb fc : EE} {pos : Pos}
theorem se_ix (ha : PE X a (rE X.K W fa)) (hb : PE X b (rE X.K W fb)) (hs : PlainIx b := by intro _ _; rfl) : PE X (.Subscript a b pos) (rE X.K W (fOp opIx fa fb)) :=
  PEw (pe_ix ix_seq ha hb hs) (tOp_of os_ix)
end

/-! ### slices -/
def cutD {α : Type} (xs : List α) (lo hi : Option Int) : List α := (xs.drop (HT.sIx xs.length 0 lo)).take (HT.sIx xs.length xs.length hi - HT.sIx xs.length 0 lo)
abbrev EO := SD → HC → Res (Option Int)
def fNoP : EO := fun _ h => .ok none h
def fPart (a : EE) : EO := fun s h => (a s h).bind fun x h1 => match x with
  | .int i => .ok (some i) h1
  | _ => .bad
def opSl (x : D) (lo hi : Option Int) (h : HC) : Res D := match x with
  | .tup xs => mkT (cutD xs lo hi) h
  | .ref n => (match asSeq h n with
    | some xs => newL (cutD xs lo hi) h
    | none => .bad)
  | .str z => if z.length ≤ BIG then .ok (.str (cutS z lo hi)) h else .bad
  | _ => .bad
def fSl (a : EE) (lo hi : EO) : EE := fun s h => (a s h).bind fun x h1 => (lo s h1).bind fun l h2 => (hi s h2).bind fun u h3 => opSl x l u h3
theorem cut_rel {m : Mp} {H : Hp} {ds : List D} {vs : List V} {lo hi : Option Int} (r : RelDs m H ds vs) : RelDs m H (cutD ds lo hi) (cutV vs lo hi) := by
  unfold cutD cutV
  rw [← r.len]
  exact (r.drop _).take _
def rSlAll (K : PySem.W.Frag) : V → Option Int → Option Int → Hp → VK → Prop := fun x lo hi H Q => rSlA K x lo hi H Q ∨ rSlL K x lo hi H Q ∨ rSlS x lo hi H Q
theorem sl_all {X : Cx} : SlR X (rSlAll X.K) := sl_tupA.or (sl_list.or sl_str)
theorem cutV_whole (vs : List V) (lo hi : Option Int) (h : HT.sIx vs.length 0 lo = 0 ∧ HT.sIx vs.length vs.length hi = vs.length) : cutV vs lo hi = vs := by
  unfold cutV
  rw [h.1, h.2]
  simp
section
variable {X : Cx} {W : WX} {e lo hi : Expr} {f : EE} {fl fh : EO} {p2 pos : Pos}
abbrev rO (K : PySem.W.Frag) (W : WX) (f : EO) : L2.St → Hp → (Option Int → Hp → Prop) → Prop := rd (fun _ _ (a b : Option Int) => a = b) K W f
theorem POw {lo : Option Expr} {t t' : TO} (h : PO X lo t) (w : ∀ σ H Q, t' σ H Q → t σ H Q) : PO X lo t' := ⟨fun pins s σ H Q I q => h.run pins s σ H Q I (w _ _ _ q)⟩
theorem so_none : PO X none (rO X.K W fNoP) := POw po_none fun σ H Q q => by
  obtain ⟨m, s, h, S, r, p⟩ := q
  exact p _ _ _ Ext.refl S rfl
theorem so_some (h : PE X e (rE X.K W f)) : PO X (some e) (rO X.K W (fPart f)) := POw (po_some h) fun σ H Q q => by
  refine rd_mono (rd_bind (R := RelD) (f := f) (g := fun x s h1 => match x with | .int i => .ok (some i) h1 | _ => .bad) q) fun x H1 ⟨m1, s, h1, d1, S1, r1, q1, p1⟩ => ?_
  split at p1
  · simp only [RelD] at q1
    exact ⟨_, q1, p1 _ _ _ Ext.refl S1 rfl⟩
  · exact p1.elim
theorem opSl_ok {K : PySem.W.Frag} {σ : L2.St} {m : Mp} {h : HC} {H : Hp} {d : D} {v : V} {lo hi : Option Int} {Q : VK} (S : Sm K m h H) (r : RelD m H d v) (p : post RelD K W σ m H Q (opSl d lo hi h)) : rSlAll K v lo hi H Q := by
  unfold opSl at p
  split at p
  · simp only [RelD] at r
    obtain ⟨a, vs, rfl, ha, hr⟩ := r
    refine mkT_ok S (cut_rel hr) p fun hl k1 k2 => .inl ⟨a, vs, rfl, SqT.of ha, fun hw => ?_, fun _ => k1⟩
    exact k2 a (by rw [cutV_whole vs lo hi hw]; exact ha)
  · split at p
    · rename_i xs hx
      obtain ⟨a, vs, rfl, _, hs, hr⟩ := S.seq r hx
      exact newL_ok S (cut_rel hr) p fun hl k => .inr (.inl ⟨a, vs, rfl, hs, k⟩)
    · exact p.elim
  · split at p
    · rename_i hl
      simp only [RelD] at r
      exact .inr (.inr ⟨_, r, Nat.le_trans hl big_le, p _ _ _ Ext.refl S (by simp [RelD])⟩)
    · exact p.elim
  · exact p.elim
theorem se_sl {lo hi : Option Expr} (he : PE X e (rE X.K W f)) (hl : PO X lo (rO X.K W fl)) (hh : PO X hi (rO X.K W fh)) : PE X (.Subscript e (.Slice lo hi none p2) pos) (rE X.K W (fSl f fl fh)) :=
  PEw (pe_slice sl_all he hl hh) fun σ H Q q => by
    refine rd_mono (rd_bind (R := RelD) (f := f) (g := fun x s h1 => (fl s h1).bind fun l h2 => (fh s h2).bind fun u h3 => opSl x l u h3) q) fun x H1 ⟨m1, s, h1, d1, S1, r1, q1, p1⟩ => ?_
    have p1' : rd RelD X.K W (fun s h1 => (fl s h1).bind fun l h2 => (fh s h2).bind fun u h3 => opSl d1 l u h3) σ H1 Q := ⟨m1, s, h1, S1, r1, p1⟩
    refine ⟨m1, s, h1, S1, r1, ?_⟩
    cases e2 : fl s h1 with
    | ok l h2 =>
      rw [e2] at p1
      intro m2 H2 l' E2 S2 q2
      obtain rfl : l = l' := q2
      have p2 := post_ext p1 E2
      refine ⟨m2, s, h2, S2, r1.mono S1 E2, ?_⟩
      dsimp only [Res.bind] at p2
      cases e3 : fh s h2 with
      | ok u h3 =>
        rw [e3] at p2
        intro m3 H3 u' E3 S3 q3
        obtain rfl : u = u' := q3
        exact opSl_ok S3 ((q1.mono S1 E2).mono S2 E3) (post_ext p2 E3)
      | exc c h3 => rw [e3] at p2; exact p2
      | bad => rw [e3] at p2; exact p2
    | exc c h2 => rw [e2] at p1; exact p1
    | bad => rw [e2] at p1; exact p1
end

/-! ### calls of built-ins by values -/
/-- r: what the layer asks; f: what it gives -/
def ClS (K : PySem.W.Frag) (r : List V → Hp → VK → Prop) (f : List D → HC → Res D) : Prop :=
  ∀ (W : WX) (σ : L2.St) (m : Mp) (h : HC) (H : Hp) (ds : List D) (vs : List V) (Q : VK), Sm K m h H → RelDs m H ds vs → post RelD K W σ m H Q (f ds h) → r vs H Q
def fCl (f : List D → HC → Res D) (as : EA) : EE := fun s h => (as s h).bind fun xs h1 => f xs h1
theorem tCB_of {K : PySem.W.Frag} {W : WX} {r : List V → Hp → VK → Prop} {f : List D → HC → Res D} {as : EA} (hs : ClS K r f) (σ : L2.St) (H : Hp) (Q : VK) (q : rE K W (fCl f as) σ H Q) : tCB r (rA K W as) σ H Q :=
  rd_mono (rd_bind (R := RelDs) (f := as) (g := fun xs s h1 => f xs h1) q) fun x H1 ⟨m1, s, h1, d1, S1, r1, q1, p1⟩ => hs W σ m1 h1 H1 d1 x Q S1 q1 p1
section
variable {X : Cx} {W : WX} {e : Expr} {es : List Expr} {as : EA} {p pos : Pos} {x : Str} {r : List V → Hp → VK → Prop} {f : List D → HC → Res D} {id T : String}
theorem se_clB (hc : CallR X (.builtin id) r) (hs : ClS X.K r f) (hm : X.mg x = none) (hv : bootBuiltins x = some (.builtin id)) (ha : PA X (e :: es) (rA X.K W as)) (hg : Gl X x := by rfl) (hn : x ≠ "__name__" := by decide) (hdb : (x == ("__debug__" : Str)) = false := by decide)
    (he : starEach (e :: es) X.env = (false, eval e X.env) :: starEach es X.env := by rfl) (hpl : (backTo pos (starEach es X.env)).any (·.1) = false := by rfl) : PE X (.Call (.Name x p) (e :: es) [] pos) (rE X.K W (fCl f as)) :=
  PEw (pe_callB hc hg hm hv ha hn hdb he hpl) (tCB_of hs)
theorem se_clT (hc : CallR X (.type T) r) (hs : ClS X.K r f) (hm : X.mg x = none) (hv : bootBuiltins x = some (.type T)) (ha : PA X (e :: es) (rA X.K W as)) (hg : Gl X x := by rfl) (hn : x ≠ "__name__" := by decide) (hdb : (x == ("__debug__" : Str)) = false := by decide)
    (he : starEach (e :: es) X.env = (false, eval e X.env) :: starEach es X.env := by rfl) (hpl : (backTo pos (starEach es X.env)).any (·.1) = false := by rfl) : PE X (.Call (.Name x p) (e :: es) [] pos) (rE X.K W (fCl f as)) :=
  PEw (pe_callTy hc hg hm hv ha hn hdb he hpl) (tCB_of hs)
end
section
variable {X : Cx} {f : Value} {r r' : List V → Hp → VK → Prop}
theorem CallR.or (h : CallR X f r) (h' : CallR X f r') : CallR X f (fun xs H Q => r xs H Q ∨ r' xs H Q) := by
  intro pins s σ H xs us Q I rx q
  rcases q with q | q
  · exact h pins s σ H xs us Q I rx q
  · exact h' pins s σ H xs us Q I rx q
end
theorem RelDs.one {m : Mp} {H : Hp} {d : D} {vs : List V} (r : RelDs m H [d] vs) : ∃ v, vs = [v] ∧ RelD m H d v := by
  simp only [RelDs] at r
  obtain ⟨v, vs', rfl, h1, h2⟩ := r
  subst h2
  exact ⟨v, rfl, h1⟩
theorem RelDs.two {m : Mp} {H : Hp} {d e : D} {vs : List V} (r : RelDs m H [d, e] vs) : ∃ v w, vs = [v, w] ∧ RelD m H d v ∧ RelD m H e w := by
  simp only [RelDs] at r
  obtain ⟨v, vs', rfl, h1, w, ws, rfl, h2, h3⟩ := r
  subst h3
  exact ⟨v, w, rfl, h1, h2⟩

/-- len -/
def bLen : List D → HC → Res D
  | [.str z], h => if z.length ≤ BIG then .ok (.int z.length) h else .bad
  | [.tup xs], h => .ok (.int xs.length) h
  | [.ref n], h => (match asSeq h n with
    | some xs => .ok (.int xs.length) h
    | none => .bad)
  | [.scr ns], h => .ok (.int ns.length) h
  | _, _ => .bad
def rLenAll (K : PySem.W.Frag) : List V → Hp → VK → Prop := fun xs H Q => (∃ p ys, xs = [.ref p] ∧ (SqL K H p ys ∨ SqT K H p ys) ∧ Q (.int ys.length) H) ∨ ∃ z, xs = [.str z] ∧ z.length ≤ sizeLine ∧ Q (.int z.length) H
theorem call_lenAll {X : Cx} : CallR X (.builtin "len") (rLenAll X.K) := CallR.or call_len_seq call_len_str
theorem cs_len {K : PySem.W.Frag} : ClS K (rLenAll K) bLen := by
  intro W σ m h H ds vs Q S r p
  unfold bLen at p
  split at p
  · obtain ⟨v, rfl, rv⟩ := r.one
    simp only [RelD] at rv
    subst rv
    split at p
    · rename_i hl
      exact .inr ⟨_, rfl, Nat.le_trans hl big_le, p _ _ _ Ext.refl S (by simp [RelD])⟩
    · exact p.elim
  · obtain ⟨v, rfl, rv⟩ := r.one
    simp only [RelD] at rv
    obtain ⟨a, us, rfl, ha, hr⟩ := rv
    exact .inl ⟨a, us, rfl, .inr (SqT.of ha), p _ _ _ Ext.refl S (by simp [RelD, hr.len])⟩
  · split at p
    · rename_i xs hx
      obtain ⟨v, rfl, rv⟩ := r.one
      obtain ⟨a, us, rfl, _, hs, hr⟩ := S.seq rv hx
      exact .inl ⟨a, us, rfl, .inl hs, p _ _ _ Ext.refl S (by simp [RelD, hr.len])⟩
    · exact p.elim
  · obtain ⟨v, rfl, rv⟩ := r.one
    simp only [RelD] at rv
    obtain ⟨rfl, rfl⟩ := rv
    exact .inl ⟨_, _, rfl, .inl S.scr.sq, p _ _ _ Ext.refl S (by simp [RelD])⟩
  · exact p.elim

/-- isinstance of a built-in type -/
def tyName (h : HC) : D → Option String
  | .non => some "NoneType"
  | .bl _ => some "bool"
  | .int _ => some "int"
  | .str _ => some "str"
  | .tup _ => some "tuple"
  | .ref n => match h[n]? with
    | some (.lst _) => some "list"
    | some (.dk _) => some "dict"
    | some (.dt _) => some "dict"
    | _ => none
  | .scr _ => none
/-- the answers that are asked for, by name of type and class -/
def isiT (t c : String) : Option Bool :=
  if c = "int" then (if t = "int" ∨ t = "bool" then some true else if t = "NoneType" ∨ t = "str" ∨ t = "tuple" ∨ t = "list" ∨ t = "dict" then some false else none)
  else if c = "bool" ∨ c = "str" ∨ c = "tuple" ∨ c = "list" then (if t = c then some true else if t = "int" ∨ t = "bool" ∨ t = "NoneType" ∨ t = "str" ∨ t = "tuple" ∨ t = "list" ∨ t = "dict" then some false else none)
  else none
theorem isiT_ok {t c : String} {b : Bool} (e : isiT t c = some b) : kitB t c = some b := by
  unfold isiT at e
  split at e
  · rename_i hc
    subst hc
    split at e
    · rename_i ht
      cases e
      rcases ht with rfl | rfl <;> decide +kernel
    · split at e
      · rename_i ht
        cases e
        rcases ht with rfl | rfl | rfl | rfl | rfl <;> decide +kernel
      · cases e
  · split at e
    · rename_i hc
      split at e
      · rename_i ht
        cases e
        subst ht
        rcases hc with rfl | rfl | rfl | rfl <;> decide +kernel
      · rename_i hne
        split at e
        · rename_i ht
          cases e
          rcases hc with rfl | rfl | rfl | rfl <;> rcases ht with rfl | rfl | rfl | rfl | rfl | rfl | rfl <;> first | exact absurd rfl hne | decide +kernel
        · cases e
    · cases e
def fIsi (c : String) (a : EE) : EE := fun s h => (a s h).bind fun x h1 => match tyName h1 x with
  | some t => (match isiT t c with
    | some b => .ok (.bl b) h1
    | none => .bad)
  | none => .bad
theorem tyName_ok {K : PySem.W.Frag} {m : Mp} {h : HC} {H : Hp} {d : D} {v : V} {t : String} (S : Sm K m h H) (r : RelD m H d v) (e : tyName h d = some t) : TyX K H v (.type t) := by
  cases d with
  | scr _ => simp [tyName] at e
  | non => simp [tyName] at e; simp only [RelD] at r; subst e r; exact .base .non
  | bl b => simp [tyName] at e; simp only [RelD] at r; subst e r; exact .base (.bl b)
  | int i => simp [tyName] at e; simp only [RelD] at r; subst e r; exact .base (.int i)
  | str s => simp [tyName] at e; simp only [RelD] at r; subst e r; exact .base (.str s)
  | tup xs =>
    simp [tyName] at e
    simp only [RelD] at r
    obtain ⟨p, vs, rfl, hp, _⟩ := r
    subst e
    exact .base (.tup hp)
  | ref n =>
    simp only [tyName] at e
    simp only [RelD] at r
    obtain ⟨a, ha, rfl⟩ := r
    split at e <;> (try cases e)
    · rename_i xs hx
      obtain ⟨vs, hv, _⟩ := S.cell n _ a hx ha
      exact .base (.lst hv)
    · rename_i xs hx
      obtain ⟨vs, hv, _⟩ := S.cell n _ a hx ha
      exact .base (.dK hv)
    · rename_i xs hx
      obtain ⟨vs, hv, _⟩ := S.cell n _ a hx ha
      exact .base (.dT hv)
section
variable {X : Cx} {W : WX} {e : Expr} {fa : EE} {p p2 pos : Pos} {x : Str} {c : String}
theorem se_isi (hm : X.mg "isinstance" = none) (hx : X.mg x = none) (hv : bootBuiltins x = some (.type c)) (ha : PE X e (rE X.K W fa)) (hg : Gl X "isinstance" := by rfl) (hgx : Gl X x := by rfl) (hn : x ≠ "__name__" := by decide) (hdb : (x == ("__debug__" : Str)) = false := by decide)
    (he : starEach [e, .Name x p2] X.env = (false, eval e X.env) :: starEach [.Name x p2] X.env := by rfl) (he2 : starEach [.Name x p2] X.env = (false, eval (.Name x p2) X.env) :: starEach [] X.env := by rfl) (hpl : (backTo pos (starEach [.Name x p2] X.env)).any (·.1) = false := by rfl) :
    PE X (.Call (.Name "isinstance" p) [e, .Name x p2] [] pos) (rE X.K W (fIsi c fa)) :=
  PEw (pe_callB call_isi hg hm (by decide +kernel) (pa_cons ha (pa_cons (pe_bltn hgx hx hv (v := .ty c) rfl hn hdb) pa_nil he2) he) (by decide) (by decide) he hpl) fun σ H Q q => by
    refine rd_mono (rd_bind (R := RelD) (f := fa) (g := fun x s h1 => match tyName h1 x with | some t => (match isiT t c with | some b => .ok (D.bl b) h1 | none => .bad) | none => .bad) q) fun x H1 ⟨m1, s, h1, d1, S1, r1, q1, p1⟩ => ?_
    split at p1
    · rename_i t ht
      split at p1
      · rename_i b hb
        exact ⟨x, .ty c, _, _, b, rfl, .ty c, tyName_ok S1 q1 ht, kit_ty (isiT_ok hb), p1 _ _ _ Ext.refl S1 (by simp [RelD])⟩
      · exact p1.elim
    · exact p1.elim
end
end G9

set_option Elab.async false
set_option linter.all false
set_option maxRecDepth 100000
set_option maxHeartbeats 2000000
namespace G9
open PySem PySem.Spec PyProof.Rows L2

/-! ### statements -/
inductive RS where
  | nx (s : SD) (h : HC)
  | ret (d : D) (h : HC)
  | bk (s : SD) (h : HC)
  | ct (s : SD) (h : HC)
  | exc (c : Str) (s : SD) (h : HC)
  | bad
abbrev ES := SD → HC → RS
def ofR {α : Type} (s : SD) (r : Res α) (k : α → HC → RS) : RS := match r with
  | .ok a h => k a h
  | .exc c h => .exc c s h
  | .bad => .bad
def postS (K : PySem.W.Frag) (W : WX) (m : Mp) (H : Hp) (En : Ends) : RS → Prop
  | .nx s h => ∀ m' H' σ', Ext m m' H H' → Sm K m' h H' → Rs m' H' s σ' → En.nx σ' H'
  | .ret d h => ∀ m' H' v, Ext m m' H H' → Sm K m' h H' → RelD m' H' d v → En.rt v H'
  | .bk s h => ∀ m' H' σ', Ext m m' H H' → Sm K m' h H' → Rs m' H' s σ' → En.bk σ' H'
  | .ct s h => ∀ m' H' σ', Ext m m' H H' → Sm K m' h H' → Rs m' H' s σ' → En.ct σ' H'
  | .exc c s h => ∀ m' H' σ', Ext m m' H H' → Sm K m' h H' → Rs m' H' s σ' → W (.ref (He.ga K c)) none σ' H'
  | .bad => False
def rS (K : PySem.W.Frag) (W : WX) (f : ES) : TS := fun En σ H => ∃ m s h, Sm K m h H ∧ Rs m H s σ ∧ postS K W m H En (f s h)
section
variable {α β : Type} {R : Mp → Hp → α → β → Prop} {K : PySem.W.Frag} {W : WX} {σ : L2.St} {m m1 : Mp} {H H1 : Hp} {En En' : Ends}
theorem postS_ext {r : RS} (p : postS K W m H En r) (E : Ext m m1 H H1) : postS K W m1 H1 En r := by
  cases r with
  | nx s h => exact fun m' H' b e S q => p m' H' b (E.trans e) S q
  | ret s h => exact fun m' H' b e S q => p m' H' b (E.trans e) S q
  | bk s h => exact fun m' H' b e S q => p m' H' b (E.trans e) S q
  | ct s h => exact fun m' H' b e S q => p m' H' b (E.trans e) S q
  | exc c s h => exact fun m' H' b e S q => p m' H' b (E.trans e) S q
  | bad => exact p
theorem rS_bind {f : SD → HC → Res α} {g : α → SD → HC → RS} (p : rS K W (fun s h => ofR s (f s h) fun a h1 => g a s h1) En σ H) :
    rd R K W f σ H (fun b H1 => ∃ m1 s h1 a, Sm K m1 h1 H1 ∧ Rs m1 H1 s σ ∧ R m1 H1 a b ∧ postS K W m1 H1 En (g a s h1)) := by
  obtain ⟨m, s, h, S, r, p⟩ := p
  refine ⟨m, s, h, S, r, ?_⟩
  dsimp only at p
  cases e : f s h with
  | ok a h1 =>
    rw [e] at p
    exact fun m' H' b E S' q => ⟨m', s, h1, a, S', r.mono S E, q, postS_ext p E⟩
  | exc c h1 =>
    rw [e] at p
    exact fun m' H' E S' => p m' H' σ E S' (r.mono S E)
  | bad =>
    rw [e] at p
    exact p
theorem Rs.set {s : SD} {i : Nat} {d : D} {v : V} (r : Rs m H s σ) (q : RelD m H d v) : Rs m H (s.set i (some d)) (σ.set i (some v)) := by
  refine ⟨by simpa using r.1, fun j d' e => ?_⟩
  by_cases hj : i = j
  · subst hj
    have hl : i < s.length := by
      have := (List.getElem?_eq_some_iff.mp e).1
      simpa using this
    rw [List.getElem?_set_self hl] at e
    cases e
    exact ⟨v, by rw [List.getElem?_set_self (by rw [← r.1]; exact hl)], q⟩
  · rw [List.getElem?_set_ne hj] at e ⊢
    exact r.2 j d' e
end

def fNx : ES := fun s h => .nx s h
def fSeq (f g : ES) : ES := fun s h => match f s h with
  | .nx s1 h1 => g s1 h1
  | r => r
def fExpr (a : EE) : ES := fun s h => ofR s (a s h) fun _ h1 => .nx s h1
def fRet (a : EE) : ES := fun s h => ofR s (a s h) fun d h1 => .ret d h1
def fRetN : ES := fun _ h => .ret .non h
def fIfS (c : ET) (a b : ES) : ES := fun s h => ofR s (c s h) fun x h1 => if x = true then a s h1 else b s h1
def fSet (i : Nat) (a : EE) : ES := fun s h => ofR s (a s h) fun d h1 => .nx (s.set i (some d)) h1
def fRaise (c : Str) : ES := fun s h => .exc c s h
section
variable {X : Cx} {W : WX} {e : Expr} {st : Stmt} {rest : List Stmt} {fa : EE} {f g : ES} {pos : Pos}
theorem ss_nil : PSs X [] (rS X.K W fNx) := PSsw pss_nil fun En σ H q => by
  obtain ⟨m, s, h, S, r, p⟩ := q
  exact p _ _ _ Ext.refl S r
theorem ss_pass : PS X (.Pass pos) (rS X.K W fNx) := PSw ps_pass fun En σ H q => by
  obtain ⟨m, s, h, S, r, p⟩ := q
  exact p _ _ _ Ext.refl S r
theorem ss_cons (h1 : PS X st (rS X.K W f)) (h2 : PSs X rest (rS X.K W g)) : PSs X (st :: rest) (rS X.K W (fSeq f g)) := PSsw (pss_cons h1 h2) fun En σ H q => by
  obtain ⟨m, s, h, S, r, p⟩ := q
  refine ⟨m, s, h, S, r, ?_⟩
  unfold fSeq at p
  cases e : f s h with
  | nx s1 h1 =>
    rw [e] at p
    exact fun m' H' σ' E S' r' => ⟨m', s1, h1, S', r', postS_ext p E⟩
  | ret s1 h1 => rw [e] at p; exact p
  | bk s1 h1 => rw [e] at p; exact p
  | ct s1 h1 => rw [e] at p; exact p
  | exc c s1 h1 => rw [e] at p; exact p
  | bad => rw [e] at p; exact p
theorem ss_one (h1 : PS X st (rS X.K W f)) : PSs X [st] (rS X.K W f) := pss_one h1
theorem ss_expr (he : PE X e (rE X.K W fa)) (hs : swapsWith e none pos.line X.env = pure false := by rfl) : PS X (.Expr e pos) (rS X.K W (fExpr fa)) := PSw (ps_expr he hs) fun En σ H q => by
  refine rd_mono (rS_bind (R := RelD) (f := fa) (g := fun d s h1 => .nx s h1) q) fun x H1 ⟨m1, s, h1, d1, S1, r1, q1, p1⟩ => ?_
  exact p1 _ _ _ Ext.refl S1 r1
theorem ss_ret (he : PE X e (rE X.K W fa)) : PS X (.Return (some e) pos) (rS X.K W (fRet fa)) := PSw (ps_ret he) fun En σ H q => by
  refine rd_mono (rS_bind (R := RelD) (f := fa) (g := fun d s h1 => .ret d h1) q) fun x H1 ⟨m1, s, h1, d1, S1, r1, q1, p1⟩ => ?_
  exact p1 _ _ _ Ext.refl S1 q1
theorem ss_retN : PS X (.Return none pos) (rS X.K W fRetN) := PSw ps_retN fun En σ H q => by
  obtain ⟨m, s, h, S, r, p⟩ := q
  exact p _ _ _ Ext.refl S (by simp [RelD])
theorem ss_if {c : Expr} {a b : List Stmt} {gc : ET} (hc : PT X c (rT X.K W gc)) (ha : PSs X a (rS X.K W f)) (hb : PSs X b (rS X.K W g)) : PS X (.If c a b pos) (rS X.K W (fIfS gc f g)) := PSw (ps_if hc ha hb) fun En σ H q => by
  refine rd_mono (rS_bind (R := RelB) (f := gc) (g := fun x s h1 => if x = true then f s h1 else g s h1) q) fun x H1 ⟨m1, s, h1, d1, S1, r1, q1, p1⟩ => ?_
  obtain rfl : d1 = x := q1
  cases d1 with
  | true => exact ⟨m1, s, h1, S1, r1, p1⟩
  | false => exact ⟨m1, s, h1, S1, r1, p1⟩
theorem ss_set {i : Nat} {x : Str} {pos' : Pos} (hN : X.N.Nodup) (he : PE X e (rE X.K W fa)) (hi : X.N[i]? = some x := by rfl) (hx : Loc X.env.scope x := by first | exact Or.inl rfl | exact Or.inr rfl) (hs : swapsWith e (some (.Name x pos')) pos.line X.env = pure false := by rfl) (hf : X.fn x = true ∨ X.env.scope.names.lookup x = some .local := by first | exact .inl rfl | exact .inr rfl | assumption) :
    PS X (.Assign [.Name x pos'] e pos) (rS X.K W (fSet i fa)) := PSw (ps_set hN hi hx he hs hf) fun En σ H q => by
  refine rd_mono (rS_bind (R := RelD) (f := fa) (g := fun d s h1 => .nx (s.set i (some d)) h1) q) fun x H1 ⟨m1, s, h1, d1, S1, r1, q1, p1⟩ => ?_
  exact p1 _ _ _ Ext.refl S1 (r1.set q1)
end

/-! ### a def -/
def fnRun (n : Nat) (body : ES) (ds : List D) (h : HC) : Res D := match body (ds.map some ++ List.replicate (n - ds.length) none) h with
  | .nx _ h' => .ok .non h'
  | .ret d h' => .ok d h'
  | .exc c _ h' => .exc c h'
  | _ => .bad
def postF (K : PySem.W.Frag) (m : Mp) (H : Hp) (Q : VK) (E : XK) : Res D → Prop
  | .ok d h' => ∀ m' H' v, Ext m m' H H' → Sm K m' h' H' → RelD m' H' d v → Q v H'
  | .exc c h' => ∀ m' H', Ext m m' H H' → Sm K m' h' H' → E (.ref (He.ga K c)) none H'
  | .bad => False
def spF (K : PySem.W.Frag) (fm : List D → HC → Res D) (n : Nat) : Sp := fun vs H Q E => ∃ m h ds, Sm K m h H ∧ RelDs m H ds vs ∧ ds.length = n ∧ postF K m H Q E (fm ds h)
theorem rs_start {m : Mp} {H : Hp} {N : List Str} : ∀ {ds : List D} {vs : List V}, RelDs m H ds vs → Rs m H (ds.map some ++ List.replicate (N.length - ds.length) none) (L2.start N vs) := by
  intro ds vs r
  unfold L2.start
  have hl := r.len
  refine ⟨by simp [hl], fun i d e => ?_⟩
  by_cases hi : i < ds.length
  · rw [List.getElem?_append_left (by simpa using hi), List.getElem?_map] at e
    cases q : ds[i]? with
    | none => rw [q] at e; cases e
    | some d' =>
      rw [q] at e
      simp at e
      subst e
      obtain ⟨v, hv, hr⟩ := r.get q
      refine ⟨v, ?_, hr⟩
      rw [List.getElem?_append_left (by simp; omega), List.getElem?_map, hv]
      rfl
  · rw [List.getElem?_append_right (by simpa using hi)] at e
    have := List.mem_of_getElem? e
    simp at this
section
variable {P : Program} {w : World} {K : PySem.W.Frag} {mg : Str → Option Value} {base : Heap}
theorem fn_ok {x qual : Str} {params : Arguments} {body : List Stmt} {scope : Scope} {dvs : List V} {kws : List (Str × V)} {f : Addr} {fd : FuncData} {N ps : List Str} {k : Nat} {fb : ES} (F : FunD K x qual params body scope dvs kws f fd) (S : FnScope N ps scope)
    (hb : ∀ (cdv : Value) (A : Around) (outer : List Env) (s : Shared) (H : Hp) (E : XK), Room k (A.deeper (envOfC qual scope s.heap.objs.size f cdv)) →
      PSs (cxOf (L2.CX P w) P w K mg base N qual scope f cdv A outer s H E) body (rS K (fun cls d _ H => E cls d H) fb)) :
    FnOk P w K mg base (L2.CX P w) (k + 1) f fd ps (spF K (fnRun N.length fb) ps.length) := by
  refine F.ok S (fun vs H Q E h => ?_) (fun cdv A outer s H vs Q E hr h => ⟨_, hb cdv A outer s H E hr, ?_⟩)
  · obtain ⟨m, h, ds, S, r, l, _⟩ := h
    rw [← r.len, l]
  · obtain ⟨m, h, ds, S, r, l, p⟩ := h
    refine ⟨m, _, h, S, rs_start r, ?_⟩
    unfold fnRun at p
    cases e : fb (ds.map some ++ List.replicate (N.length - ds.length) none) h with
    | nx s1 h1 =>
      rw [e] at p
      exact fun m' H' σ' E S' r' => p m' H' .non E S' (by simp [RelD])
    | ret d h1 =>
      rw [e] at p
      exact fun m' H' v E S' r' => p m' H' v E S' r'
    | bk s1 h1 => rw [e] at p; exact p.elim
    | ct s1 h1 => rw [e] at p; exact p.elim
    | exc c s1 h1 =>
      rw [e] at p
      exact fun m' H' σ' E S' r' => p m' H' E S'
    | bad => rw [e] at p; exact p.elim
/-- a def that may be called by its name -/
structure Fn (P : Program) (w : World) (K : PySem.W.Frag) (mg : Str → Option Value) (base : Heap) (x : Str) (k n : Nat) (fm : List D → HC → Res D) : Prop where
  ex : ∃ (f : Addr) (fd : FuncData) (ps : List Str), FnOk P w K mg base (L2.CX P w) k f fd ps (spF K fm n) ∧ mg x = some (.ref f) ∧ PySem.W.keepIn K (.ref f) = true ∧ Binds K fd ps []
end
def fCall (n : Nat) (fm : List D → HC → Res D) (as : EA) : EE := fun s h => (as s h).bind fun ds h1 => if ds.length = n then fm ds h1 else .bad
section
variable {X : Cx} {W : WX} {e : Expr} {es : List Expr} {as : EA} {x : Str} {k n : Nat} {fm : List D → HC → Res D} {p pos : Pos}
theorem postF_of {K : PySem.W.Frag} {σ : L2.St} {m : Mp} {H : Hp} {Q : VK} {r : Res D} (q : post RelD K W σ m H Q r) : postF K m H Q (WE W σ) r := by
  cases r with
  | ok d h => exact q
  | exc c h => exact q
  | bad => exact q
theorem se_call (F : Fn X.prog X.w X.K X.mg X.base x k n fm) (hr : Room k X.A) (tk : Takes X W) (ha : PA X (e :: es) (rA X.K W as)) (hg : Gl X x := by rfl) (hdb : (x == ("__debug__" : Str)) = false := by decide)
    (he : starEach (e :: es) X.env = (false, eval e X.env) :: starEach es X.env := by rfl) (hpl : (backTo pos (starEach es X.env)).any (·.1) = false := by rfl) : PE X (.Call (.Name x p) (e :: es) [] pos) (rE X.K W (fCall n fm as)) := by
  obtain ⟨f, fd, ps, G, hm, hk, hb⟩ := F.ex
  refine PEw (pe_callS G hr hg hm hk hb (fun σ => passAt tk σ) ha hdb he hpl) fun σ H Q q => ?_
  refine rd_mono (rd_bind (R := RelDs) (f := as) (g := fun ds s h1 => if ds.length = n then fm ds h1 else .bad) q) fun x H1 ⟨m1, s, h1, d1, S1, r1, q1, p1⟩ => ?_
  split at p1
  · rename_i hl
    exact ⟨m1, h1, d1, S1, q1, hl, postF_of p1⟩
  · exact p1.elim
end

/-! ### own errors -/
structure ExF (K : PySem.W.Frag) (mg : Str → Option Value) (c : Str) : Prop where
  q : PySem.W.excIn K (He.ga K c) He.veBase "ValueError.__new__" = true
  g : mg c = some (.ref (He.ga K c))
  k : PySem.W.keepIn K (.ref (He.ga K c)) = true
  b : PySem.W.subIn K (.ref (He.ga K c)) (.type "BaseException") = some true
  t : PySem.W.typeIn K (.ref (He.ga K c)) = some (.type "type")
section
variable {X : Cx} {W : WX} {c m : Str} {j : Nat} {p p2 p3 pos : Pos}
theorem ss_raise (F : ExF X.K X.mg c) (hc : X.calm = true) (tk : Takes X W) (hg : Gl X c := by rfl) (hdb : (c == ("__debug__" : Str)) = false := by decide) :
    PS X (.Raise (some (.Call (.Name c p) [.Constant (.str m) j p2] [] p3)) none pos) (rS X.K W (fRaise c)) :=
  PSw (ps_raise hc tk (pmk_own PySem.F.excBase_ValueError F.q F.g F.k (raises_own F.b F.t) hg hdb)) fun En σ H q => by
    obtain ⟨m, s, h, S, r, p⟩ := q
    exact p _ _ _ Ext.refl S r
end
end G9

set_option Elab.async false
set_option linter.all false
set_option maxRecDepth 100000
set_option maxHeartbeats 2000000
namespace G9
open PySem PySem.Spec PyProof.Rows L2

/-! ### targets that are names -/
abbrev EG := D → SD → Option SD
abbrev EGs := List D → SD → Option SD
def gN (i : Nat) : EG := fun d s => some (s.set i (some d))
def gT (g : EGs) : EG := fun d s => match d with
  | .tup xs => g xs s
  | _ => none
def gsN : EGs := fun ds s => match ds with
  | [] => some s
  | _ => none
def gsC (g : EG) (gs : EGs) : EGs := fun ds s => match ds with
  | d :: r => (g d s).bind fun s1 => gs r s1
  | [] => none
theorem wipe_get (σ : L2.St) : ∀ (vs : List Nat) (j : Nat), (wipe σ vs)[j]? = if j ∈ vs then (σ[j]?).map (fun _ => none) else σ[j]?
  | [], j => by simp [wipe]
  | v :: vs, j => by
    unfold wipe
    by_cases hj : v = j
    · subst hj
      by_cases hl : v < σ.length
      · rw [List.getElem?_set_self (by rw [wipe_length]; exact hl), if_pos List.mem_cons_self]
        simp [hl]
      · have e1 : σ[v]? = none := List.getElem?_eq_none (by omega)
        have e2 : ((wipe σ vs).set v none)[v]? = none := List.getElem?_eq_none (by rw [List.length_set, wipe_length]; omega)
        rw [e1, e2]
        simp
    · rw [List.getElem?_set_ne hj, wipe_get σ vs j]
      have hj2 : ¬ j = v := fun e => hj e.symm
      simp [hj2]
theorem wipe_set {σ : L2.St} {vs : List Nat} {i : Nat} {x : Option V} (hi : i ∈ vs) : wipe (σ.set i x) vs = wipe σ vs := by
  apply List.ext_getElem?
  intro j
  rw [wipe_get, wipe_get]
  by_cases hj : i = j
  · subst hj
    rw [if_pos hi, if_pos hi]
    by_cases hl : i < σ.length
    · rw [List.getElem?_set_self hl]
      simp [hl]
    · rw [List.getElem?_eq_none (by rw [List.length_set]; omega), List.getElem?_eq_none (by omega)]
  · rw [List.getElem?_set_ne hj]
def rG (K : PySem.W.Frag) (vs : List Nat) (g : EG) : TG := fun v σ H Q => ∃ m s h d s', Sm K m h H ∧ Rs m H s σ ∧ RelD m H d v ∧ g d s = some s' ∧ ∀ σ', Rs m H s' σ' → wipe σ' vs = wipe σ vs → Q σ' H
def rGs (K : PySem.W.Frag) (vs : List Nat) (g : EGs) : TGs := fun v σ H Q => ∃ m s h d s', Sm K m h H ∧ Rs m H s σ ∧ RelDs m H d v ∧ g d s = some s' ∧ ∀ σ', Rs m H s' σ' → wipe σ' vs = wipe σ vs → Q σ' H
section
variable {X : Cx} {e : Expr} {es : List Expr} {g : EG} {gs : EGs} {vs : List Nat} {pos : Pos}
theorem PGw {t t' : TG} (h : PG X e t) (w : ∀ v σ H Q, t' v σ H Q → t v σ H Q) : PG X e t' := ⟨fun pins s σ H v u Q I r q => h.run pins s σ H v u Q I r (w _ _ _ _ q)⟩
theorem PGsw {t t' : TGs} (h : PGs X es t) (w : ∀ v σ H Q, t' v σ H Q → t v σ H Q) : PGs X es t' := ⟨fun pins s σ H v u Q I r q => h.run pins s σ H v u Q I r (w _ _ _ _ q)⟩
theorem sg_name {i : Nat} {x : Str} (hN : X.N.Nodup) (hv : i ∈ vs := by decide) (hi : X.N[i]? = some x := by rfl) (hx : Loc X.env.scope x := by first | exact Or.inl rfl | exact Or.inr rfl) (hf : X.fn x = true ∨ X.env.scope.names.lookup x = some .local := by first | exact .inl rfl | exact .inr rfl | assumption) :
    PG X (.Name x pos) (rG X.K vs (gN i)) := PGw (pg_name hN hi hx hf) fun v σ H Q q => by
  obtain ⟨m, s, h, d, s', S, r, rd, e, k⟩ := q
  cases e
  exact k _ (r.set rd) (wipe_set hv)
theorem sgs_nil : PGs X [] (rGs X.K vs gsN) := PGsw pgs_nil fun v σ H Q q => by
  obtain ⟨m, s, h, d, s', S, r, rd, e, k⟩ := q
  cases d with
  | nil =>
    cases e
    simp only [RelDs] at rd
    exact ⟨rd, k _ r rfl⟩
  | cons a b => cases e
theorem sgs_cons (h1 : PG X e (rG X.K vs g)) (h2 : PGs X es (rGs X.K vs gs)) (hs : (assignEach (e :: es) X.env).map (·.2) = assign e X.env :: (assignEach es X.env).map (·.2) := by rfl) : PGs X (e :: es) (rGs X.K vs (gsC g gs)) :=
  PGsw (pgs_cons h1 h2 hs) fun v σ H Q q => by
  obtain ⟨m, s, h, d, s', S, r, rd, e, k⟩ := q
  cases d with
  | nil => cases e
  | cons a b =>
    simp only [RelDs] at rd
    obtain ⟨va, vb, rfl, ra, rb⟩ := rd
    unfold gsC at e
    dsimp only at e
    cases e1 : g a s with
    | none => rw [e1] at e; cases e
    | some s1 =>
      rw [e1] at e
      exact ⟨va, vb, rfl, m, s, h, a, s1, S, r, ra, e1, fun σ1 r1 w1 => ⟨m, s1, h, b, s', S, r1, rb, e, fun σ2 r2 w2 => k σ2 r2 (w2.trans w1)⟩⟩
theorem sg_tup {k n : Nat} (hc : X.calm = true) (h : PGs X es (rGs X.K vs gs)) (hl : ∀ ds s s', gs ds s = some s' → ds.length = n)
    (hn : (assignEach es X.env).length = n := by rfl) (hst : (assignEach es X.env).findIdx? (·.1) = none := by rfl) : PG X (.Tuple es k pos) (rG X.K vs (gT gs)) :=
  PGw (pg_tup hc h hn hst) fun v σ H Q q => by
  obtain ⟨m, s, h, d, s', S, r, rd, e, k⟩ := q
  cases d with
  | tup xs =>
    simp only [RelD] at rd
    obtain ⟨p, us, rfl, hp, hr⟩ := rd
    exact ⟨p, us, rfl, SqT.of hp, by rw [← hr.len]; exact hl xs s s' e, m, s, h, xs, s', S, r, hr, e, k⟩
  | _ => cases e
theorem gl_nil : ∀ ds s s', gsN ds s = some s' → ds.length = 0 := fun ds s s' e => by
  cases ds with
  | nil => rfl
  | cons a b => cases e
theorem gl_cons {n : Nat} (h : ∀ ds s s', gs ds s = some s' → ds.length = n) : ∀ ds s s', gsC g gs ds s = some s' → ds.length = n + 1 := fun ds s s' e => by
  cases ds with
  | nil => cases e
  | cons a b =>
    unfold gsC at e
    dsimp only at e
    cases e1 : g a s with
    | none => rw [e1] at e; cases e
    | some s1 =>
      rw [e1] at e
      simp [h b s1 s' e]
end

/-! ### what is walked -/
abbrev EI := SD → HC → Res (List D × List (Nat × Cell))
def chk (G : List (Nat × Cell)) (h : HC) : Bool := G.all fun g => decide (h[g.1]? = some g.2)
def WalkS (K : PySem.W.Frag) (m1 : Mp) (H1 : Hp) (J : It) (items : List D) (G : List (Nat × Cell)) : Prop :=
  ∀ m' h' H', Ext m1 m' H1 H' → Sm K m' h' H' → chk G h' = true →
    (∀ (i : Nat) (d : D), items[i]? = some d → J.go i H' ∧ ∀ x H'', J.yld i H' x H'' → Ext m' m' H' H'' ∧ Sm K m' h' H'' ∧ RelD m' H'' d x) ∧ J.stop items.length H'
def rI (K : PySem.W.Frag) (W : WX) (fi : EI) : TI := fun σ H R => ∃ m s h, Sm K m h H ∧ Rs m H s σ ∧ match fi s h with
  | .ok (items, G) h1 => ∀ m1 H1 J, Ext m m1 H H1 → Sm K m1 h1 H1 → WalkS K m1 H1 J items G → R J H1
  | .exc c h1 => ∀ m1 H1, Ext m m1 H H1 → Sm K m1 h1 H1 → W (.ref (He.ga K c)) none σ H1
  | .bad => False
def fItL (a : EE) : EI := fun s h => (a s h).bind fun x h1 => match x with
  | .ref n => (match h1[n]? with
    | some (.lst xs) => .ok (xs, [(n, .lst xs)]) h1
    | _ => .bad)
  | .scr ns => .ok (ns.map D.int, []) h1
  | _ => .bad
def fItT (a : EE) : EI := fun s h => (a s h).bind fun x h1 => match x with
  | .tup xs => .ok (xs, []) h1
  | _ => .bad
def fItS (a : EE) : EI := fun s h => (a s h).bind fun x h1 => match x with
  | .str z => .ok (z.cps.toList.map fun c => .str ⟨#[c]⟩, []) h1
  | _ => .bad
def rngD (lo : Int) (n : Nat) : List D := (List.range n).map fun (i : Nat) => D.int (lo + (i : Int))
def fItR1 (a : EE) : EI := fun s h => (a s h).bind fun x h1 => match x with
  | .int j => if -(2 ^ 62) ≤ j ∧ j < 2 ^ 62 then .ok (rngD 0 j.toNat, []) h1 else .bad
  | _ => .bad
def fItR2 (a b : EE) : EI := fun s h => (a s h).bind fun x h1 => (b s h1).bind fun y h2 => match x, y with
  | .int i, .int j => if -(2 ^ 62) ≤ i ∧ i < 2 ^ 62 ∧ -(2 ^ 62) ≤ j ∧ j < 2 ^ 62 then .ok (rngD i (j - i).toNat, []) h2 else .bad
  | _, _ => .bad
section
variable {K : PySem.W.Frag} {m1 : Mp} {H1 : Hp} {h1 : HC}
theorem chk_one {n : Nat} {c : Cell} {h : HC} (e : chk [(n, c)] h = true) : h[n]? = some c := by
  simpa [chk] using e
theorem walkS_list {n : Nat} {a : Addr} {xs : List D} (ha : m1.ad[n]? = some a) : WalkS K m1 H1 (Itl K a) xs [(n, .lst xs)] := fun m' h' H' E S c => by
  obtain ⟨vs, hv, hr⟩ := S.cell n _ a (chk_one c) (E.le n a ha)
  refine ⟨fun i d e => ?_, ⟨vs, SqL.of hv, by rw [hr.len]; exact Nat.le_refl _⟩⟩
  obtain ⟨v, hv2, hd⟩ := hr.get e
  exact ⟨⟨vs, v, SqL.of hv, hv2⟩, fun x H'' y => by
    obtain ⟨rfl, y⟩ := y
    have := y vs (SqL.of hv)
    rw [hv2] at this
    cases this
    exact ⟨Ext.refl, S, hd⟩⟩
theorem walkS_scr : WalkS K m1 H1 (Itl K m1.scr) (m1.ns.map D.int) [] := fun m' h' H' E S c => by
  have hq : SqL K H' m1.scr (m1.ns.map V.int) := by
    have := S.scr.sq
    rw [E.sc.1, E.sc.2] at this
    exact this
  refine ⟨fun i d e => ?_, ⟨_, hq, by simp⟩⟩
  obtain ⟨v, hv2, hd⟩ := (RelDs.ints (m := m') (H := H') (ns := m1.ns)).get e
  exact ⟨⟨_, v, hq, hv2⟩, fun x H'' y => by
    obtain ⟨rfl, y⟩ := y
    have := y _ hq
    rw [hv2] at this
    cases this
    exact ⟨Ext.refl, S, hd⟩⟩
theorem walkS_tup {a : Addr} {xs : List D} {vs : List V} (S1 : Sm K m1 h1 H1) (ha : H1 a = some (.tup vs)) (r : RelDs m1 H1 xs vs) : WalkS K m1 H1 (Itt K a) xs [] := fun m' h' H' E S c => by
  have hq : SqT K H' a vs := SqT.of (S1.kept E a vs ha)
  have hr := r.mono S1 E
  refine ⟨fun i d e => ?_, ⟨vs, hq, by rw [hr.len]; exact Nat.le_refl _⟩⟩
  obtain ⟨v, hv2, hd⟩ := hr.get e
  exact ⟨⟨vs, v, hq, hv2⟩, fun x H'' y => by
    obtain ⟨rfl, y⟩ := y
    have := y vs hq
    rw [hv2] at this
    cases this
    exact ⟨Ext.refl, S, hd⟩⟩
theorem walkS_range {lo : Int} {n : Nat} : WalkS K m1 H1 (Itr lo n) (rngD lo n) [] := fun m' h' H' E S c => by
  refine ⟨fun i d e => ?_, by show n ≤ (rngD lo n).length; simp [rngD]⟩
  have hi : i < n := by
    have := (List.getElem?_eq_some_iff.mp e).1
    simpa [rngD] using this
  refine ⟨hi, fun x H'' y => ?_⟩
  obtain ⟨rfl, rfl⟩ := y
  refine ⟨Ext.refl, S, ?_⟩
  unfold rngD at e
  rw [List.getElem?_map, List.getElem?_range hi] at e
  simp at e
  subst e
  simp [RelD]
theorem walkS_str {z : Str} : WalkS K m1 H1 (Its z) (z.cps.toList.map fun c => .str ⟨#[c]⟩) [] := fun m' h' H' E S c => by
  refine ⟨fun i d e => ?_, by show z.cps.size ≤ _; simp⟩
  have hi : i < z.cps.size := by
    have := (List.getElem?_eq_some_iff.mp e).1
    simpa using this
  refine ⟨hi, fun x H'' y => ?_⟩
  obtain ⟨rfl, c, hc, rfl⟩ := y
  refine ⟨Ext.refl, S, ?_⟩
  rw [List.getElem?_map, Array.getElem?_toList, hc] at e
  simp at e
  subst e
  simp [RelD]
end
section
variable {X : Cx} {W : WX} {tg e : Expr} {fa fb : EE} {p pos : Pos}
theorem PIw {iter : Expr} {t t' : TI} (h : PI X tg iter t) (w : ∀ σ H R, t' σ H R → t σ H R) : PI X tg iter t' := ⟨fun pins s σ H R I q => h.run pins s σ H R I (w _ _ _ q)⟩
theorem si_val {wi : TI} {g : D → HC → Res (List D × List (Nat × Cell))} (h : PI X tg e wi)
    (w : ∀ σ H R, rE X.K W fa σ H (fun v H1 => ∃ m1 h1 d, Sm X.K m1 h1 H1 ∧ RelD m1 H1 d v ∧ ∃ items G h2, g d h1 = .ok (items, G) h2 ∧ h2 = h1 ∧ ∀ J, WalkS X.K m1 H1 J items G → R J H1) → wi σ H R)
    (hg : ∀ d h, (∃ xs G, g d h = .ok (xs, G) h) ∨ g d h = .bad) : PI X tg e (rI X.K W fun s h => (fa s h).bind fun x h1 => g x h1) := PIw h fun σ H R q => by
  obtain ⟨m, s, h, S, r, p⟩ := q
  refine w σ H R ⟨m, s, h, S, r, ?_⟩
  dsimp only at p
  cases e1 : fa s h with
  | ok d h1 =>
    rw [e1] at p
    intro m1 H1 v E1 S1 r1
    rcases hg d h1 with ⟨xs, G, e2⟩ | e2
    · dsimp only [Res.bind] at p
      rw [e2] at p
      exact ⟨m1, h1, d, S1, r1, xs, G, h1, e2, rfl, fun J hw => p m1 H1 J E1 S1 hw⟩
    · dsimp only [Res.bind] at p
      rw [e2] at p
      exact p.elim
  | exc c h1 => rw [e1] at p; exact p
  | bad => rw [e1] at p; exact p
theorem si_list (ha : PE X e (rE X.K W fa)) : PI X tg e (rI X.K W (fItL fa)) :=
  si_val (pi_list ha) (fun σ H R q => rd_mono q fun v H1 ⟨m1, h1, d, S1, r1, xs, G, h2, e, _, k⟩ => by
    cases d with
    | ref n =>
      dsimp only at e
      simp only [RelD] at r1
      obtain ⟨a, ha, rfl⟩ := r1
      split at e
      · rename_i ys hy
        cases e
        obtain ⟨vs, hv, hr⟩ := S1.cell n _ a hy ha
        exact ⟨a, rfl, ⟨vs, SqL.of hv⟩, k _ (walkS_list ha)⟩
      · cases e
    | scr ns =>
      cases e
      simp only [RelD] at r1
      obtain ⟨rfl, rfl⟩ := r1
      exact ⟨_, rfl, ⟨_, S1.scr.sq⟩, k _ walkS_scr⟩
    | _ => cases e) fun d h => by
    cases d with
    | ref n =>
      dsimp only
      split
      · exact .inl ⟨_, _, rfl⟩
      · exact .inr rfl
    | scr ns => exact .inl ⟨_, _, rfl⟩
    | _ => exact .inr rfl
theorem si_tup (ha : PE X e (rE X.K W fa)) : PI X tg e (rI X.K W (fItT fa)) :=
  si_val (pi_tup ha) (fun σ H R q => rd_mono q fun v H1 ⟨m1, h1, d, S1, r1, xs, G, h2, e, _, k⟩ => by
    cases d with
    | tup ys =>
      cases e
      simp only [RelD] at r1
      obtain ⟨a, vs, rfl, ha, hr⟩ := r1
      exact ⟨a, rfl, ⟨vs, SqT.of ha⟩, k _ (walkS_tup S1 ha hr)⟩
    | _ => cases e) fun d h => by
    cases d with
    | tup ys => exact .inl ⟨_, _, rfl⟩
    | _ => exact .inr rfl
theorem si_str (ha : PE X e (rE X.K W fa)) : PI X tg e (rI X.K W (fItS fa)) :=
  si_val (pi_str ha) (fun σ H R q => rd_mono q fun v H1 ⟨m1, h1, d, S1, r1, xs, G, h2, e, _, k⟩ => by
    cases d with
    | str z =>
      cases e
      simp only [RelD] at r1
      exact ⟨z, r1, k _ walkS_str⟩
    | _ => cases e) fun d h => by
    cases d with
    | str ys => exact .inl ⟨_, _, rfl⟩
    | _ => exact .inr rfl
end
end G9

set_option Elab.async false
set_option linter.all false
set_option maxRecDepth 100000
set_option maxHeartbeats 2000000
namespace G9
open PySem PySem.Spec PyProof.Rows L2
section
variable {X : Cx} {W : WX} {tg a b : Expr} {fa fb : EE} {p pos : Pos}
theorem si_range1 (hm : X.mg "range" = none) (ha : PE X a (rE X.K W fa)) (hg : Gl X "range" := by rfl) (hs : starEach [a] X.env = [(false, eval a X.env)] := by rfl) : PI X tg (.Call (.Name "range" p) [a] [] pos) (rI X.K W (fItR1 fa)) :=
  si_val (pi_range1 hg hm (pa_cons ha pa_nil hs) hs) (fun σ H R q => rd_mono q fun v H1 ⟨m1, h1, d, S1, r1, xs, G, h2, e, _, k⟩ => by
    cases d with
    | int j =>
      dsimp only at e
      split at e
      · rename_i hj
        cases e
        simp only [RelD] at r1
        subst r1
        exact ⟨j, rfl, hj.1, hj.2, k _ walkS_range⟩
      · cases e
    | _ => cases e) fun d h => by
    cases d with
    | int j =>
      dsimp only
      split
      · exact .inl ⟨_, _, rfl⟩
      · exact .inr rfl
    | _ => exact .inr rfl
theorem si_range2 (hm : X.mg "range" = none) (ha : PE X a (rE X.K W fa)) (hb : PE X b (rE X.K W fb)) (hg : Gl X "range" := by rfl) (hs : starEach [a, b] X.env = [(false, eval a X.env), (false, eval b X.env)] := by rfl) (hs2 : starEach [b] X.env = [(false, eval b X.env)] := by rfl) :
    PI X tg (.Call (.Name "range" p) [a, b] [] pos) (rI X.K W (fItR2 fa fb)) :=
  PIw (pi_range2 hg hm (pa_cons ha (pa_cons hb pa_nil hs2) (by rw [hs, hs2])) hs hs2) fun σ H R q => by
    obtain ⟨m, s, h, S, r, p⟩ := q
    refine ⟨m, s, h, S, r, ?_⟩
    unfold fItR2 at p
    cases e1 : fa s h with
    | ok d1 h1 =>
      rw [e1] at p
      intro m1 H1 v1 E1 S1 r1
      refine ⟨m1, s, h1, S1, r.mono S E1, ?_⟩
      dsimp only [Res.bind] at p
      cases e2 : fb s h1 with
      | ok d2 h2 =>
        rw [e2] at p
        intro m2 H2 v2 E2 S2 r2
        dsimp only at p
        cases d1 with
        | int i =>
          cases d2 with
          | int j =>
            dsimp only at p
            have r1' := r1.mono S1 E2
            simp only [RelD] at r1' r2
            subst r1' r2
            by_cases hj : -(2 ^ 62) ≤ i ∧ i < 2 ^ 62 ∧ -(2 ^ 62) ≤ j ∧ j < 2 ^ 62
            · rw [if_pos hj] at p
              exact ⟨i, j, rfl, hj, p m2 H2 _ (E1.trans E2) S2 walkS_range⟩
            · rw [if_neg hj] at p
              exact p.elim
          | _ => exact p.elim
        | _ => cases d2 <;> exact p.elim
      | exc c h2 => rw [e2] at p; exact fun m2 H2 E2 S2 => p m2 H2 (E1.trans E2) S2
      | bad => rw [e2] at p; exact p
    | exc c h1 => rw [e1] at p; exact p
    | bad => rw [e1] at p; exact p
end

/-! ### for -/
def forLoop (G : List (Nat × Cell)) (g : EG) (body : ES) : List D → SD → HC → RS
  | [], s, h => if chk G h = true then .nx s h else .bad
  | d :: ds, s, h => if chk G h = true then (match g d s with
    | some s1 => (match body s1 h with
      | .nx s2 h2 => forLoop G g body ds s2 h2
      | .ct s2 h2 => forLoop G g body ds s2 h2
      | .bk s2 h2 => .nx s2 h2
      | r => r)
    | none => .bad) else .bad
def fFor (it : EI) (g : EG) (body : ES) : ES := fun s h => ofR s (it s h) fun x h1 => forLoop x.2 g body x.1 s h1
section
variable {X : Cx} {W : WX} {tg iter : Expr} {body : List Stmt} {fi : EI} {g : EG} {fb : ES} {vs : List Nat} {pos : Pos}
theorem tFor_of {K : PySem.W.Frag} (En : Ends) (σ : L2.St) (H : Hp) (q : rS K W (fFor fi g fb) En σ H) : tFor (rI K W fi) (rG K vs g) (rS K W fb) En σ H := by
  obtain ⟨m, s, h, S, r, p⟩ := q
  refine ⟨m, s, h, S, r, ?_⟩
  unfold fFor at p
  cases e : fi s h with
  | exc c h1 => rw [e] at p; exact fun m1 H1 E S1 => p m1 H1 σ E S1 (r.mono S E)
  | bad => rw [e] at p; exact p
  | ok x h1 =>
    obtain ⟨items, G⟩ := x
    rw [e] at p
    intro m1 H1 J E1 S1 hw
    refine ⟨fun i n σ' H' => n = items.length - i ∧ i ≤ items.length ∧ ∃ m' s' h', Ext m1 m' H1 H' ∧ Sm K m' h' H' ∧ Rs m' H' s' σ' ∧ postS K W m' H' En (forLoop G g fb (items.drop i) s' h'),
      ⟨items.length, by simp, Nat.zero_le _, m1, s, h1, Ext.refl, S1, r.mono S E1, by rw [List.drop_zero]; exact postS_ext p E1⟩, ?_⟩
    rintro i n σ' H' ⟨rfl, hi, m', s', h', E', S', r', p'⟩
    by_cases hlt : i < items.length
    · have ed : items.drop i = items[i] :: items.drop (i + 1) := (List.drop_eq_getElem_cons hlt)
      rw [ed] at p'
      unfold forLoop at p'
      by_cases hc : chk G h' = true
      · rw [if_pos hc] at p'
        obtain ⟨w1, w2⟩ := hw m' h' H' E' S' hc
        obtain ⟨go, yl⟩ := w1 i items[i] (by simp [hlt])
        refine .inr ⟨go, _, fun σ2 H2 q => ⟨items.length - (i + 1), by omega, q⟩, fun x H'' y => ?_⟩
        obtain ⟨Ey, Sy, ry⟩ := yl x H'' y
        cases e2 : g items[i] s' with
        | none => rw [e2] at p'; exact p'.elim
        | some s1 =>
          rw [e2] at p'
          refine ⟨m', s', h', items[i], s1, Sy, r'.mono S' Ey, ry, e2, fun σ2 r2 _ => ⟨m', s1, h', Sy, r2, ?_⟩⟩
          dsimp only at p'
          have p3 := postS_ext p' Ey
          cases e3 : fb s1 h' with
          | nx s2 h2 =>
            rw [e3] at p3
            exact fun m4 H4 σ4 E4 S4 r4 => ⟨rfl, hlt, m4, s2, h2, (E'.trans Ey).trans E4, S4, r4, postS_ext p3 E4⟩
          | ct s2 h2 =>
            rw [e3] at p3
            exact fun m4 H4 σ4 E4 S4 r4 => ⟨rfl, hlt, m4, s2, h2, (E'.trans Ey).trans E4, S4, r4, postS_ext p3 E4⟩
          | bk s2 h2 =>
            rw [e3] at p3
            exact p3
          | ret s2 h2 => rw [e3] at p3; exact p3
          | exc c s2 h2 => rw [e3] at p3; exact p3
          | bad => rw [e3] at p3; exact p3
      · rw [if_neg hc] at p'
        exact p'.elim
    · have ei : i = items.length := by omega
      subst ei
      rw [List.drop_length] at p'
      unfold forLoop at p'
      by_cases hc : chk G h' = true
      · rw [if_pos hc] at p'
        obtain ⟨w1, w2⟩ := hw m' h' H' E' S' hc
        exact .inl ⟨w2, p' _ _ _ Ext.refl S' r'⟩
      · rw [if_neg hc] at p'
        exact p'.elim
theorem ss_for (hp : PassesOwn (model X.prog X.w) X.A X.env X.xe) (hc : X.calm = true) (hi : PI X tg iter (rI X.K W fi)) (hg : PG X tg (rG X.K vs g)) (hb : PSs X body (rS X.K W fb)) (hs : ∀ x, foldedSetIterable iter X.env x = pure x := by intro _; rfl) :
    PS X (.For tg iter body [] pos) (rS X.K W (fFor fi g fb)) := PSw (ps_for hp hc hi hg hb hs) tFor_of
end

/-! ### while -/
def fWhile (c : ET) (b : ES) : Nat → ES
  | 0 => fun _ _ => .bad
  | n + 1 => fun s h => ofR s (c s h) fun x h1 => if x = true then (match b s h1 with
    | .nx s2 h2 => fWhile c b n s2 h2
    | .ct s2 h2 => fWhile c b n s2 h2
    | .bk s2 h2 => .nx s2 h2
    | r => r) else .nx s h1
section
variable {X : Cx} {W : WX} {c : Expr} {body : List Stmt} {gc : ET} {fb : ES} {pos : Pos}
theorem ss_while (n : Nat) (hp : PassesOwn (model X.prog X.w) X.A X.env X.xe) (hc : PT X c (rT X.K W gc)) (hb : PSs X body (rS X.K W fb)) : PS X (.While c body [] pos) (rS X.K W (fWhile gc fb n)) :=
  PSw (ps_while hp hc hb) fun En σ H q => by
    refine ⟨fun n σ H => rS X.K W (fWhile gc fb n) En σ H, ⟨n, q⟩, fun n σ H q => ?_⟩
    cases n with
    | zero =>
      obtain ⟨m, s, h, S, r, p⟩ := q
      exact p.elim
    | succ n =>
      refine rd_mono (rS_bind (R := RelB) (f := gc) (g := fun x s h1 => if x = true then (match fb s h1 with
        | .nx s2 h2 => fWhile gc fb n s2 h2
        | .ct s2 h2 => fWhile gc fb n s2 h2
        | .bk s2 h2 => .nx s2 h2
        | r => r) else .nx s h1) q) fun x H1 ⟨m1, s, h1, d1, S1, r1, q1, p1⟩ => ?_
      obtain rfl : d1 = x := q1
      cases d1 with
      | false => exact p1 _ _ _ Ext.refl S1 r1
      | true =>
        rw [if_pos rfl] at p1 ⊢
        refine ⟨fun σ' H' => rS X.K W (fWhile gc fb n) En σ' H', fun σ' H' q => ⟨n, Nat.lt_succ_self n, q⟩, m1, s, h1, S1, r1, ?_⟩
        cases e3 : fb s h1 with
        | nx s2 h2 =>
          rw [e3] at p1
          exact fun m4 H4 σ4 E4 S4 r4 => ⟨m4, s2, h2, S4, r4, postS_ext p1 E4⟩
        | ct s2 h2 =>
          rw [e3] at p1
          exact fun m4 H4 σ4 E4 S4 r4 => ⟨m4, s2, h2, S4, r4, postS_ext p1 E4⟩
        | bk s2 h2 => rw [e3] at p1; exact p1
        | ret s2 h2 => rw [e3] at p1; exact p1
        | exc c s2 h2 => rw [e3] at p1; exact p1
        | bad => rw [e3] at p1; exact p1
end

/-! ### comprehensions -/
def wipeD (s : SD) : List Nat → SD
  | [] => s
  | v :: vs => (wipeD s vs).set v none
theorem wipe_wipe (σ : L2.St) (vs : List Nat) : wipe (wipe σ vs) vs = wipe σ vs := by
  apply List.ext_getElem?
  intro j
  rw [wipe_get, wipe_get]
  by_cases hj : j ∈ vs
  · rw [if_pos hj, if_pos hj]
    cases σ[j]? <;> rfl
  · rw [if_neg hj, if_neg hj]
theorem Rs.setN {m : Mp} {H : Hp} {s : SD} {σ : L2.St} {i : Nat} (r : Rs m H s σ) : Rs m H (s.set i none) (σ.set i none) := by
  refine ⟨by simpa using r.1, fun j d' e => ?_⟩
  by_cases hj : i = j
  · subst hj
    have hl : i < s.length := by
      have := (List.getElem?_eq_some_iff.mp e).1
      simpa using this
    rw [List.getElem?_set_self hl] at e
    cases e
  · rw [List.getElem?_set_ne hj] at e ⊢
    exact r.2 j d' e
theorem Rs.wipe {m : Mp} {H : Hp} {s : SD} {σ : L2.St} (r : Rs m H s σ) : ∀ vs : List Nat, Rs m H (wipeD s vs) (wipe σ vs)
  | [] => r
  | v :: vs => (Rs.wipe r vs).setN
def lcLoop (G : List (Nat × Cell)) (g : EG) (c : ET) (a : EE) (s : SD) : List D → List D → HC → Res (List D)
  | [], acc, h => if chk G h = true then .ok acc h else .bad
  | d :: ds, acc, h => if chk G h = true then (match g d s with
    | some s1 => (match c s1 h with
      | .ok true h2 => (match a s1 h2 with
        | .ok y h3 => if acc.length < BIG then lcLoop G g c a s ds (acc ++ [y]) h3 else .bad
        | _ => .bad)
      | .ok false h2 => lcLoop G g c a s ds acc h2
      | _ => .bad)
    | none => .bad) else .bad
def fLc (it : EI) (own : List Nat) (g : EG) (c : ET) (a : EE) : EE := fun s h => (it s h).bind fun x h1 => (lcLoop x.2 g c a (wipeD s own) x.1 [] h1).bind fun xs h2 => .ok (.ref h2.length) (h2 ++ [.lst xs])
def fYes : ET := fun _ h => .ok true h
abbrev W0 : WX := fun _ _ _ _ => False
theorem Sm.updOut {K : PySem.W.Frag} {m : Mp} {h : HC} {H : Hp} (S : Sm K m h H) {p : Addr} {vs : List V} {o : HO} (hp : p ∉ m.ad) (e : H p = some (.lst vs)) : Sm K m h (upd H p o) ∧ ∀ q us, H q = some (.tup us) → upd H p o q = some (.tup us) := by
  have ht : ∀ q us, H q = some (.tup us) → upd H p o q = some (.tup us) := fun q us eq => by
    rw [upd_ne (fun z => by rw [z, e] at eq; cases eq)]
    exact eq
  refine ⟨⟨S.len, S.nd, S.scr.upd (fun o w z => by rw [e] at z; cases z), fun i c a hc ha => ?_⟩, ht⟩
  refine (S.cell i c a hc ha).mono_ (fun _ _ z => z) ⟨rfl, rfl⟩ ht (upd_ne ?_)
  rintro rfl
  exact hp (List.mem_of_getElem? ha)
section
variable {K : PySem.W.Frag} {W : WX} {fi : EI} {g : EG} {fc : ET} {fa : EE} {vs : List Nat}
theorem tLc_of (own : List Nat) (σ : L2.St) (H : Hp) (Q : VK) (q : rE K W (fLc fi own g fc fa) σ H Q) : tLc (rI K W fi) (rG K own g) (rT K W0 fc) (rE K W0 fa) own σ H Q := by
  obtain ⟨m, s, h, S, r, p⟩ := q
  refine ⟨m, s, h, S, r, ?_⟩
  unfold fLc at p
  cases e : fi s h with
  | exc c h1 => rw [e] at p; exact p
  | bad => rw [e] at p; exact p
  | ok x h1 =>
    obtain ⟨items, G⟩ := x
    rw [e] at p
    intro m1 H1 J E1 S1 hw P hP
    have p1 := post_ext p E1
    dsimp only [Res.bind] at p1
    refine ⟨fun i n H' => n = items.length - i ∧ i ≤ items.length ∧ ∃ m' h' acc us, Ext m1 m' H1 H' ∧ Sm K m' h' H' ∧ Rs m' H' (wipeD s own) (wipe σ own) ∧ P ∉ m'.ad ∧ H' P = some (.lst us) ∧ RelDs m' H' acc us ∧ acc.length ≤ BIG ∧
        post RelD K W σ m1 H1 Q ((lcLoop G g fc fa (wipeD s own) (items.drop i) acc h').bind fun xs h2 => .ok (.ref h2.length) (h2 ++ [.lst xs])), ⟨items.length, by simp, Nat.zero_le _, m1, h1, [], [], ?_⟩, ?_⟩
    · obtain ⟨S2, E2⟩ := S1.newT (o := .lst []) hP
      refine ⟨E2, S2, ((r.mono S E1).mono S1 E2).wipe own, S1.freshOut hP, upd_same, RelDs.nil, Nat.zero_le _, ?_⟩
      simpa [Res.bind] using p1
    · rintro i n H' ⟨rfl, hi, m', h', acc, us, E', S', r', hPm, hPv, ra, hal, p'⟩
      by_cases hlt : i < items.length
      · have ed : items.drop i = items[i] :: items.drop (i + 1) := (List.drop_eq_getElem_cons hlt)
        rw [ed] at p'
        unfold lcLoop at p'
        by_cases hc : chk G h' = true
        · rw [if_pos hc] at p'
          obtain ⟨w1, w2⟩ := hw m' h' H' E' S' hc
          obtain ⟨go, yl⟩ := w1 i items[i] (by simp [hlt])
          refine .inr ⟨go, _, fun H2 q => ⟨items.length - (i + 1), by omega, q⟩, fun x H'' y => ?_⟩
          obtain ⟨Ey, Sy, ry⟩ := yl x H'' y
          cases e2 : g items[i] (wipeD s own) with
          | none => rw [e2] at p'; exact p'.elim
          | some s1 =>
            rw [e2] at p'
            refine ⟨m', wipeD s own, h', items[i], s1, Sy, r'.mono S' Ey, ry, e2, fun σ2 r2 w2' => ⟨by rw [w2']; exact wipe_wipe σ own, m', s1, h', Sy, r2, ?_⟩⟩
            dsimp only at p'
            cases e3 : fc s1 h' with
            | exc c h2 => rw [e3] at p'; exact p'.elim
            | bad => rw [e3] at p'; exact p'.elim
            | ok b h2 =>
              rw [e3] at p'
              intro m3 H3 b' E3 S3 q3
              obtain rfl : b = b' := q3
              have hP3 := E3.fr P _ hPm (Ey.fr P _ hPm hPv).2
              have ra3 := (ra.mono S' Ey).mono Sy E3
              have E13 := (E'.trans Ey).trans E3
              have r3 := (r'.mono S' Ey).mono Sy E3
              cases b with
              | false =>
                rw [if_neg Bool.false_ne_true]
                exact ⟨rfl, hlt, m3, h2, acc, us, E13, S3, r3, hP3.1, hP3.2, ra3, hal, p'⟩
              | true =>
                rw [if_pos rfl]
                refine ⟨m3, s1, h2, S3, r2.mono Sy E3, ?_⟩
                dsimp only at p'
                cases e4 : fa s1 h2 with
                | exc c h2 => rw [e4] at p'; exact p'.elim
                | bad => rw [e4] at p'; exact p'.elim
                | ok yd h3 =>
                  rw [e4] at p'
                  intro m4 H4 yv E4 S4 q4
                  dsimp only at p'
                  by_cases hl : acc.length < BIG
                  · rw [if_pos hl] at p'
                    have hP4 := E4.fr P _ hP3.1 hP3.2
                    have ra4 := ra3.mono S3 E4
                    refine ⟨us, hP4.2, by rw [← ra.len]; exact Nat.lt_of_lt_of_le hl big_le, ?_⟩
                    obtain ⟨S5, t5⟩ := S4.updOut (o := .lst (us ++ [yv])) hP4.1 hP4.2
                    have E14 := E13.trans E4
                    refine ⟨rfl, hlt, m4, h3, acc ++ [yd], us ++ [yv], ⟨E14.le, E14.sc, fun z o hz ez => ?_⟩, S5, ?_, hP4.1, upd_same, ?_, by simp; omega, p'⟩
                    · have := E14.fr z o hz ez
                      exact ⟨this.1, by rw [upd_ne (ne_of_none ez hP)]; exact this.2⟩
                    · refine ⟨r3.1, fun j d hj => ?_⟩
                      obtain ⟨v, hv, hd⟩ := (r3.mono S3 E4).2 j d hj
                      exact ⟨v, hv, RelD.mono_ (fun _ _ z => z) ⟨rfl, rfl⟩ t5 _ _ hd⟩
                    · exact RelDs.mono_ (fun _ _ z => z) ⟨rfl, rfl⟩ t5 _ _ (ra4.append (RelDs.cons q4 RelDs.nil))
                  · rw [if_neg hl] at p'
                    exact p'.elim
        · rw [if_neg hc] at p'
          exact p'.elim
      · have ei : i = items.length := by omega
        subst ei
        rw [List.drop_length] at p'
        unfold lcLoop at p'
        by_cases hc : chk G h' = true
        · rw [if_pos hc] at p'
          obtain ⟨w1, w2⟩ := hw m' h' H' E' S' hc
          refine .inl ⟨w2, ?_⟩
          refine p' (m'.snoc P) H' (.ref P) ⟨fun n a z => ?_, E'.sc, fun z o hz ez => ?_⟩ (S'.adopt hPm ⟨us, hPv, ra⟩ (fun _ _ => trivial)) ?_
          · show (m'.ad ++ [P])[n]? = some a
            rw [List.getElem?_append_left (List.getElem?_eq_some_iff.mp (E'.le n a z)).1]
            exact E'.le n a z
          · have := E'.fr z o hz ez
            have hzp : z ≠ P := ne_of_none ez hP
            exact ⟨by simp [this.1, hzp, Mp.snoc], this.2⟩
          · simp only [RelD]
            exact ⟨P, by rw [S'.len]; exact Mp.last, rfl⟩
        · rw [if_neg hc] at p'
          exact p'.elim
end
end G9

set_option Elab.async false
set_option linter.all false
set_option maxRecDepth 100000
set_option maxHeartbeats 2000000
namespace G9
open PySem PySem.Spec PyProof.Rows L2

/-! ### enumerate of a tuple -/
def IteT (K : PySem.W.Frag) (a : Addr) : It where
  go := fun i H => ∃ (us : List V) (x : V), SqT K H a us ∧ us[i]? = some x
  yld := fun i H v H' => ∃ T x, v = .ref T ∧ H T = none ∧ H' = upd H T (.tup [.int (i : Nat), x]) ∧ ∀ us, SqT K H a us → us[i]? = some x
  stop := fun i H => ∃ us : List V, SqT K H a us ∧ us.length = i
theorem isTup_ne {h : Heap} {a b : Addr} {items : Array Value} {o : Obj} (p : IsTup h a items) (e : h.get? b = some o) (c : o.cls ≠ .type "tuple") : a ≠ b := by
  rintro rfl
  obtain ⟨o', e', c', _⟩ := p
  rw [e] at e'
  cases e'
  exact c c'
theorem turn_enumT {P : Program} {w : World} {K : PySem.W.Frag} {elts : List Expr} {kk : Nat} {tpos : Pos} (a en it : Addr) :
    Turn P w K (.Tuple elts kk tpos) (IteT K a) [en, it] en (fun i h => (∃ old, IsEnum h en it ((i : Nat) : Int) old) ∧ h.IsTupleIter it a i ∧ en ≠ it) where
  mem := List.mem_cons_self
  obj := fun i h st b hb => by
    obtain ⟨⟨old, he⟩, ⟨o, ho, hc, hd⟩, _⟩ := st
    rcases List.mem_cons.mp hb with rfl | hb
    · exact ⟨_, he, fun v q => nomatch q⟩
    · rw [List.mem_singleton.mp hb]
      exact ⟨o, ho, fun v q => by rw [hd] at q; cases q⟩
  keep := fun i h h' st k => by
    obtain ⟨⟨old, he⟩, hi, hne⟩ := st
    exact ⟨⟨old, k en List.mem_cons_self _ he⟩, hi.at fun o q => k it (by simp) o q, hne⟩
  item := by
    intro X hP hw hK hc i pins s σ H E I hf st hg
    subst hP hw hK
    obtain ⟨⟨old, he⟩, hit, hne⟩ := st
    obtain ⟨us, x, hq, hx⟩ := hg
    obtain ⟨its, rv, pt, hz⟩ := I.tuple hq
    obtain ⟨u, hu, ru⟩ := rv.get hx
    have hel : en < s.heap.objs.size := Heap.lt_size he
    obtain ⟨oi, hoi, hci, hdi⟩ := id hit
    have hil : it < s.heap.objs.size := Heap.lt_size hoi
    have hai : a ≠ it := isTup_ne pt hoi (by rw [hci]; decide)
    have hae : a ≠ en := isTup_ne pt he (show (Value.type "enumerate") ≠ Value.type "tuple" by decide)
    have hlt : i < its.toArray.size := by
      have := (List.getElem?_eq_some_iff.mp hu).1
      simpa using this
    refine wpAny_pyNext_enum_itemD (Draws.tuple (A := X.A.in1) (I.ok.hd hc) it a hai its.toArray) he ⟨hit, pt⟩ hlt hne (by simp [hne, Ne.symm hae]) fun y h' tk hy ho hst hT hsz hk => ?_
    have ey : y = u := by
      have h1 : its[i]? = some y := by simpa using hy
      rw [hu] at h1
      exact (Option.some.inj h1).symm
    subst ey
    refine ⟨_, rfl, wpAny_letOwnedTupleGo_enum (s := { s with heap := h', toks := tk + 1 }) ho fun h2 he2 sb => ?_⟩
    have hT2 : h2.get? s.heap.objs.size = some { cls := .type "tuple", data := .seq #[.int i tk, y] } := (sb.2 _ (Nat.ne_of_gt hel)).trans hT
    have new : ObjOk X.prog X.w (upd H s.heap.objs.size (.tup [.int (i : Nat), x])) h2 s.heap.objs.size (.tup [.int (i : Nat), x]) :=
      ⟨Nat.le_trans (show 2 ≤ BIG by decide) big_le, [.int i tk, y], .cons ⟨_, rfl⟩ (.cons ru .nil), ⟨_, hT2, rfl, _, rfl⟩⟩
    have kp : ∀ b o, b ∉ [en, it] → s.heap.get? b = some o → h2.get? b = some o := fun b o hb q => by
      have h1 : b ≠ en := fun z => hb (by simp [z])
      have h3 : b ≠ it := fun z => hb (by simp [z])
      exact (sb.2 b h1).trans (hk b o h1 h3 q)
    have J : Inv X pins σ (upd H s.heap.objs.size (.tup [.int (i : Nat), x])) { s with heap := h2, toks := tk + 1 } := I.turnedNew (ch := [en, it]) kp hf (Nat.le_refl _) new
    refine ⟨.ref s.heap.objs.size, _, J, rfl, ⟨_, x, rfl, I.hok.fresh (Nat.le_refl _), rfl, fun ws hws => by rw [I.tuple_inj hws hq]; exact hx⟩, ⟨⟨y, ?_⟩, hst.1.at fun o q => (sb.2 it (Ne.symm hne)).trans q, hne⟩, fun b hb => ?_⟩
    · have e1 : ((i + 1 : Nat) : Int) = (i : Int) + 1 := by omega
      rw [e1]
      exact he2
    · have hb' : b < s.heap.objs.size := by
        rcases List.mem_cons.mp hb with rfl | hb
        · exact hel
        · rw [List.mem_singleton.mp hb]
          exact hil
      rw [upd_ne (Nat.ne_of_lt hb')]
      exact (hf b hb).1
  done := by
    intro X hP hw hK hc i pins s σ H E I hf st hg
    subst hP hw hK
    obtain ⟨⟨old, he⟩, hit, hne⟩ := st
    obtain ⟨us, hq, hx⟩ := hg
    obtain ⟨its, rv, pt, hz⟩ := I.tuple hq
    obtain ⟨f0, f1, f2, f3, f4, f5⟩ := hf it (by simp)
    obtain ⟨oi, hoi, hci, hdi⟩ := id hit
    have hai : a ≠ it := isTup_ne pt hoi (by rw [hci]; decide)
    have hl : its.toArray.size = i := by rw [List.size_toArray, ← rv.length, hx]
    subst hl
    exact wpAny_pyNext_enum_endD (Draws.tuple (A := X.A.in1) (I.ok.hd hc) it a hai its.toArray) he ⟨hit, pt⟩ fun h' eb => ⟨rfl, I.turned (t' := s.toks) (fun b o hb q => eb b o hb q) f0 f1 f3 f4 f5⟩
  self := fun A i s Q E st h => by
    obtain ⟨⟨old, he⟩, _⟩ := st
    exact wpAny_pyIter_enum he h
set_option maxHeartbeats 1000000 in
theorem meets_enumT {t : Addr} {items : Array Value} :
    Meets (Builtin.«enumerate.__new__» ⟨[.type "enumerate", .ref t], []⟩) (fun _ R s => s.heap.IsTuple t items ∧
      R (.ok (.ret (.ref (s.heap.push { cls := .type "tuple_iterator", data := .fields #[.ref t, .int 0 0] }).objs.size)))
        { s with heap := (s.heap.push { cls := .type "tuple_iterator", data := .fields #[.ref t, .int 0 0] }).push { cls := .type "enumerate", data := .fields #[.none, .bool false, .ref s.heap.objs.size, rawInt 0, .none, .none] } }) :=
  .of_wp fun prog w A R s h => by
    obtain ⟨hp, g, d, tk, os⟩ := s
    obtain ⟨h1, h⟩ := h
    have hsub := sub_enumerate
    have go : ∀ {A' : Around} {E : Value → Shared → Prop} {Q : Value → Shared → Prop}, Q (.ref hp.objs.size) ⟨hp.push { cls := .type "tuple_iterator", data := .fields #[.ref t, .int 0 0] }, g, d, tk, os⟩ → wpAny (model prog w) A' (pyIter (.ref t)) Q E ⟨hp, g, d, tk, os⟩ :=
      fun q => (begins_tuple t items).iter prog w _ _ ⟨hp, g, d, tk, os⟩ _ h1 q
    wp_walk using go
    refine wpAny_stack_any fun st => wpAny_pure ?_
    split
    · rename_i c _ _ _ _ _
      cases (c == Value.type "enumerate")
      all_goals
        wp_walk using go
        exact ⟨_, rfl, h⟩
    · wp_walk using go
      exact ⟨_, rfl, h⟩
theorem call_enumT {prog : Program} {w : World} {A : Around} {E : Value → Shared → Prop} {s : Shared} {t : Addr} {items : Array Value} {Q : Value → Shared → Prop} (hT : s.heap.IsTuple t items)
    (h : ∀ h', IsEnum h' (s.heap.objs.size + 1) s.heap.objs.size 0 .none → h'.IsTupleIter s.heap.objs.size t 0 → (∀ b o, s.heap.get? b = some o → h'.get? b = some o) → Q (.ref (s.heap.objs.size + 1)) { s with heap := h' }) :
    wpAny (model prog w) A (call (.type "enumerate") [.ref t]) Q E s := by
  refine callType_new F.called_enumerate (by decide) (F.typeCall_enumerate_1 _) (F.newCall_enumerate_1 _) (fun obj => F.args_object_init_2 obj _) F.entry_enumerate_new (meets_enumT (t := t) (items := items)) ⟨hT, ?_⟩
  generalize hq : s.heap.push { cls := .type "tuple_iterator", data := .fields #[.ref t, .int 0 0] } = q
  have hz : q.objs.size = s.heap.objs.size + 1 := by rw [← hq]; exact Heap.size_push ..
  have hi : q.get? s.heap.objs.size = some { cls := .type "tuple_iterator", data := .fields #[.ref t, .int 0 0] } := by rw [← hq]; exact Heap.get?_push_size _ rfl
  have hk : ∀ b o, s.heap.get? b = some o → q.get? b = some o := fun b o e => by rw [← hq]; exact Heap.get?_push_of_some _ e
  have he : (q.push { cls := .type "enumerate", data := .fields #[.none, .bool false, .ref s.heap.objs.size, rawInt 0, .none, .none] }).get? q.objs.size = some { cls := .type "enumerate", data := .fields #[.none, .bool false, .ref s.heap.objs.size, rawInt 0, .none, .none] } := Heap.get?_push_size _ rfl
  show _ ∧ _
  rw [hz] at he ⊢
  exact ⟨⟨_, he, rfl⟩, h _ he ⟨_, Heap.get?_push_of_some _ hi, rfl, rfl⟩ fun b o x => Heap.get?_push_of_some _ (hk b o x)⟩
def iEnumT (K : PySem.W.Frag) (ta : TA) : TI := fun σ H R => ta σ H fun vs H1 => ∃ a us, vs = [.ref a] ∧ SqT K H1 a us ∧ R (IteT K a) H1
theorem pi_enumT {X : Cx} {e : Expr} {ta : TA} {p pos tpos : Pos} {elts : List Expr} {kk : Nat} (hg : Gl X "enumerate") (hm : X.mg "enumerate" = none) (ha : PA X [e] ta) (hs : starEach [e] X.env = [(false, eval e X.env)] := by rfl) :
    PI X (.Tuple elts kk tpos) (.Call (.Name "enumerate" p) [e] [] pos) (iEnumT X.K ta) := by
  refine ⟨fun pins s σ H R I h => ?_⟩
  refine Call_ (ld_blt I hg hm boot_enumerate (PyProof.Rows.callWith_type1 (thn (ha.run pos pins s σ H _ I h) fun ws s1 hh => ?_) hs rfl))
  obtain ⟨vs, H1, I1, r1, a, us, ev, hq, q⟩ := hh
  subst ev
  obtain ⟨w', rfl, rw'⟩ := vals1 r1
  cases rw'
  obtain ⟨its, rv, pt, hz⟩ := I1.tuple hq
  refine call_enumT pt fun h' he hit hk => wpAny_pyIter_enum he ?_
  have J : Inv X pins σ H1 { s1 with heap := h' } := I1.kept (t' := s1.toks) hk
  refine ⟨s1.heap.objs.size + 1, [s1.heap.objs.size + 1, s1.heap.objs.size], _, _, H1, rfl, J, turn_enumT a (s1.heap.objs.size + 1) s1.heap.objs.size, ⟨⟨.none, he⟩, hit, Nat.succ_ne_self _⟩, fun b hb => ?_, q⟩
  have hle : s1.heap.objs.size ≤ b := by
    rcases List.mem_cons.mp hb with rfl | hb
    · exact Nat.le_succ _
    · rw [List.mem_singleton.mp hb]
      exact Nat.le_refl _
  exact I1.fpOk hle (I1.hok.fresh hle)
def enumD (xs : List D) : List D := (List.range xs.length).zipWith (fun (i : Nat) d => .tup [.int (i : Int), d]) xs
theorem enumD_get {xs : List D} {i : Nat} {d : D} (e : (enumD xs)[i]? = some d) : ∃ x, xs[i]? = some x ∧ d = .tup [.int (i : Int), x] := by
  unfold enumD at e
  rw [List.getElem?_zipWith] at e
  cases q : xs[i]? with
  | none => simp [q] at e
  | some x =>
    have hi : i < xs.length := (List.getElem?_eq_some_iff.mp q).1
    rw [List.getElem?_range hi, q] at e
    simp at e
    exact ⟨x, rfl, e.symm⟩
theorem enumD_len (xs : List D) : (enumD xs).length = xs.length := by simp [enumD]
def fItEL (a : EE) : EI := fun s h => (a s h).bind fun x h1 => match x with
  | .ref n => (match h1[n]? with
    | some (.lst xs) => .ok (enumD xs, [(n, .lst xs)]) h1
    | _ => .bad)
  | _ => .bad
def fItET (a : EE) : EI := fun s h => (a s h).bind fun x h1 => match x with
  | .tup xs => .ok (enumD xs, []) h1
  | _ => .bad
section
variable {K : PySem.W.Frag} {m1 : Mp} {H1 : Hp} {h1 : HC}
theorem pair_new {m : Mp} {h : HC} {H : Hp} {T : Addr} {d1 d2 : D} {v1 v2 : V} (S : Sm K m h H) (hT : H T = none) (r1 : RelD m H d1 v1) (r2 : RelD m H d2 v2) :
    Ext m m H (upd H T (.tup [v1, v2])) ∧ Sm K m h (upd H T (.tup [v1, v2])) ∧ RelD m (upd H T (.tup [v1, v2])) (.tup [d1, d2]) (.ref T) := by
  obtain ⟨S1, E1⟩ := S.newT (o := .tup [v1, v2]) hT
  refine ⟨E1, S1, ?_⟩
  simp only [RelD]
  exact ⟨T, _, rfl, upd_same, RelDs.cons (r1.mono S E1) (RelDs.cons (r2.mono S E1) RelDs.nil)⟩
theorem walkS_enumT {a : Addr} {xs : List D} {vs : List V} (S1 : Sm K m1 h1 H1) (ha : H1 a = some (.tup vs)) (r : RelDs m1 H1 xs vs) : WalkS K m1 H1 (IteT K a) (enumD xs) [] := fun m' h' H' E S c => by
  have hq : SqT K H' a vs := SqT.of (S1.kept E a vs ha)
  have hr := r.mono S1 E
  refine ⟨fun i d e => ?_, ⟨vs, hq, by rw [enumD_len, hr.len]⟩⟩
  obtain ⟨x, ex, rfl⟩ := enumD_get e
  obtain ⟨v, hv2, hd⟩ := hr.get ex
  refine ⟨⟨vs, v, hq, hv2⟩, fun y H'' yl => ?_⟩
  obtain ⟨T, u, rfl, hT, rfl, hu⟩ := yl
  have := hu vs hq
  rw [hv2] at this
  cases this
  exact pair_new S hT (by simp [RelD]) hd
theorem walkS_enumL {n : Nat} {a : Addr} {xs : List D} (ha : m1.ad[n]? = some a) : WalkS K m1 H1 (Ite K a) (enumD xs) [(n, .lst xs)] := fun m' h' H' E S c => by
  obtain ⟨vs, hv, hr⟩ := S.cell n _ a (chk_one c) (E.le n a ha)
  have hq : SqL K H' a vs := SqL.of hv
  refine ⟨fun i d e => ?_, ⟨vs, hq, by rw [enumD_len, hr.len]; exact Nat.le_refl _⟩⟩
  obtain ⟨x, ex, rfl⟩ := enumD_get e
  obtain ⟨v, hv2, hd⟩ := hr.get ex
  refine ⟨⟨vs, v, hq, hv2⟩, fun y H'' yl => ?_⟩
  obtain ⟨T, u, rfl, hT, rfl, hu⟩ := yl
  have := hu vs hq
  rw [hv2] at this
  cases this
  exact pair_new S hT (by simp [RelD]) hd
end
section
variable {X : Cx} {W : WX} {e : Expr} {fa : EE} {p pos tpos : Pos} {elts : List Expr} {kk : Nat}
theorem si_enumT (hm : X.mg "enumerate" = none) (ha : PE X e (rE X.K W fa)) (hg : Gl X "enumerate" := by rfl) (hs : starEach [e] X.env = [(false, eval e X.env)] := by rfl) : PI X (.Tuple elts kk tpos) (.Call (.Name "enumerate" p) [e] [] pos) (rI X.K W (fItET fa)) :=
  si_val (pi_enumT hg hm (pa_cons ha pa_nil hs) hs) (fun σ H R q => rd_mono q fun v H1 ⟨m1, h1, d, S1, r1, xs, G, h2, e, _, k⟩ => by
    cases d with
    | tup ys =>
      cases e
      simp only [RelD] at r1
      obtain ⟨a, vs, rfl, ha, hr⟩ := r1
      exact ⟨a, vs, rfl, SqT.of ha, k _ (walkS_enumT S1 ha hr)⟩
    | _ => cases e) fun d h => by
    cases d with
    | tup ys => exact .inl ⟨_, _, rfl⟩
    | _ => exact .inr rfl
theorem si_enumL (hm : X.mg "enumerate" = none) (ha : PE X e (rE X.K W fa)) (hg : Gl X "enumerate" := by rfl) (hs : starEach [e] X.env = [(false, eval e X.env)] := by rfl) : PI X (.Tuple elts kk tpos) (.Call (.Name "enumerate" p) [e] [] pos) (rI X.K W (fItEL fa)) :=
  si_val (pi_enum hg hm (pa_cons ha pa_nil hs) hs) (fun σ H R q => rd_mono q fun v H1 ⟨m1, h1, d, S1, r1, xs, G, h2, e, _, k⟩ => by
    cases d with
    | ref n =>
      dsimp only at e
      simp only [RelD] at r1
      obtain ⟨a, ha, rfl⟩ := r1
      split at e
      · rename_i ys hy
        cases e
        obtain ⟨vs, hv, hr⟩ := S1.cell n _ a hy ha
        exact ⟨a, vs, rfl, SqL.of hv, k _ (walkS_enumL ha)⟩
      · cases e
    | _ => cases e) fun d h => by
    cases d with
    | ref n =>
      dsimp only
      split
      · exact .inl ⟨_, _, rfl⟩
      · exact .inr rfl
    | _ => exact .inr rfl
end
end G9

set_option Elab.async false
set_option linter.all false
set_option maxRecDepth 100000
set_option maxHeartbeats 2000000
namespace G9
open PySem PySem.Spec PyProof.Rows L2

/-! ### comprehensions as expressions and in an assignment -/
section
variable {X : Cx} {W : WX} {elt tg iter : Expr} {ifs : List Expr} {scope : Scope} {own : List (Str × Nat)} {pos spos : Pos} {fi : EI} {g : EG} {fc : ET} {fa : EE}
theorem PTsw {t t' : TT} (h : PTs X ifs t) (w : ∀ σ H Q, t' σ H Q → t σ H Q) : PTs X ifs t' := ⟨fun pins s σ H Q I q => h.run pins s σ H Q I (w _ _ _ q)⟩
theorem sts_nil : PTs X [] (rT X.K W0 fYes) := PTsw pts_nil fun σ H Q q => by
  obtain ⟨m, s, h, S, r, p⟩ := q
  exact p _ _ _ Ext.refl S rfl
theorem sts_one {c : Expr} (h : PT X c (rT X.K W0 fc)) : PTs X [c] (rT X.K W0 fc) := pts_one h
theorem se_lc (hc : X.calm = true) (hN : X.N.Nodup) (ok : BlkOk X.N X.env.scope scope own) (hi : PI X tg iter (rI X.K W fi))
    (hg : ∀ (s : Shared) (H : Hp) (C : Addr) (cl : List (Str × Addr)) (fp : List Addr), PG (X.blk s H scope (compEnvC scope cl C X.env) fp) tg (rG X.K (own.map (·.2)) g))
    (ht : ∀ (s : Shared) (H : Hp) (C : Addr) (cl : List (Str × Addr)) (fp : List Addr), PTs (X.blk s H scope (compEnvC scope cl C X.env) fp) ifs (rT X.K W0 fc))
    (he : ∀ (s : Shared) (H : Hp) (C : Addr) (cl : List (Str × Addr)) (fp : List Addr), PE (X.blk s H scope (compEnvC scope cl C X.env) fp) elt (rE X.K W0 fa)) (hs : ∀ x, foldedSetIterable iter X.env x = pure x := by intro _; rfl) :
    PE X (.ListComp elt [⟨tg, iter, ifs, 0⟩] scope pos) (rE X.K W (fLc fi (own.map (·.2)) g fc fa)) := PEw (pe_lc hc hN hi ok hg ht he hs) (tLc_of _)
theorem ss_setLc {i : Nat} {y : Str} {py : Pos} (hc : X.calm = true) (hN : X.N.Nodup) (ok : BlkOk X.N X.env.scope scope own)
    (hsw : swapsWith (.ListComp elt [⟨tg, iter, ifs, 0⟩] scope pos) (some (.Name y py)) spos.line X.env = pure true) (hi : PI X tg iter (rI X.K W fi))
    (hg : ∀ (s : Shared) (H : Hp) (C : Addr) (cl : List (Str × Addr)) (fp : List Addr), PG (X.blk s H scope (compEnvC scope cl C X.env) fp) tg (rG X.K (own.map (·.2)) g))
    (ht : ∀ (s : Shared) (H : Hp) (C : Addr) (cl : List (Str × Addr)) (fp : List Addr), PTs (X.blk s H scope (compEnvC scope cl C X.env) fp) ifs (rT X.K W0 fc))
    (he : ∀ (s : Shared) (H : Hp) (C : Addr) (cl : List (Str × Addr)) (fp : List Addr), PE (X.blk s H scope (compEnvC scope cl C X.env) fp) elt (rE X.K W0 fa)) (hs : ∀ x, foldedSetIterable iter X.env x = pure x := by intro _; rfl)
    (hy : X.N[i]? = some y := by rfl) (hyl : X.env.scope.names.lookup y = some .local := by rfl) :
    PS X (.Assign [.Name y py] (.ListComp elt [⟨tg, iter, ifs, 0⟩] scope pos) spos) (rS X.K W (fSet i (fLc fi (own.map (·.2)) g fc fa))) :=
  PSw (ps_setLc hc hN hy hyl hsw hi ok hg ht he hs) fun En σ H q => by
    refine tLc_of _ σ H _ (rd_mono (rS_bind (R := RelD) (f := fLc fi (own.map (·.2)) g fc fa) (g := fun d s h1 => .nx (s.set i (some d)) h1) q) fun x H1 ⟨m1, s, h1, d1, S1, r1, q1, p1⟩ => ?_)
    exact p1 _ _ _ Ext.refl S1 (r1.set q1)
end

/-! ### more assignments -/
def fAsg (g : EG) (a : EE) : ES := fun s h => ofR s (a s h) fun d h1 => match g d s with
  | some s1 => .nx s1 h1
  | none => .bad
def fAugI (f : Int → Int → Int) (i : Nat) (a : EE) : ES := fun s h => match s[i]? with
  | some (some (.int x)) => ofR s (a s h) fun d h1 => (match d with
    | .int y => .nx (s.set i (some (.int (f x y)))) h1
    | _ => .bad)
  | _ => .bad
section
variable {X : Cx} {W : WX} {e tg : Expr} {fa : EE} {g : EG} {vs : List Nat} {pos : Pos}
theorem ss_asg (he : PE X e (rE X.K W fa)) (hg : PG X tg (rG X.K vs g)) (hs : swapsWithSole [tg] e pos.line X.env = pure false := by rfl) (hw : swappedStores [tg] e X.env = pure none := by rfl)
    (h1 : (assignEach [tg] X.env).map (·.2) = [assign tg X.env] := by rfl) : PS X (.Assign [tg] e pos) (rS X.K W (fAsg g fa)) := PSw (ps_asg he hg hs hw h1) fun En σ H q => by
  refine rd_mono (rS_bind (R := RelD) (f := fa) (g := fun d s h1 => match g d s with | some s1 => .nx s1 h1 | none => .bad) q) fun x H1 ⟨m1, s, h1, d1, S1, r1, q1, p1⟩ => ?_
  split at p1
  · rename_i s1 e1
    exact ⟨m1, s, h1, d1, s1, S1, r1, q1, e1, fun σ' r' _ => p1 _ _ _ Ext.refl S1 r'⟩
  · exact p1.elim
theorem ss_augAdd {i : Nat} {x : Str} {pos' : Pos} (hN : X.N.Nodup) (he : PE X e (rE X.K W fa)) (hi : X.N[i]? = some x := by rfl) (hx : Loc X.env.scope x := by first | exact Or.inl rfl | exact Or.inr rfl) (hf : X.fn x = true ∨ X.env.scope.names.lookup x = some .local := by first | exact .inl rfl | exact .inr rfl | assumption) :
    PS X (.AugAssign (.Name x pos') .Add e pos) (rS X.K W (fAugI (fun a b => a + b) i fa)) := PSw (ps_aug hN hi hx he ip_add hf) fun En σ H q => by
  obtain ⟨m, s, h, S, r, p⟩ := q
  unfold fAugI at p
  split at p
  · rename_i z ez
    obtain ⟨v, hv, hr⟩ := r.2 i _ ez
    simp only [RelD] at hr
    subst hr
    refine ⟨_, hv, ?_⟩
    refine ⟨m, s, h, S, r, ?_⟩
    cases e1 : fa s h with
    | ok d h1 =>
      rw [e1] at p
      intro m1 H1 y E1 S1 r1
      dsimp only [ofR] at p
      split at p
      · simp only [RelD] at r1
        exact ⟨_, _, rfl, r1, p _ _ _ E1 S1 ((r.mono S E1).set (by simp [RelD]))⟩
      · exact p.elim
    | exc c h1 => rw [e1] at p; exact fun m1 H1 E1 S1 => p m1 H1 σ E1 S1 (r.mono S E1)
    | bad => rw [e1] at p; exact p
  · exact p.elim
end

/-! ### built-ins by values -/
def bList : List D → HC → Res D
  | [.tup xs], h => newL xs h
  | [.ref n], h => (match asSeq h n with
    | some xs => newL xs h
    | none => .bad)
  | _, _ => .bad
def bTuple : List D → HC → Res D
  | [.tup xs], h => mkT xs h
  | [.ref n], h => (match asSeq h n with
    | some xs => mkT xs h
    | none => .bad)
  | _, _ => .bad
def intsD (xs : List D) : Option (List Int) := optAll (xs.map fun d => match d with
  | .int i => some i
  | _ => none)
def bSum : List D → HC → Res D
  | [.ref n], h => (match asSeq h n with
    | some xs => (match intsD xs with
      | some ns => .ok (.int ns.sum) h
      | none => .bad)
    | none => .bad)
  | _, _ => .bad
def maxI : List Int → Int
  | [] => 0
  | [x] => x
  | x :: xs => max x (maxI xs)
def minI : List Int → Int
  | [] => 0
  | [x] => x
  | x :: xs => min x (minI xs)
def bMax : List D → HC → Res D
  | [.int a, .int b], h => .ok (.int (if b > a then b else a)) h
  | [.ref n], h => (match asSeq h n with
    | some xs => (match intsD xs with
      | some (x :: ns) => .ok (.int (maxI (x :: ns))) h
      | _ => .bad)
    | none => .bad)
  | _, _ => .bad
def bMin : List D → HC → Res D
  | [.int a, .int b], h => .ok (.int (if b < a then b else a)) h
  | [.ref n], h => (match asSeq h n with
    | some xs => (match intsD xs with
      | some (x :: ns) => .ok (.int (minI (x :: ns))) h
      | _ => .bad)
    | none => .bad)
  | _, _ => .bad
section
variable {K : PySem.W.Frag} {m : Mp} {h : HC} {H : Hp}
theorem intsD_ok : ∀ {xs : List D} {vs : List V} {ns : List Int}, RelDs m H xs vs → intsD xs = some ns → vs = ns.map V.int
  | [], vs, ns, r, e => by
    simp only [RelDs] at r
    simp [intsD, optAll] at e
    subst e r
    rfl
  | d :: ds, vs, ns, r, e => by
    simp only [RelDs] at r
    obtain ⟨v, ws, rfl, h1, h2⟩ := r
    unfold intsD at e
    rw [List.map_cons] at e
    cases d with
    | int i =>
      simp only [RelD] at h1
      subst h1
      cases q2 : optAll (ds.map fun d => match d with | .int i => some i | _ => none) with
      | none => simp [optAll, q2] at e
      | some us =>
        simp [optAll, q2] at e
        subst e
        rw [List.map_cons, intsD_ok h2 q2]
    | _ => simp [optAll] at e
theorem cs_list : ClS K (fun xs H Q => ∃ p ys, xs = [.ref p] ∧ (SqL K H p ys ∨ SqT K H p ys) ∧ ∀ l, H l = none → Q (.ref l) (upd H l (.lst ys))) bList := by
  intro W σ m h H ds vs Q S r p
  unfold bList at p
  split at p
  · obtain ⟨v, rfl, rv⟩ := r.one
    simp only [RelD] at rv
    obtain ⟨a, us, rfl, ha, hr⟩ := rv
    exact newL_ok S hr p fun _ k => ⟨a, us, rfl, .inr (SqT.of ha), k⟩
  · split at p
    · rename_i xs hx
      obtain ⟨v, rfl, rv⟩ := r.one
      obtain ⟨a, us, rfl, _, hs, hr⟩ := S.seq rv hx
      exact newL_ok S hr p fun _ k => ⟨a, us, rfl, .inl hs, k⟩
    · exact p.elim
  · exact p.elim
theorem cs_tuple : ClS K (fun xs H Q => ∃ p ys, xs = [.ref p] ∧ ((SqL K H p ys ∧ ∀ l, H l = none → Q (.ref l) (upd H l (.tup ys))) ∨ (SqT K H p ys ∧ Q (.ref p) H))) bTuple := by
  intro W σ m h H ds vs Q S r p
  unfold bTuple at p
  split at p
  · obtain ⟨v, rfl, rv⟩ := r.one
    simp only [RelD] at rv
    obtain ⟨a, us, rfl, ha, hr⟩ := rv
    exact mkT_ok S hr p fun _ _ k => ⟨a, us, rfl, .inr ⟨SqT.of ha, k a ha⟩⟩
  · split at p
    · rename_i xs hx
      obtain ⟨v, rfl, rv⟩ := r.one
      obtain ⟨a, us, rfl, _, hs, hr⟩ := S.seq rv hx
      exact mkT_ok S hr p fun _ k _ => ⟨a, us, rfl, .inl ⟨hs, k⟩⟩
    · exact p.elim
  · exact p.elim
theorem cs_sum : ClS K (rSum K) bSum := by
  intro W σ m h H ds vs Q S r p
  unfold bSum at p
  split at p
  · split at p
    · rename_i xs hx
      split at p
      · rename_i ns hn
        obtain ⟨v, rfl, rv⟩ := r.one
        obtain ⟨a, us, rfl, _, hs, hr⟩ := S.seq rv hx
        have e := intsD_ok hr hn
        subst e
        exact ⟨a, ns, rfl, hs, p _ _ _ Ext.refl S (by simp [RelD])⟩
      · exact p.elim
    · exact p.elim
  · exact p.elim
theorem maxI_is : ∀ (x : Int) (ns : List Int), maxI (x :: ns) ∈ x :: ns ∧ ∀ y ∈ x :: ns, y ≤ maxI (x :: ns)
  | x, [] => by simp [maxI]
  | x, z :: ns => by
    obtain ⟨h1, h2⟩ := maxI_is z ns
    have e : maxI (x :: z :: ns) = max x (maxI (z :: ns)) := rfl
    rw [e]
    refine ⟨?_, fun y hy => ?_⟩
    · by_cases hc : x ≤ maxI (z :: ns)
      · rw [Int.max_eq_right hc]
        exact List.mem_cons_of_mem _ h1
      · rw [Int.max_eq_left (by omega)]
        exact List.mem_cons_self
    · rcases List.mem_cons.mp hy with rfl | hy
      · omega
      · have := h2 y hy
        omega
theorem minI_is : ∀ (x : Int) (ns : List Int), minI (x :: ns) ∈ x :: ns ∧ ∀ y ∈ x :: ns, minI (x :: ns) ≤ y
  | x, [] => by simp [minI]
  | x, z :: ns => by
    obtain ⟨h1, h2⟩ := minI_is z ns
    have e : minI (x :: z :: ns) = min x (minI (z :: ns)) := rfl
    rw [e]
    refine ⟨?_, fun y hy => ?_⟩
    · by_cases hc : x ≤ minI (z :: ns)
      · rw [Int.min_eq_left hc]
        exact List.mem_cons_self
      · rw [Int.min_eq_right (by omega)]
        exact List.mem_cons_of_mem _ h1
    · rcases List.mem_cons.mp hy with rfl | hy
      · omega
      · have := h2 y hy
        omega
def rMaxAll (K : PySem.W.Frag) : List V → Hp → VK → Prop := fun xs H Q => (∃ i j, xs = [.int i, .int j] ∧ Q (.int (if j > i then j else i)) H) ∨ rMax K xs H Q
def rMinAll (K : PySem.W.Frag) : List V → Hp → VK → Prop := fun xs H Q => (∃ i j, xs = [.int i, .int j] ∧ Q (.int (if j < i then j else i)) H) ∨ rMin K xs H Q
theorem call_maxAll {X : Cx} (hc : X.calm = true) : CallR X (.builtin "max") (rMaxAll X.K) := CallR.or (call_max2 hc) (cr_max hc)
theorem call_minAll {X : Cx} (hc : X.calm = true) : CallR X (.builtin "min") (rMinAll X.K) := CallR.or (call_min2 hc) (cr_min hc)
theorem cs_max : ClS K (rMaxAll K) bMax := by
  intro W σ m h H ds vs Q S r p
  unfold bMax at p
  split at p
  · obtain ⟨v, w, rfl, r1, r2⟩ := r.two
    simp only [RelD] at r1 r2
    subst r1 r2
    exact .inl ⟨_, _, rfl, p _ _ _ Ext.refl S (by simp [RelD])⟩
  · split at p
    · rename_i xs hx
      split at p
      · rename_i x ns hn
        obtain ⟨v, rfl, rv⟩ := r.one
        obtain ⟨a, us, rfl, _, hs, hr⟩ := S.seq rv hx
        have e := intsD_ok hr hn
        subst e
        obtain ⟨e1, e2⟩ := maxI_is x ns
        refine .inr ⟨a, x :: ns, rfl, hs, by simp, fun z h1 h2 => ?_⟩
        have ez : z = maxI (x :: ns) := Int.le_antisymm (e2 z h1) (h2 _ e1)
        rw [ez]
        exact p _ _ _ Ext.refl S (by simp [RelD])
      · exact p.elim
    · exact p.elim
  · exact p.elim
theorem cs_min : ClS K (rMinAll K) bMin := by
  intro W σ m h H ds vs Q S r p
  unfold bMin at p
  split at p
  · obtain ⟨v, w, rfl, r1, r2⟩ := r.two
    simp only [RelD] at r1 r2
    subst r1 r2
    exact .inl ⟨_, _, rfl, p _ _ _ Ext.refl S (by simp [RelD])⟩
  · split at p
    · rename_i xs hx
      split at p
      · rename_i x ns hn
        obtain ⟨v, rfl, rv⟩ := r.one
        obtain ⟨a, us, rfl, _, hs, hr⟩ := S.seq rv hx
        have e := intsD_ok hr hn
        subst e
        obtain ⟨e1, e2⟩ := minI_is x ns
        refine .inr ⟨a, x :: ns, rfl, hs, by simp, fun z h1 h2 => ?_⟩
        have ez : z = minI (x :: ns) := Int.le_antisymm (h2 _ e1) (e2 z h1)
        rw [ez]
        exact p _ _ _ Ext.refl S (by simp [RelD])
      · exact p.elim
    · exact p.elim
  · exact p.elim
end

/-! ### sorting -/
section
variable {α β : Type} {lt : α → α → Bool}
def insO (lt : α → α → Bool) (y : α) : List α → List α
  | [] => [y]
  | x :: l => if lt y x = true then y :: x :: l else x :: insO lt y l
def sortO (lt : α → α → Bool) (xs : List α) : List α := xs.foldl (fun acc y => insO lt y acc) []
theorem insO_split (O : SrtO.Swo lt) (y : α) : ∀ l : List α, SrtO.Srtd lt l → ∃ M N, l = M ++ N ∧ insO lt y l = M ++ y :: N ∧ (∀ x ∈ M, lt y x = false) ∧ ∀ x ∈ N, lt y x = true
  | [], _ => ⟨[], [], rfl, rfl, by simp, by simp⟩
  | x :: l, h => by
    unfold insO
    rcases SrtO.bcase (lt y x) with q | q
    · rw [if_pos q]
      exact ⟨[], x :: l, rfl, rfl, by simp, O.lt_all h q⟩
    · rw [if_neg (by rw [q]; decide)]
      obtain ⟨M, N, e1, e2, h1, h2⟩ := insO_split O y l (List.pairwise_cons.mp h).2
      refine ⟨x :: M, N, by rw [e1]; rfl, by rw [e2]; rfl, fun z hz => ?_, h2⟩
      rcases List.mem_cons.mp hz with rfl | hz
      · exact q
      · exact h1 z hz
theorem sortO_fold (O : SrtO.Swo lt) : ∀ (xs acc pre : List α), SrtO.Srtd lt acc → SrtO.Stb lt acc pre → SrtO.Srtd lt (xs.foldl (fun acc y => insO lt y acc) acc) ∧ SrtO.Stb lt (xs.foldl (fun acc y => insO lt y acc) acc) (pre ++ xs)
  | [], acc, pre, h1, h2 => ⟨h1, by simpa using h2⟩
  | y :: xs, acc, pre, h1, h2 => by
    obtain ⟨M, N, e1, e2, h3, h4⟩ := insO_split O y acc h1
    subst e1
    have s1 := SrtO.ins_srtd O h1 h3 h4
    have s2 := SrtO.ins_stb O h4 h2
    rw [← e2] at s1 s2
    have := sortO_fold O xs (insO lt y (M ++ N)) (pre ++ [y]) s1 s2
    simpa using this
theorem sortO_ok (O : SrtO.Swo lt) (xs : List α) : SrtO.Srtd lt (sortO lt xs) ∧ SrtO.Stb lt (sortO lt xs) xs := by
  have := sortO_fold O xs [] [] List.Pairwise.nil (SrtO.Stb.refl [])
  simpa [sortO] using this
theorem sortO_uniq (O : SrtO.Swo lt) {xs ys : List α} (h1 : SrtO.Srtd lt ys) (h2 : SrtO.Stb lt ys xs) : ys = sortO lt xs := by
  obtain ⟨s1, s2⟩ := sortO_ok O xs
  refine SrtO.stb_uniq O h1 s1 (h2.trans ⟨s2.perm.symm, fun x => (s2.cls x).symm⟩)
end
section
variable {m : Mp} {H : Hp}
theorem insO_rel {ltd : D → D → Bool} {ltv : V → V → Bool} {P : D → Prop} (hl : ∀ d e v w, P d → P e → RelD m H d v → RelD m H e w → ltd d e = ltv v w) {d : D} {v : V} (hd : P d) (rd : RelD m H d v) : ∀ {ds : List D} {vs : List V}, (∀ x ∈ ds, P x) → RelDs m H ds vs → RelDs m H (insO ltd d ds) (insO ltv v vs)
  | [], vs, hp, r => by
    simp only [RelDs] at r
    subst r
    exact RelDs.cons rd RelDs.nil
  | e :: ds, vs, hp, r => by
    simp only [RelDs] at r
    obtain ⟨w, ws, rfl, h1, h2⟩ := r
    unfold insO
    rw [hl d e v w hd (hp e List.mem_cons_self) rd h1]
    by_cases hc : ltv v w = true
    · rw [if_pos hc, if_pos hc]
      exact RelDs.cons rd (RelDs.cons h1 h2)
    · rw [if_neg hc, if_neg hc]
      exact RelDs.cons h1 (insO_rel hl hd rd (fun x hx => hp x (List.mem_cons_of_mem _ hx)) h2)
theorem insO_all {ltd : D → D → Bool} {P : D → Prop} {d : D} (hd : P d) : ∀ {ds : List D}, (∀ x ∈ ds, P x) → ∀ x ∈ insO ltd d ds, P x
  | [], hp, x, hx => by
    have : x = d := by simpa [insO] using hx
    rw [this]
    exact hd
  | e :: ds, hp, x, hx => by
    unfold insO at hx
    split at hx
    · rcases List.mem_cons.mp hx with rfl | hx
      · exact hd
      · exact hp x hx
    · rcases List.mem_cons.mp hx with rfl | hx
      · exact hp _ List.mem_cons_self
      · exact insO_all hd (fun x hx => hp x (List.mem_cons_of_mem _ hx)) x hx
theorem sortO_rel {ltd : D → D → Bool} {ltv : V → V → Bool} {P : D → Prop} (hl : ∀ d e v w, P d → P e → RelD m H d v → RelD m H e w → ltd d e = ltv v w) : ∀ {ds : List D} {vs : List V}, (∀ x ∈ ds, P x) → RelDs m H ds vs → RelDs m H (sortO ltd ds) (sortO ltv vs) := by
  have key : ∀ (ds : List D) (vs : List V) (as : List D) (us : List V), (∀ x ∈ ds, P x) → (∀ x ∈ as, P x) → RelDs m H ds vs → RelDs m H as us → RelDs m H (ds.foldl (fun acc y => insO ltd y acc) as) (vs.foldl (fun acc y => insO ltv y acc) us) := by
    intro ds
    induction ds with
    | nil => intro vs as us _ _ r q; simp only [RelDs] at r; subst r; exact q
    | cons d ds ih =>
      intro vs as us hp ha r q
      simp only [RelDs] at r
      obtain ⟨w, ws, rfl, h1, h2⟩ := r
      exact ih ws _ _ (fun x hx => hp x (List.mem_cons_of_mem _ hx)) (insO_all (hp d List.mem_cons_self) ha) h2 (insO_rel hl (hp d List.mem_cons_self) h1 ha q)
  intro ds vs hp r
  exact key ds vs [] [] hp (by simp) r RelDs.nil
end
def keyP : D → Option (Int × Int)
  | .tup [.int a, .int b] => some (a, b)
  | _ => none
def ltPD (d e : D) : Bool := match keyP d, keyP e with
  | some p, some q => SrtO.lexB p q
  | _, _ => false
def bSorted : List D → HC → Res D
  | [.ref n], h => (match asSeq h n with
    | some xs => (match intsD xs with
      | some ns => newL ((sortO (fun a b => decide (a < b)) ns).map D.int) h
      | none => if xs.all (fun d => (keyP d).isSome) = true then newL (sortO ltPD xs) h else .bad)
    | none => .bad)
  | _, _ => .bad
def rSortedAll (K : PySem.W.Frag) : List V → Hp → VK → Prop := fun vs H Q => rSortedI K vs H Q ∨ rSortedPO K vs H Q
theorem call_sortedAll {X : Cx} : CallR X (.builtin "sorted") (rSortedAll X.K) := CallR.or cr_sortedI cr_sortedPO
def kOf (H : Hp) : V → Int × Int
  | .ref t => (match H t with
    | some (.tup [.int i, .int j]) => (i, j)
    | _ => (0, 0))
  | _ => (0, 0)
theorem keyP_ok {m : Mp} {H : Hp} {d : D} {v : V} {p : Int × Int} (r : RelD m H d v) (e : keyP d = some p) : ∃ t, v = .ref t ∧ H t = some (.tup [.int (kOf H v).1, .int (kOf H v).2]) ∧ kOf H v = p := by
  unfold keyP at e
  split at e
  · cases e
    simp only [RelD] at r
    obtain ⟨t, us, rfl, ht, hr⟩ := r
    obtain ⟨u, w, rfl, r1, r2⟩ := hr.two
    simp only [RelD] at r1 r2
    subst r1 r2
    have e2 : ∀ x y : Int, H t = some (.tup [.int x, .int y]) → kOf H (.ref t) = (x, y) := fun x y hxy => by
      unfold kOf
      simp only [hxy]
    rw [e2 _ _ ht]
    exact ⟨t, rfl, ht, rfl⟩
  · cases e
theorem swo_lt : SrtO.Swo (fun a b : Int => decide (a < b)) := ⟨fun x y h => by simp at h ⊢; omega, fun x y z h1 h2 => by simp at h1 h2 ⊢; omega⟩
theorem newL_sorted {K : PySem.W.Frag} : ClS K (rSortedAll K) bSorted := by
  intro W σ m h H ds vs Q S r p
  unfold bSorted at p
  split at p
  · split at p
    · rename_i xs hx
      obtain ⟨v, rfl, rv⟩ := r.one
      obtain ⟨a, us, rfl, _, hs, hr⟩ := S.seq rv hx
      split at p
      · rename_i ns hn
        have e := intsD_ok hr hn
        subst e
        refine newL_ok S (RelDs.ints (m := m) (H := H)) p fun _ k => .inl ⟨a, ns, rfl, hs, fun ns' q hp hw hq => ?_⟩
        obtain ⟨s1, s2⟩ := sortO_ok swo_lt ns
        have es : ns' = sortO (fun a b => decide (a < b)) ns := PySem.W.ksm_same (hp.trans s2.perm.symm) hw (s1.imp fun {x y} hxy => by simpa using hxy)
        rw [es]
        exact k q hq
      · split at p
        · rename_i hall
          have hk : ∀ d ∈ xs, ∃ q, keyP d = some q := fun d hd => by
            have := List.all_eq_true.mp hall d hd
            exact Option.isSome_iff_exists.mp this
          have hl : ∀ d e v w, (∃ q, keyP d = some q) → (∃ q, keyP e = some q) → RelD m H d v → RelD m H e w → ltPD d e = ltP (kOf H) v w := fun d e v w ⟨q1, h1⟩ ⟨q2, h2⟩ rd re => by
            obtain ⟨_, _, _, k1⟩ := keyP_ok rd h1
            obtain ⟨_, _, _, k2⟩ := keyP_ok re h2
            unfold ltPD
            rw [h1, h2]
            show SrtO.lexB q1 q2 = SrtO.lexB (kOf H v) (kOf H w)
            rw [k1, k2]
          refine newL_ok S (sortO_rel hl hk hr) p fun _ k => .inr ⟨a, us, kOf H, rfl, hs, fun x hx => ?_, fun ys q h1 h2 hq => ?_⟩
          · obtain ⟨i, hi⟩ := List.mem_iff_getElem?.mp hx
            obtain ⟨d, hd, rd⟩ := hr.get2 hi
            obtain ⟨z, hz⟩ := hk d (List.mem_of_getElem? hd)
            obtain ⟨t, e1, e2, _⟩ := keyP_ok rd hz
            exact ⟨t, e1, e2⟩
          · rw [sortO_uniq (ltP_swo (kOf H)) h1 h2]
            exact k q hq
        · exact p.elim
    · exact p.elim
  · exact p.elim
end G9

set_option Elab.async false
set_option linter.all false
set_option maxRecDepth 100000
set_option maxHeartbeats 2000000
namespace G9
open PySem PySem.Spec PyProof.Rows L2

/-! ### methods of built-in things -/
def hasTy (T : String) (h : HC) : D → Bool
  | .str _ => decide (T = "str")
  | .ref n => (match h[n]? with
    | some (.lst _) => decide (T = "list")
    | some (.dk _) => decide (T = "dict")
    | some (.dt _) => decide (T = "dict")
    | _ => false)
  | _ => false
theorem hasTy_ok {K : PySem.W.Frag} {m : Mp} {h : HC} {H : Hp} {d : D} {v : V} {T : String} (S : Sm K m h H) (r : RelD m H d v) (e : hasTy T h d = true) : tyV K T v H := by
  unfold hasTy at e
  split at e
  · simp only [RelD] at r
    subst r
    show T = "str"
    exact of_decide_eq_true e
  · simp only [RelD] at r
    obtain ⟨a, ha, rfl⟩ := r
    split at e
    · rename_i xs hx
      obtain ⟨vs, hv, _⟩ := S.cell _ _ a hx ha
      exact .inl ⟨of_decide_eq_true e, vs, SqL.of hv⟩
    · rename_i xs hx
      obtain ⟨vs, hv, _⟩ := S.cell _ _ a hx ha
      exact .inr (.inr (.inl ⟨of_decide_eq_true e, .inl ⟨vs, hv⟩⟩))
    · rename_i xs hx
      obtain ⟨vs, hv, _⟩ := S.cell _ _ a hx ha
      exact .inr (.inr (.inl ⟨of_decide_eq_true e, .inr ⟨vs, hv⟩⟩))
    · cases e
  · cases e
def MtS (K : PySem.W.Frag) (r : V → List V → Hp → VK → Prop) (f : D → List D → HC → Res D) : Prop :=
  ∀ (W : WX) (σ : L2.St) (m : Mp) (h : HC) (H : Hp) (d : D) (ds : List D) (v : V) (vs : List V) (Q : VK), Sm K m h H → RelD m H d v → RelDs m H ds vs → post RelD K W σ m H Q (f d ds h) → r v vs H Q
def fMt (T : String) (f : D → List D → HC → Res D) (o : EE) (as : EA) : EE := fun s h => (o s h).bind fun x h1 => if hasTy T h1 x = true then (as s h1).bind fun xs h2 => f x xs h2 else .bad
def fMt0 (T : String) (f : D → List D → HC → Res D) (o : EE) : EE := fun s h => (o s h).bind fun x h1 => if hasTy T h1 x = true then f x [] h1 else .bad
section
variable {X : Cx} {W : WX} {o e : Expr} {es : List Expr} {fo : EE} {as : EA} {name : Str} {apos cpos : Pos} {T id : String} {r : V → List V → Hp → VK → Prop} {f : D → List D → HC → Res D}
theorem se_mt (pa : PlainAttrs T) (slot : Slot T name id) (hty : typeOf (.builtin id) = pure (.type "method_descriptor")) (hm : MtR X id r) (hs' : MtS X.K r f) (ho : PE X o (rE X.K W fo)) (ha : PA X (e :: es) (rA X.K W as))
    (hbase : attributeBase o name X.env (eval o X.env) = eval o X.env := by rfl)
    (hfew : ((backTo cpos (starEach (e :: es) X.env)).all (fun x => !x.1) && (backToKw cpos (keywordEach [] X.env)).all (fun x => x.1.isSome)
      && decide ((e :: es).length + ([] : List Keyword).length + (if ([] : List Keyword).isEmpty then 0 else 1) < 30)) = true := by rfl)
    (hline : (apos.endLine == cpos.line) = true := by rfl) (hs : starEach (e :: es) X.env = (false, eval e X.env) :: starEach es X.env := by rfl) (hplain : (backTo cpos (starEach es X.env)).any (·.1) = false := by rfl) :
    PE X (.Call (.Attribute o name apos) (e :: es) [] cpos) (rE X.K W (fMt T f fo as)) :=
  PEw (pe_bm pa slot hty hm ho ha hbase hfew hline hs hplain) fun σ H Q q => by
    refine rd_mono (rd_bind (R := RelD) (f := fo) (g := fun x s h1 => if hasTy T h1 x = true then (as s h1).bind fun xs h2 => f x xs h2 else .bad) q) fun x H1 ⟨m1, s, h1, d1, S1, r1, q1, p1⟩ => ?_
    split at p1
    · rename_i ht
      refine ⟨hasTy_ok S1 q1 ht, m1, s, h1, S1, r1, ?_⟩
      cases e2 : as s h1 with
      | ok ds h2 =>
        rw [e2] at p1
        exact fun m2 H2 us E2 S2 q2 => hs' W σ m2 h2 H2 d1 ds x us Q S2 (q1.mono S1 E2) q2 (post_ext p1 E2)
      | exc c h2 => rw [e2] at p1; exact p1
      | bad => rw [e2] at p1; exact p1
    · exact p1.elim
theorem se_mt0 (pa : PlainAttrs T) (slot : Slot T name id) (hty : typeOf (.builtin id) = pure (.type "method_descriptor")) (hm : MtR X id r) (hs' : MtS X.K r f) (ho : PE X o (rE X.K W fo))
    (hbase : attributeBase o name X.env (eval o X.env) = eval o X.env := by rfl) (hline : (apos.endLine == cpos.line) = true := by rfl) : PE X (.Call (.Attribute o name apos) [] [] cpos) (rE X.K W (fMt0 T f fo)) :=
  PEw (pe_bm0 pa slot hty hm ho hbase hline) fun σ H Q q => by
    refine rd_mono (rd_bind (R := RelD) (f := fo) (g := fun x s h1 => if hasTy T h1 x = true then f x [] h1 else .bad) q) fun x H1 ⟨m1, s, h1, d1, S1, r1, q1, p1⟩ => ?_
    split at p1
    · rename_i ht
      exact ⟨hasTy_ok S1 q1 ht, hs' W σ m1 h1 H1 d1 [] x [] Q S1 q1 RelDs.nil p1⟩
    · exact p1.elim
end
/-- a list is written anew -/
theorem Sm.setL {K : PySem.W.Frag} {m : Mp} {h : HC} {H : Hp} (S : Sm K m h H) {n : Nat} {a : Addr} {vs us : List V} {ys : List D} (ha : m.ad[n]? = some a) (hv : H a = some (.lst vs)) (r : RelDs m H ys us) :
    Sm K m (h.set n (.lst ys)) (upd H a (.lst us)) ∧ Ext m m H (upd H a (.lst us)) := by
  have ht : ∀ q ws, H q = some (.tup ws) → upd H a (.lst us) q = some (.tup ws) := fun q ws e => by
    rw [upd_ne (fun z => by rw [z, hv] at e; cases e)]
    exact e
  exact S.setC ha ⟨us, upd_same, RelDs.mono_ (fun _ _ z => z) ⟨rfl, rfl⟩ ht _ _ r⟩
def setCell (h : HC) (n : Nat) (c : Cell) : HC := h.set n c
def mAppend : D → List D → HC → Res D
  | .ref n, [y], h => (match h[n]? with
    | some (.lst xs) => if xs.length < BIG then .ok .non (h.set n (.lst (xs ++ [y]))) else .bad
    | _ => .bad)
  | _, _, _ => .bad
def mExtend : D → List D → HC → Res D
  | .ref n, [.ref k], h => (match h[n]?, h[k]? with
    | some (.lst xs), some (.lst ys) => if xs.length + ys.length ≤ BIG then .ok .non (h.set n (.lst (xs ++ ys))) else .bad
    | _, _ => .bad)
  | _, _, _ => .bad
def mPop : D → List D → HC → Res D
  | .ref n, [], h => (match h[n]? with
    | some (.lst xs) => (match xs[xs.length - 1]? with
      | some y => .ok y (h.set n (.lst xs.dropLast))
      | none => .bad)
    | _ => .bad)
  | .ref n, [.int i], h => (match h[n]? with
    | some (.lst xs) => if -(2 ^ 63) ≤ i ∧ i < 2 ^ 63 then (match seqIndex? i xs.length with
      | some k => (match xs[k]? with
        | some y => .ok y (h.set n (.lst (xs.eraseIdx k)))
        | none => .bad)
      | none => .bad) else .bad
    | _ => .bad)
  | _, _, _ => .bad
def mClear : D → List D → HC → Res D
  | .ref n, [], h => (match h[n]? with
    | some (.lst _) => .ok .non (h.set n (.lst []))
    | _ => .bad)
  | _, _, _ => .bad
section
variable {K : PySem.W.Frag}
theorem ms_append : MtS K rAppend mAppend := by
  intro W σ m h H d ds v vs Q S rd r p
  unfold mAppend at p
  split at p
  · split at p
    · rename_i xs hx
      split at p
      · rename_i hl
        obtain ⟨a, us, rfl, ha, hv, hr⟩ := S.lst rd hx
        obtain ⟨y, rfl, ry⟩ := r.one
        obtain ⟨S1, E1⟩ := S.setL ha hv (hr.append (RelDs.cons ry RelDs.nil))
        exact ⟨a, us, y, rfl, rfl, hv, by rw [← hr.len]; exact Nat.lt_of_lt_of_le hl big_le, p _ _ _ E1 S1 (by simp [RelD])⟩
      · exact p.elim
    · exact p.elim
  · exact p.elim
theorem ms_extend : MtS K rExtend mExtend := by
  intro W σ m h H d ds v vs Q S rd r p
  unfold mExtend at p
  split at p
  · split at p
    · rename_i xs ys hx hy
      split at p
      · rename_i hl
        obtain ⟨a, us, rfl, ha, hv, hr⟩ := S.lst rd hx
        obtain ⟨y, rfl, ry⟩ := r.one
        obtain ⟨b, ws, rfl, hb, hw, hrb⟩ := S.lst ry hy
        obtain ⟨S1, E1⟩ := S.setL ha hv (hr.append hrb)
        exact ⟨a, b, us, ws, rfl, rfl, hv, hw, by rw [← hr.len, ← hrb.len]; exact Nat.le_trans hl big_le, p _ _ _ E1 S1 (by simp [RelD])⟩
      · exact p.elim
    · exact p.elim
  · exact p.elim
theorem RelDs.dropLast {m : Mp} {H : Hp} {ds : List D} {vs : List V} (r : RelDs m H ds vs) : RelDs m H ds.dropLast vs.dropLast := by
  rw [List.dropLast_eq_take, List.dropLast_eq_take, ← r.len]
  exact r.take _
def rPopAll : V → List V → Hp → VK → Prop := fun x vs H Q => rPop x vs H Q ∨ rPopAt x vs H Q
theorem mt_popAll {X : Cx} : MtR X "list.pop" rPopAll := MtR.or mt_pop mt_popAt
theorem ms_pop : MtS K rPopAll mPop := by
  intro W σ m h H d ds v vs Q S rd r p
  unfold mPop at p
  split at p
  · split at p
    · rename_i xs hx
      split at p
      · rename_i y hy
        obtain ⟨a, us, rfl, ha, hv, hr⟩ := S.lst rd hx
        simp only [RelDs] at r
        subst r
        obtain ⟨w, hw, rw'⟩ := hr.get hy
        obtain ⟨S1, E1⟩ := S.setL ha hv hr.dropLast
        exact .inl ⟨a, us, w, rfl, rfl, hv, by rw [← hr.len]; exact hw, p _ _ _ E1 S1 (rw'.mono S E1)⟩
      · exact p.elim
    · exact p.elim
  · split at p
    · rename_i xs hx
      split at p
      · rename_i hi
        split at p
        · rename_i k hk
          split at p
          · rename_i y hy
            obtain ⟨a, us, rfl, ha, hv, hr⟩ := S.lst rd hx
            obtain ⟨w, rfl, rw'⟩ := r.one
            simp only [RelD] at rw'
            subst rw'
            obtain ⟨z, hz, rz⟩ := hr.get hy
            obtain ⟨S1, E1⟩ := S.setL ha hv (hr.erase k)
            exact .inr ⟨a, us, _, k, z, rfl, rfl, hv, hi.1, hi.2, by rw [← hr.len]; exact hk, hz, p _ _ _ E1 S1 (rz.mono S E1)⟩
          · exact p.elim
        · exact p.elim
      · exact p.elim
    · exact p.elim
  · exact p.elim
theorem ms_clear : MtS K rClear mClear := by
  intro W σ m h H d ds v vs Q S rd r p
  unfold mClear at p
  split at p
  · split at p
    · rename_i xs hx
      obtain ⟨a, us, rfl, ha, hv, hr⟩ := S.lst rd hx
      simp only [RelDs] at r
      subst r
      obtain ⟨S1, E1⟩ := S.setL (us := []) ha hv RelDs.nil
      exact ⟨a, us, rfl, rfl, hv, p _ _ _ E1 S1 (by simp [RelD])⟩
    · exact p.elim
  · exact p.elim
/-- texts of a list -/
def strsD (xs : List D) : Option (List Str) := optAll (xs.map fun d => match d with
  | .str i => some i
  | _ => none)
theorem strsD_ok {m : Mp} {H : Hp} : ∀ {xs : List D} {vs : List V} {ns : List Str}, RelDs m H xs vs → strsD xs = some ns → vs = ns.map V.str
  | [], vs, ns, r, e => by
    simp only [RelDs] at r
    simp [strsD, optAll] at e
    subst e r
    rfl
  | d :: ds, vs, ns, r, e => by
    simp only [RelDs] at r
    obtain ⟨v, ws, rfl, h1, h2⟩ := r
    unfold strsD at e
    rw [List.map_cons] at e
    cases d with
    | str i =>
      simp only [RelD] at h1
      subst h1
      cases q2 : optAll (ds.map fun d => match d with | .str i => some i | _ => none) with
      | none => simp [optAll, q2] at e
      | some us =>
        simp [optAll, q2] at e
        subst e
        rw [List.map_cons, strsD_ok h2 q2]
    | _ => simp [optAll] at e
def joinOk (a : Str) (ys : List Str) : Bool := decide ((ys.map (·.length)).sum + ys.length * a.length ≤ BIG)
def mJoin : D → List D → HC → Res D
  | .str a, [.ref n], h => (match asSeq h n with
    | some xs => (match strsD xs with
      | some ys => if joinOk a ys = true then .ok (.str (Txt.join a ys)) h else .bad
      | none => .bad)
    | none => .bad)
  | .str a, [.tup xs], h => (match strsD xs with
      | some ys => if joinOk a ys = true then .ok (.str (Txt.join a ys)) h else .bad
      | none => .bad)
  | _, _, _ => .bad
theorem big24 : BIG ≤ 16777216 := by decide
theorem ms_join : MtS K (fun x xs H Q => ∃ a p, ∃ ys : List Str, x = .str a ∧ xs = [.ref p] ∧ (SqL K H p (ys.map V.str) ∨ SqT K H p (ys.map V.str)) ∧
    (ys.map (·.length)).sum + ys.length * a.length ≤ 16777216 ∧ Q (.str (Txt.join a ys)) H) mJoin := by
  intro W σ m h H d ds v vs Q S rd r p
  unfold mJoin at p
  split at p
  · split at p
    · rename_i xs hx
      split at p
      · rename_i ys hy
        split at p
        · rename_i hj
          obtain ⟨w, rfl, rw'⟩ := r.one
          obtain ⟨a, us, rfl, _, hs, hr⟩ := S.seq rw' hx
          simp only [RelD] at rd
          have e := strsD_ok hr hy
          subst e
          exact ⟨_, a, ys, rd, rfl, .inl hs, Nat.le_trans (of_decide_eq_true hj) big24, p _ _ _ Ext.refl S (by simp [RelD])⟩
        · exact p.elim
      · exact p.elim
    · exact p.elim
  · split at p
    · rename_i ys hy
      split at p
      · rename_i hj
        obtain ⟨w, rfl, rw'⟩ := r.one
        simp only [RelD] at rw' rd
        obtain ⟨a, us, rfl, ha, hr⟩ := rw'
        have e := strsD_ok hr hy
        subst e
        exact ⟨_, a, ys, rd, rfl, .inr (SqT.of ha), Nat.le_trans (of_decide_eq_true hj) big24, p _ _ _ Ext.refl S (by simp [RelD])⟩
      · exact p.elim
    · exact p.elim
  · exact p.elim
end

/-! ### dicts -/
def toKey : D → Option Key
  | .int i => some (.inl i)
  | .str s => some (.inr s)
  | _ => none
def valD {κ : Type} [DecidableEq κ] (kvs : List (κ × D)) (k : κ) : Option D := (kvs.find? fun kv => decide (kv.1 = k)).map (·.2)
def putD {κ : Type} [DecidableEq κ] (kvs : List (κ × D)) (k : κ) (v : D) : List (κ × D) :=
  if (kvs.any fun kv => decide (kv.1 = k)) = true then kvs.map fun kv => if kv.1 = k then (kv.1, v) else kv else kvs ++ [(k, v)]
def mergeD (kvs : List (Key × D)) : List (Key × D) := kvs.foldl (fun acc kv => putD acc kv.1 kv.2) []
section
variable {m : Mp} {H : Hp} {κ : Type} [DecidableEq κ]
theorem toKey_ok {d : D} {v : V} {k : Key} (e : toKey d = some k) (r : RelD m H d v) : v = kV k := by
  cases d <;> simp [toKey] at e <;> subst e <;> simp only [RelD] at r <;> exact r
theorem RelK.val : ∀ {kvs : List (κ × D)} {vs : List (κ × V)} {k : κ} {d : D}, RelK m H kvs vs → valD kvs k = some d → ∃ v, valV vs k = some v ∧ RelD m H d v
  | [], vs, k, d, r, e => by simp [valD] at e
  | q :: kvs, vs, k, d, r, e => by
    simp only [RelK] at r
    obtain ⟨v, ws, rfl, hk, h1, h2⟩ := r
    by_cases hc : q.1 = k
    · simp [valD, List.find?_cons, hc] at e
      subst e
      exact ⟨v.2, by rw [valV_pos (by rw [← hk]; exact hc)], h1⟩
    · have e2 : valD kvs k = some d := by simpa [valD, List.find?_cons, hc] using e
      obtain ⟨w, hw, hr⟩ := RelK.val h2 e2
      exact ⟨w, by rw [valV_neg (by rw [← hk]; exact hc)]; exact hw, hr⟩
theorem RelK.valN : ∀ {kvs : List (κ × D)} {vs : List (κ × V)} {k : κ}, RelK m H kvs vs → valD kvs k = none → valV vs k = none
  | [], vs, k, r, e => by simp only [RelK] at r; subst r; rfl
  | q :: kvs, vs, k, r, e => by
    simp only [RelK] at r
    obtain ⟨v, ws, rfl, hk, h1, h2⟩ := r
    by_cases hc : q.1 = k
    · simp [valD, List.find?_cons, hc] at e
    · have e2 : valD kvs k = none := by simpa [valD, List.find?_cons, hc] using e
      rw [valV_neg (by rw [← hk]; exact hc)]
      exact RelK.valN h2 e2
theorem RelK.any : ∀ {kvs : List (κ × D)} {vs : List (κ × V)} (k : κ), RelK m H kvs vs → (kvs.any fun kv => decide (kv.1 = k)) = vs.any fun kv => decide (kv.1 = k)
  | [], vs, k, r => by simp only [RelK] at r; subst r; rfl
  | q :: kvs, vs, k, r => by
    simp only [RelK] at r
    obtain ⟨v, ws, rfl, hk, h1, h2⟩ := r
    rw [List.any_cons, List.any_cons, hk, RelK.any k h2]
theorem RelK.repl {d : D} {v : V} (rd : RelD m H d v) : ∀ {kvs : List (κ × D)} {vs : List (κ × V)} (k : κ), RelK m H kvs vs → RelK m H (kvs.map fun kv => if kv.1 = k then (kv.1, d) else kv) (vs.map fun kv => if kv.1 = k then (kv.1, v) else kv)
  | [], vs, k, r => by simp only [RelK] at r; subst r; simp [RelK]
  | q :: kvs, vs, k, r => by
    simp only [RelK] at r
    obtain ⟨w, ws, rfl, hk, h1, h2⟩ := r
    rw [List.map_cons, List.map_cons]
    simp only [RelK]
    refine ⟨_, _, rfl, ?_, ?_, RelK.repl rd k h2⟩
    · by_cases hc : q.1 = k
      · rw [if_pos hc, if_pos (by rw [← hk]; exact hc)]
        exact hk
      · rw [if_neg hc, if_neg (by rw [← hk]; exact hc)]
        exact hk
    · by_cases hc : q.1 = k
      · rw [if_pos hc, if_pos (by rw [← hk]; exact hc)]
        exact rd
      · rw [if_neg hc, if_neg (by rw [← hk]; exact hc)]
        exact h1
theorem RelK.snoc {d : D} {v : V} (rd : RelD m H d v) : ∀ {kvs : List (κ × D)} {vs : List (κ × V)} (k : κ), RelK m H kvs vs → RelK m H (kvs ++ [(k, d)]) (vs ++ [(k, v)])
  | [], vs, k, r => by
    simp only [RelK] at r
    subst r
    simp only [List.nil_append, RelK]
    exact ⟨_, _, rfl, rfl, rd, rfl⟩
  | q :: kvs, vs, k, r => by
    simp only [RelK] at r
    obtain ⟨w, ws, rfl, hk, h1, h2⟩ := r
    simp only [List.cons_append, RelK]
    exact ⟨_, _, rfl, hk, h1, RelK.snoc rd k h2⟩
theorem RelK.put {d : D} {v : V} (rd : RelD m H d v) {kvs : List (κ × D)} {vs : List (κ × V)} (k : κ) (r : RelK m H kvs vs) : RelK m H (putD kvs k d) (putK vs k v) := by
  unfold putD putK
  rw [r.any k]
  split
  · exact r.repl rd k
  · exact r.snoc rd k
theorem RelK.len : ∀ {kvs : List (κ × D)} {vs : List (κ × V)}, RelK m H kvs vs → kvs.length = vs.length
  | [], vs, r => by simp only [RelK] at r; subst r; rfl
  | q :: kvs, vs, r => by
    simp only [RelK] at r
    obtain ⟨w, ws, rfl, hk, h1, h2⟩ := r
    simp [RelK.len h2]
end
def optKeys (xs : List D) : Option (List Key) := optAll (xs.map toKey)
theorem optKeys_ok {m : Mp} {H : Hp} : ∀ {xs : List D} {vs : List V} {ks : List Key}, RelDs m H xs vs → optKeys xs = some ks → vs = ks.map kV
  | [], vs, ns, r, e => by
    simp only [RelDs] at r
    simp [optKeys, optAll] at e
    subst e r
    rfl
  | d :: ds, vs, ns, r, e => by
    simp only [RelDs] at r
    obtain ⟨v, ws, rfl, h1, h2⟩ := r
    unfold optKeys at e
    rw [List.map_cons] at e
    cases q : toKey d with
    | none => simp [optAll, q] at e
    | some k =>
      cases q2 : optAll (ds.map toKey) with
      | none => simp [optAll, q, q2] at e
      | some us =>
        simp [optAll, q, q2] at e
        subst e
        rw [List.map_cons, optKeys_ok h2 q2, toKey_ok q h1]
/-- what a dict holds under a key -/
def dGet (h : HC) (x y : D) : Option (Option D) := match x with
  | .ref n => (match h[n]? with
    | some (.dk kvs) => (toKey y).map fun k => valD kvs k
    | some (.dt kvs) => (match y with
      | .tup ks => (optKeys ks).map fun k => valD kvs k
      | _ => none)
    | _ => none)
  | _ => none
theorem dGet_ok {K : PySem.W.Frag} {m : Mp} {h : HC} {H : Hp} {x y : D} {vx vy : V} {o : Option D} (S : Sm K m h H) (rx : RelD m H x vx) (ry : RelD m H y vy) (e : dGet h x y = some o) :
    ∃ a, vx = .ref a ∧ match o with
      | some d => ∃ v, DGet H a vy (some v) ∧ RelD m H d v
      | none => DGet H a vy none := by
  cases x with
  | ref n =>
    simp only [RelD] at rx
    obtain ⟨a, ha, rfl⟩ := rx
    refine ⟨a, rfl, ?_⟩
    simp only [dGet] at e
    split at e
    · rename_i kvs hk
      obtain ⟨vs, hv, hr⟩ := S.cell n _ a hk ha
      cases q : toKey y with
      | none => rw [q] at e; cases e
      | some k =>
        rw [q] at e
        simp at e
        have ey := toKey_ok q ry
        subst ey
        cases o with
        | some d =>
          obtain ⟨v, h1, h2⟩ := hr.val e
          exact ⟨v, by rw [← h1]; exact DGet.k hv, h2⟩
        | none =>
          have h1 := hr.valN e
          show DGet H a (kV k) none
          rw [← h1]
          exact DGet.k hv
    · rename_i kvs hk
      obtain ⟨vs, hv, hr⟩ := S.cell n _ a hk ha
      cases y with
      | tup ks =>
        simp only [RelD] at ry
        obtain ⟨b, us, rfl, hb, hrb⟩ := ry
        dsimp only at e
        cases q : optKeys ks with
        | none => rw [q] at e; cases e
        | some k =>
          rw [q] at e
          simp at e
          have eu := optKeys_ok hrb q
          subst eu
          cases o with
          | some d =>
            obtain ⟨v, h1, h2⟩ := hr.val e
            exact ⟨v, by rw [← h1]; exact DGet.t hv hb, h2⟩
          | none =>
            have h1 := hr.valN e
            show DGet H a (.ref b) none
            rw [← h1]
            exact DGet.t hv hb
      | _ => cases e
    · cases e
  | _ => simp [dGet] at e
def opDGet (x y : D) (h : HC) : Res D := match dGet h x y with
  | some (some d) => .ok d h
  | _ => .bad
def rDG : R2 := fun x y H Q => ∃ a v, x = .ref a ∧ DGet H a y (some v) ∧ Q v H
theorem os_dget {K : PySem.W.Frag} : OpS K rDG opDGet := by
  intro W σ m h H d1 d2 v1 v2 Q S r1 r2 p
  unfold opDGet at p
  split at p
  · rename_i d e
    obtain ⟨a, rfl, v, g, hr⟩ := dGet_ok S r1 r2 e
    exact ⟨a, v, rfl, g, p _ _ _ Ext.refl S hr⟩
  · exact p.elim
section
variable {X : Cx} {W : WX} {a b : Expr} {fa fb : EE} {pos : Pos}
theorem se_dget (hu : X.A.units + 1 < cLine) (ha : PE X a (rE X.K W fa)) (hb : PE X b (rE X.K W fb)) (hs : NoSl b := by intro _ _; rfl) : PE X (.Subscript a b pos) (rE X.K W (fOp opDGet fa fb)) :=
  PEw (pe_dget hu ha hb hs) (tOp_of (r := rDG) os_dget)
end
/-- displays -/
def RelPs (m : Mp) (H : Hp) : List (D × D) → List (V × V) → Prop
  | [], vs => vs = []
  | d :: ds, vs => ∃ v vs', vs = v :: vs' ∧ RelD m H d.1 v.1 ∧ RelD m H d.2 v.2 ∧ RelPs m H ds vs'
def fPairs : List (EE × EE) → SD → HC → Res (List (D × D))
  | [], _, h => .ok [] h
  | (k, v) :: r, s, h => (k s h).bind fun x h1 => (v s h1).bind fun y h2 => (fPairs r s h2).bind fun ps h3 => .ok ((x, y) :: ps) h3
def keysP (ps : List (D × D)) : Option (List (Key × D)) := optAll (ps.map fun p => (toKey p.1).map fun k => (k, p.2))
def fDisp (ps : List (EE × EE)) : EE := fun s h => (fPairs ps s h).bind fun qs h1 => match keysP qs with
  | some kvs => if kvs.length ≤ 15 then .ok (.ref h1.length) (h1 ++ [.dk (mergeD kvs)]) else .bad
  | none => .bad
def fDisp0 : EE := fun _ h => .ok (.ref h.length) (h ++ [.dk []])
def fDisp0T : EE := fun _ h => .ok (.ref h.length) (h ++ [.dt []])
section
variable {K : PySem.W.Frag} {W : WX}
theorem RelPs.mono {m m' : Mp} {h : HC} {H H' : Hp} (S : Sm K m h H) (E : Ext m m' H H') : ∀ {ds : List (D × D)} {vs : List (V × V)}, RelPs m H ds vs → RelPs m' H' ds vs
  | [], vs, r => r
  | d :: ds, vs, r => by
    simp only [RelPs] at r ⊢
    obtain ⟨v, ws, rfl, h1, h2, h3⟩ := r
    exact ⟨v, ws, rfl, h1.mono S E, h2.mono S E, RelPs.mono S E h3⟩
theorem tPairs_of : ∀ (l : List (EE × EE)) (σ : L2.St) (H : Hp) (Q : List (V × V) → Hp → Prop), rd RelPs K W (fPairs l) σ H Q → tPairs (l.map fun q => (rE K W q.1, rE K W q.2)) σ H Q
  | [], σ, H, Q, q => by
    obtain ⟨m, s, h, S, r, p⟩ := q
    exact p m H [] Ext.refl S rfl
  | (k, v) :: l, σ, H, Q, q => by
    refine rd_mono (rd_bind (R := RelD) (f := k) (g := fun x s h1 => (v s h1).bind fun y h2 => (fPairs l s h2).bind fun ps h3 => .ok ((x, y) :: ps) h3) q) fun x H1 ⟨m1, s, h1, d1, S1, r1, q1, p1⟩ => ?_
    refine ⟨m1, s, h1, S1, r1, ?_⟩
    show post RelD K W σ m1 H1 _ (v s h1)
    cases e : v s h1 with
    | ok d2 h2 =>
      rw [e] at p1
      intro m2 H2 y E2 S2 q2
      have p2 := post_ext p1 E2
      refine tPairs_of l σ H2 _ ⟨m2, s, h2, S2, r1.mono S1 E2, ?_⟩
      dsimp only [Res.bind] at p2
      cases e3 : fPairs l s h2 with
      | ok ps h3 =>
        rw [e3] at p2
        intro m3 H3 vs E3 S3 q3
        refine p2 m3 H3 _ E3 S3 ?_
        simp only [RelPs]
        exact ⟨_, _, rfl, (q1.mono S1 E2).mono S2 E3, q2.mono S2 E3, q3⟩
      | exc c h3 => rw [e3] at p2; exact p2
      | bad => rw [e3] at p2; exact p2
    | exc c h2 => rw [e] at p1; exact p1
    | bad => rw [e] at p1; exact p1
theorem keysP_ok {m : Mp} {H : Hp} : ∀ {ps : List (D × D)} {vs : List (V × V)} {kvs : List (Key × D)}, RelPs m H ps vs → keysP ps = some kvs → ∃ ws : List (Key × V), vs = ws.map (fun kv => (kV kv.1, kv.2)) ∧ RelK m H kvs ws
  | [], vs, kvs, r, e => by
    simp only [RelPs] at r
    simp [keysP, optAll] at e
    subst e r
    exact ⟨[], rfl, rfl⟩
  | p :: ps, vs, kvs, r, e => by
    simp only [RelPs] at r
    obtain ⟨v, ws, rfl, h1, h2, h3⟩ := r
    unfold keysP at e
    rw [List.map_cons] at e
    cases q : toKey p.1 with
    | none => simp [optAll, q] at e
    | some k =>
      cases q2 : optAll (ps.map fun p => (toKey p.1).map fun k => (k, p.2)) with
      | none => simp [optAll, q, q2] at e
      | some us =>
        simp [optAll, q, q2] at e
        subst e
        obtain ⟨zs, e1, e2⟩ := keysP_ok h3 q2
        refine ⟨(k, v.2) :: zs, by rw [List.map_cons, ← e1, ← toKey_ok q h1], ?_⟩
        simp only [RelK]
        exact ⟨_, _, rfl, rfl, h2, e2⟩
theorem RelK.merge {m : Mp} {H : Hp} : ∀ {kvs : List (Key × D)} {vs : List (Key × V)} {as : List (Key × D)} {us : List (Key × V)}, RelK m H kvs vs → RelK m H as us → RelK m H (kvs.foldl (fun acc kv => putD acc kv.1 kv.2) as) (mergeK us vs)
  | [], vs, as, us, r, q => by simp only [RelK] at r; subst r; exact q
  | p :: kvs, vs, as, us, r, q => by
    simp only [RelK] at r
    obtain ⟨w, ws, rfl, hk, h1, h2⟩ := r
    have := RelK.merge h2 (q.put h1 p.1)
    rw [hk] at this
    show RelK m H (kvs.foldl (fun acc kv => putD acc kv.1 kv.2) (putD as p.1 p.2)) _
    rw [hk]
    exact this
/-- a thing that is laid ahead, then filled, then is a cell -/
theorem fill_ok {m1 m2 : Mp} {h2 : HC} {H1 H2 : Hp} {p : Addr} {o o2 : HO} {c : Cell} (hp : H1 p = none) (hm : p ∉ m1.ad) (hn : ∀ us, o ≠ .tup us) (hn2 : ∀ o' u, o ≠ .frz o' u) (E : Ext m1 m2 (upd H1 p o) H2) (S2 : Sm K m2 h2 H2)
    (hc : (∀ q us, H2 q = some (.tup us) → upd H2 p o2 q = some (.tup us)) → CellAtD K m2 (upd H2 p o2) p c) :
    H2 p = some o ∧ Sm K (m2.snoc p) (h2 ++ [c]) (upd H2 p o2) ∧ Ext m1 (m2.snoc p) H1 (upd H2 p o2) := by
  obtain ⟨hm2, hp2⟩ := E.fr p o hm upd_same
  have ht : ∀ q us, H2 q = some (.tup us) → upd H2 p o2 q = some (.tup us) := fun q us e => by
    rw [upd_ne (fun z => by rw [z, hp2] at e; exact hn us (Option.some.inj e))]
    exact e
  have S3 : Sm K m2 h2 (upd H2 p o2) := ⟨S2.len, S2.nd, S2.scr.upd (fun o' u z => by rw [hp2] at z; exact hn2 o' u (Option.some.inj z)), fun i c' a h1 h3 => (S2.cell i c' a h1 h3).mono_ (fun _ _ z => z) ⟨rfl, rfl⟩ ht (upd_ne (fun z => hm2 (z ▸ List.mem_of_getElem? h3)))⟩
  refine ⟨hp2, S3.adopt hm2 (hc ht) (fun _ _ => trivial), ⟨fun n a z => ?_, E.sc, fun z o' hz ez => ?_⟩⟩
  · have := E.le n a z
    show (m2.ad ++ [p])[n]? = some a
    rw [List.getElem?_append_left (List.getElem?_eq_some_iff.mp this).1]
    exact this
  · have hzp : z ≠ p := ne_of_none ez hp
    have := E.fr z o' hz (by rw [upd_ne hzp]; exact ez)
    exact ⟨by simp [this.1, hzp, Mp.snoc], by rw [upd_ne hzp]; exact this.2⟩
end
section
variable {X : Cx} {W : WX} {pos : Pos} {keys : List (Option Expr)} {values : List Expr} {ps : List (EE × EE)}
theorem se_disp (h : PPs X pos keys values (ps.map fun q => (rE X.K W q.1, rE X.K W q.2))) (hall : keys.all (·.isSome) = true := by rfl) (hl : keys.length = values.length := by rfl) (h0 : keys ≠ [] := by exact List.cons_ne_nil _ _)
    (h15 : keys.length ≤ 15 := by decide) : PE X (.Dict keys values pos) (rE X.K W (fDisp ps)) := PEw (pe_disp h hall hl h0 h15) fun σ H Q q => by
  obtain ⟨m, s, hc, S, r, p⟩ := q
  intro P hP
  obtain ⟨S1, E1⟩ := S.newT (o := .dK []) hP
  refine tPairs_of ps σ _ _ ⟨m, s, hc, S1, r.mono S E1, ?_⟩
  unfold fDisp at p
  cases e : fPairs ps s hc with
  | ok qs h1 =>
    rw [e] at p
    intro m2 H2 us E2 S2 r2
    dsimp only [Res.bind] at p
    split at p
    · rename_i kvs hk
      split at p
      · rename_i hl
        obtain ⟨ws, e1, e2⟩ := keysP_ok r2 hk
        obtain ⟨f1, f2, f3⟩ := fill_ok (o2 := .dK (mergeK [] ws)) (c := .dk (mergeD kvs)) hP (S.freshOut hP) (fun us z => by cases z) (fun _ _ z => by cases z) E2 S2 fun ht => ⟨_, upd_same, RelK.mono_ (fun _ _ z => z) ⟨rfl, rfl⟩ ht _ _ (RelK.merge e2 rfl)⟩
        refine ⟨f1, ws, e1, by rw [← e2.len]; exact hl, p _ _ _ f3 f2 ?_⟩
        simp only [RelD]
        exact ⟨P, by rw [S2.len]; exact Mp.last, rfl⟩
      · exact p.elim
    · exact p.elim
  | exc c h1 => rw [e] at p; exact fun m2 H2 E2 S2 => p m2 H2 (E1.trans E2) S2
  | bad => rw [e] at p; exact p
theorem se_disp0 : PE X (.Dict [] [] pos) (rE X.K W fDisp0) := PEw pe_dnewK fun σ H Q q => by
  obtain ⟨m, s, hc, S, r, p⟩ := q
  intro P hP
  obtain ⟨S1, E1⟩ := S.newC (o := .dK []) (c := .dk []) hP ⟨_, upd_same, rfl⟩
  refine p _ _ _ E1 S1 ?_
  simp only [RelD]
  exact ⟨P, by rw [S.len]; exact Mp.last, rfl⟩
theorem se_disp0T : PE X (.Dict [] [] pos) (rE X.K W fDisp0T) := PEw pe_dnewT fun σ H Q q => by
  obtain ⟨m, s, hc, S, r, p⟩ := q
  intro P hP
  obtain ⟨S1, E1⟩ := S.newC (o := .dT []) (c := .dt []) hP ⟨_, upd_same, rfl⟩
  refine p _ _ _ E1 S1 ?_
  simp only [RelD]
  exact ⟨P, by rw [S.len]; exact Mp.last, rfl⟩
end
end G9

set_option Elab.async false
set_option linter.all false
set_option maxRecDepth 100000
set_option maxHeartbeats 2000000
/-! sets of texts, made of a tuple: how many unlike ones there are -/
namespace G9
open PySem PySem.Spec PyProof.Rows L2
def dnF (l : List Str) : List Str × Nat := l.foldl (fun p x => (p.1 ++ [x], if p.1.any (· == x) = true then p.2 else p.2 + 1)) ([], 0)
/-- how many unlike texts -/
def dn (l : List Str) : Nat := (dnF l).2
theorem dnF_snoc (l : List Str) (x : Str) : dnF (l ++ [x]) = ((dnF l).1 ++ [x], if (dnF l).1.any (· == x) = true then (dnF l).2 else (dnF l).2 + 1) := by
  unfold dnF
  rw [List.foldl_append]
  rfl
theorem dnF_fst (l : List Str) : (dnF l).1 = l := by
  have key : ∀ (r : List Str) (p : List Str × Nat), (r.foldl (fun p x => (p.1 ++ [x], if p.1.any (· == x) = true then p.2 else p.2 + 1)) p).1 = p.1 ++ r := by
    intro r
    induction r with
    | nil => intro p; simp
    | cons x r ih => intro p; rw [List.foldl_cons, ih]; simp
  simpa [dnF] using key l ([], 0)
theorem dn_snoc (l : List Str) (x : Str) : dn (l ++ [x]) = if l.any (· == x) = true then dn l else dn l + 1 := by
  unfold dn
  rw [dnF_snoc, dnF_fst]
theorem dn_le : ∀ n (l : List Str), l.length = n → dn l ≤ n
  | 0, l, h => by
    have : l = [] := List.length_eq_zero_iff.mp h
    subst this
    exact Nat.le_refl _
  | n + 1, l, h => by
    rcases List.eq_nil_or_concat l with rfl | ⟨r, x, hrx⟩
    · simp at h
    · rw [List.concat_eq_append] at hrx
      subst hrx
      have hr : r.length = n := by simpa using h
      have := dn_le n r hr
      rw [dn_snoc]
      split <;> omega
theorem take_snoc {l : List Str} {i : Nat} (h : i < l.length) : l.take (i + 1) = l.take i ++ [l.getD i Str.empty] := by
  rw [List.take_succ, List.getElem?_eq_getElem h]
  simp [List.getD, h]
section
variable {prog : Program} {w : World} {A : Around} {R : Result → Shared → Prop} {it : Addr} {fp wr : List Addr} {G : Array GenState → Array GenState → Prop} {n : Nat} {P : Nat → Value → Prop} {Tn : Nat → Shared → Prop}
theorem setLoop (Wk : WalksS prog w A.in1 it fp wr G n P Tn) (z : Addr) (hz : z ∉ fp) (xs : List Str) (hsz : xs.length = n) (hn1 : n ≤ 1000)
    (hval : ∀ i v, P i v → ∃ t, v = .str (xs.getD i Str.empty) t) :
    ∀ (k i : Nat) (s : Shared), n - i = k → i ≤ n → Tn i s → s.heap.SetOf (PySem.strKind prog w) z (fun y => (xs.take i).any (· == y)) (dn (xs.take i)) →
      (∀ s', Moved (z :: wr) G s s' → s'.heap.SetOf (PySem.strKind prog w) z (fun y => (xs.take n).any (· == y)) (dn (xs.take n)) → R (.ok (.ret .none)) s') →
      codeAny (model prog w) A (.builtin "set.update.loop" ⟨[.ref z, .ref it], []⟩) R s := by
  have hzw : z ∉ wr := fun q => hz (Wk.sub _ q)
  have up : ∀ b ∈ wr, b ∈ z :: wr := fun b q => List.mem_cons_of_mem _ q
  intro k
  induction k with
  | zero =>
    intro i s hk hi ht hS hR
    obtain rfl : i = n := by omega
    refine codeAny_builtin PyProof.Rows.F.entry_set_update_loop ?_
    rw [Around.under_plainId PyProof.Rows.F.plain_set_update_loop _]
    refine wpAny_bind (m := pyNext (.ref it)) (Wk.done s _ _ ht fun s1 mv => ?_)
    obtain ⟨o, es, ep, tb, ho, rest⟩ := hS
    exact wpAny_pure (hR s1 (mv.mono up) ⟨o, es, ep, tb, mv.heap z _ hzw ho, rest⟩)
  | succ k ih =>
    intro i s hk hi ht hS hR
    have hlt : i < n := by omega
    refine codeAny_builtin PyProof.Rows.F.entry_set_update_loop ?_
    rw [Around.under_plainId PyProof.Rows.F.plain_set_update_loop _]
    refine wpAny_bind (m := pyNext (.ref it)) (Wk.item i s _ _ hlt ht fun v s1 hP ht1 mv => ?_)
    obtain ⟨t, rfl⟩ := hval i v hP
    generalize hx : xs.getD i Str.empty = x at *
    have hS1 : s1.heap.SetOf (PySem.strKind prog w) z (fun y => (xs.take i).any (· == y)) (dn (xs.take i)) := by
      obtain ⟨o, es, ep, tb, ho, rest⟩ := hS
      exact ⟨o, es, ep, tb, mv.heap z _ hzw ho, rest⟩
    refine wpAny_bind (m := holding [Value.str x t] (setAdd z (.str x t))) (wpAny_holding ?_)
    unfold setAdd
    refine wpAny_holding (wpAny_bind ((PySem.strKind prog w).pyHash (k := x) (strKind_is _ _ _ _) ?_))
    have hd : dn (xs.take i) ≤ i := dn_le i _ (by rw [List.length_take]; omega)
    refine wpAny_setAddHashed_of (knd := PySem.strKind prog w) (s := { s1 with toks := s1.toks + 1 }) (strKind_is _ _ _ _) rfl hS1 (by unfold scanBound; omega) fun h' sb hS2 => ?_
    have et : xs.take (i + 1) = xs.take i ++ [x] := by rw [take_snoc (by omega), hx]
    have hS3 : h'.SetOf (PySem.strKind prog w) z (fun y => (xs.take (i + 1)).any (· == y)) (dn (xs.take (i + 1))) := by
      refine SetOf_congr hS2 (fun y => ?_) ?_
      · rw [et, List.any_append, List.any_cons, List.any_nil, Bool.or_false]
        congr 1
        by_cases e : y = x
        · subst e; simp
        · have q : (x == y) = false := beq_eq_false_iff_ne.mpr fun e' => e e'.symm
          rw [q]
          exact decide_eq_false e
      · rw [et, dn_snoc]
    refine wpAny_pure ⟨plainId_quiet PyProof.Rows.F.plain_set_update_loop _, ih (i + 1) _ (by omega) hlt (Wk.frame _ s1 _ _ ht1 (Nat.le_succ _) fun b hb o e => ?_) hS3 fun s2 mv2 hS4 => ?_⟩
    · have hbz : b ≠ z := fun q => hz (q ▸ hb)
      exact (sb.2 b hbz).trans e
    · refine hR s2 (Moved.trans Wk.gtrans ((mv.mono up).then_heap (Nat.le_succ _) fun b o hb e => ?_) mv2) hS4
      have hbz : b ≠ z := fun q => hb (by rw [q]; exact List.mem_cons_self)
      exact (sb.2 b hbz).trans e
end
/-- a set that was just made -/
abbrev fso (led : Bool) : Obj := { cls := .type "set", dict := none, data := .set #[] 0 (.fresh 0 0 led) }
section
variable {prog : Program} {w : World} {A : Around} {E : Value → Shared → Prop} {s : Shared}
set_option maxHeartbeats 3200000 in
theorem setTup {l : Addr} {items : Array Value} {xs : List Str} {Q : Value → Shared → Prop} (hh : A.handled = none) (hl : s.heap.IsTuple l items) (hi : PyProof.Rows.StrsAre items.toList xs) (hn1 : xs.length ≤ 1000)
    (h : ∀ (h' : Heap) (tk : Nat), h'.SetOf (PySem.strKind prog w) s.heap.objs.size (fun y => xs.any (· == y)) (dn xs) → (∀ b o, b < s.heap.objs.size → s.heap.get? b = some o → h'.get? b = some o) → Q (.ref s.heap.objs.size) { s with heap := h', toks := tk }) :
    wpAny (model prog w) A (call (.type "set") [.ref l]) Q E s := by
  obtain ⟨c, tl, hmro⟩ := PySem.F.called_set.mro
  have hmade := PySem.F.called_set.made
  have hsub := PySem.F.called_set.sub
  have hsz : xs.length = items.size := by rw [← StrsAre.len_eq hi, Array.length_toList]
  have hfull : xs.take items.size = xs := by rw [← hsz, List.take_length]
  refine wpAny_call (codeAny_of_tree ?_)
  show wpAny _ _ (callAny (.type "set") _) _ _ _
  refine wpAny_pure ⟨Code.quiet_builtin _ (by decide +kernel), codeAny_builtin PySem.F.entry_type_call ?_⟩
  rw [Around.under_plain (weight_type_call_type "set" [.ref l] []) rfl]
  have nt := PySem.F.called_set.notType
  have cc := PySem.F.called_set.canCreate
  have tc := PySem.F.typeCall_set_1 (.ref l)
  repeat (any_goals (first | assumption | wp_step))
  refine codeAny_mono (code_set_new_1 (.ref l) (E := E) (Q₁ := fun obj s1 => ∃ led : Bool, obj = .ref s.heap.objs.size ∧ s1 = { s with heap := s.heap.push (fso led) }) fun led => ⟨led, rfl, rfl⟩) fun r s1 hr => ?_
  cases r with
  | error e => exact hr
  | ok fl =>
    cases fl with
    | ret obj =>
      obtain ⟨led, rfl, rfl⟩ := hr
      have hS : (s.heap.push (fso led)).get? s.heap.objs.size = some (fso led) := Heap.get?_push_size _ rfl
      have hT : Shared.TypeIs { s with heap := s.heap.push (fso led) } (.ref s.heap.objs.size) "set" := ⟨_, hS, rfl⟩
      have il := PySem.F.called_set.init.lookup
      have ib := PySem.F.called_set.init.bind (.ref s.heap.objs.size)
      repeat (any_goals (first | assumption | wp_step))
      refine codeAny_mono (codeAny_call_builtin (R := wants (fun r s2 => r = .none ∧ ∃ h' tk, s2 = { s with heap := h', toks := tk } ∧ h'.SetOf (PySem.strKind prog w) s.heap.objs.size (fun y => xs.any (· == y)) (dn xs) ∧
          ∀ b o, b < s.heap.objs.size → s.heap.get? b = some o → h'.get? b = some o) E) PySem.F.called_set.init.plain PySem.F.entry_set_init (check_set_init_1 hT ?_)) fun r2 s2 hr2 => ?_
      · obtain ⟨⟨oc, od, dt, osl⟩, hol, hcl, nl, hdl⟩ := hl
        replace hcl : oc = .type "tuple" := hcl
        replace hdl : dt = .seq items nl := hdl
        subst hcl hdl
        have hol1 : (s.heap.push (fso led)).get? l = some { cls := .type "tuple", dict := od, data := .seq items nl, slots := osl } := Heap.get?_push_of_some _ hol
        have s1 := PySem.F.sub_tuple_set
        have s2 := PySem.F.sub_tuple_frozenset
        have s3 : (Value.type "tuple" == Value.type "dict") = false := by decide
        have hl1 : (s.heap.push (fso led)).IsTuple l items := ⟨_, hol1, rfl, nl, rfl⟩
        unfold Builtin.«set.__init__» noKeywords Builtin.Frozenset.updateFrom
        generalize hPI : pyIter = PI
        wp_walk
        subst hPI
        refine wpAny_pyIter_tuple hl1 (wpAny_bind (wpAny_runValue ?_))
        have hlS : l < s.heap.objs.size := Heap.lt_size hol
        have hh3 : A.in1.in1.in1.handled = none := by simp [hh]
        have hsp : (s.heap.push (fso led)).objs.size = s.heap.objs.size + 1 := Heap.size_push ..
        have hne : l ≠ (s.heap.push (fso led)).objs.size := by rw [hsp]; exact Nat.ne_of_lt (Nat.lt_succ_of_lt hlS)
        have hout : s.heap.objs.size ∉ [(s.heap.push (fso led)).objs.size, l] := by
          simp only [List.mem_cons, List.not_mem_nil, or_false, not_or]
          rw [hsp]
          exact ⟨Nat.ne_of_lt (Nat.lt_succ_self _), Nat.ne_of_gt hlS⟩
        refine setLoop ((Walks.tuple hh3 _ l hne items).toS) s.heap.objs.size hout xs hsz (by rw [← hsz]; exact hn1) (fun i v hv => SS.strs_at hi i v (by rw [Array.getElem?_toList]; exact hv)) (items.size - 0) 0 _ (by omega) (Nat.zero_le _)
          ⟨⟨_, Heap.get?_push_size _ rfl, rfl, rfl⟩, hl1.push _⟩ ?ka ?kb
        case ka =>
          refine PyProof.Rows.SetOf_congr ((PyProof.Rows.setObjOf_fresh (knd := PySem.strKind prog w) led).setOf (Heap.get?_push_of_some _ hS) (by unfold scanBound; omega)) (fun _ => rfl) rfl
        case kb =>
          intro s3 mv hS3
          rw [hfull] at hS3
          obtain ⟨h3, g3, d3, t3, o3⟩ := s3
          obtain rfl : g3 = s.gens := mv.gens
          obtain rfl : d3 = s.drawn := mv.drawn
          obtain rfl : o3 = s.os := mv.os
          show wpAny _ _ _ _ _ _
          refine wpAny_pure ?_
          show wpAny _ _ (ret Value.none) _ _ _
          refine wpAny_pure ⟨rfl, h3, t3, rfl, hS3, fun b o hb e => ?_⟩
          refine mv.heap b o ?_ (Heap.get?_push_of_some _ (Heap.get?_push_of_some _ e))
          simp only [List.mem_cons, List.not_mem_nil, or_false, not_or]
          rw [hsp]
          exact ⟨Nat.ne_of_lt hb, Nat.ne_of_lt (Nat.lt_succ_of_lt hb)⟩
      · cases r2 with
        | error e => exact hr2
        | ok fl2 =>
          cases fl2 with
          | ret r =>
            obtain ⟨rfl, h', tk, rfl, hS', hk'⟩ := hr2
            repeat (any_goals (first | assumption | wp_step))
            exact h _ _ hS' hk'
          | _ => exact hr2.elim
    | _ => exact hr.elim
end
/-- len(set(t)), t a tuple of texts -/
def tLenSetT (K : PySem.W.Frag) (ta : TE) : TE := fun σ H Q => ta σ H fun x H1 => ∃ l, ∃ xs : List Str, x = .ref l ∧ SqT K H1 l (xs.map V.str) ∧ xs.length ≤ 1000 ∧ Q (.int (dn xs)) H1
section
variable {X : Cx} {W : WX} {a : Expr} {fa : EE} {p p2 q pos : Pos}
theorem pe_lenSetT {ta : TE} (hc : X.calm = true) (hg : Gl X "len") (hm : X.mg "len" = none) (hg2 : Gl X "set") (hm2 : X.mg "set" = none) (ha : PE X a ta)
    (na : starEach [a] X.env = (false, eval a X.env) :: starEach [] X.env := by rfl) : PE X (.Call (.Name "len" p) [.Call (.Name "set" p2) [a] [] q] [] pos) (tLenSetT X.K ta) := by
  refine ⟨fun pins s σ H Q I h => Call_ (ld_blt I hg hm boot_len (PyProof.Rows.callWith_builtin1 (PyProof.Rows.args_cons (Call_ (ld_blt I hg2 hm2 boot_set ?_)) rfl) rfl rfl))⟩
  refine PyProof.Rows.callWith_type1 (PyProof.Rows.args_cons (thn (ha.run pins s σ H _ I h) fun v s1 hh => PyProof.Rows.args_nil ?_) na) na rfl
  obtain ⟨x, H1, I1, r1, l, xs, rfl, hq, h1, q1⟩ := hh
  cases r1
  obtain ⟨its, r, pt, hz⟩ := I1.tuple hq
  refine setTup (I1.ok.hd hc) pt (by simpa using strsAre_of r) h1 fun h' tk hS hk => PyProof.Rows.args_nil ?_
  obtain ⟨o, es, ep, t, ho, hex, hd, _, _, _, hf, hn⟩ := hS
  have J : Inv X pins σ H1 { s1 with heap := h', toks := tk } := I1.kept fun b o e => hk b o (Heap.lt_size e) e
  have hle := dn_le xs.length xs rfl
  exact call_len_set ho hex hd hf (by rw [hn]; omega) ⟨.int (dn xs), H1, J.tok _, ⟨_, by rw [hn]⟩, q1⟩
def fLenSet (a : EE) : EE := fun s h => (a s h).bind fun x h1 => match x with
  | .tup ds => (match strsD ds with
    | some xs => if xs.length ≤ 1000 then .ok (D.int (dn xs)) h1 else .bad
    | none => .bad)
  | _ => .bad
theorem se_lenSet (hc : X.calm = true) (hm : X.mg "len" = none) (hm2 : X.mg "set" = none) (ha : PE X a (rE X.K W fa)) (hg : Gl X "len" := by rfl) (hg2 : Gl X "set" := by rfl)
    (na : starEach [a] X.env = (false, eval a X.env) :: starEach [] X.env := by rfl) : PE X (.Call (.Name "len" p) [.Call (.Name "set" p2) [a] [] q] [] pos) (rE X.K W (fLenSet fa)) :=
  PEw (pe_lenSetT hc hg hm hg2 hm2 ha na) fun σ H Q q => by
    refine rd_mono (rd_bind (R := RelD) (f := fa) (g := fun x s h1 => match x with
      | .tup ds => (match strsD ds with
        | some xs => if xs.length ≤ 1000 then .ok (D.int (dn xs)) h1 else .bad
        | none => .bad)
      | _ => .bad) q) fun x H1 ⟨m1, s, h1, d1, S1, r1, q1, p1⟩ => ?_
    cases d1 with
    | tup ds =>
      dsimp only at p1
      simp only [RelD] at q1
      obtain ⟨t, us, rfl, ht, hr⟩ := q1
      split at p1
      · rename_i xs hx
        split at p1
        · rename_i hl
          have e := strsD_ok hr hx
          subst e
          exact ⟨t, xs, rfl, SqT.of ht, hl, p1 _ _ _ Ext.refl S1 (by simp [RelD])⟩
        · exact p1.elim
      · exact p1.elim
    | _ => exact p1.elim
end
end G9

set_option Elab.async false
set_option linter.all false
set_option maxRecDepth 100000
set_option maxHeartbeats 2000000
namespace G9
open PySem PySem.Spec PyProof.Rows L2
theorem bt_int : bootBuiltins "int" = some (.type "int") := by decide +kernel
theorem bt_bool : bootBuiltins "bool" = some (.type "bool") := by decide +kernel
theorem bt_str : bootBuiltins "str" = some (.type "str") := by decide +kernel
theorem bt_tuple : bootBuiltins "tuple" = some (.type "tuple") := by decide +kernel
theorem bt_list : bootBuiltins "list" = some (.type "list") := by decide +kernel
theorem bt_dict : bootBuiltins "dict" = some (.type "dict") := by decide +kernel
theorem bt_len : bootBuiltins "len" = some (.builtin "len") := by decide +kernel
theorem bt_max : bootBuiltins "max" = some (.builtin "max") := by decide +kernel
theorem bt_min : bootBuiltins "min" = some (.builtin "min") := by decide +kernel
theorem bt_sum : bootBuiltins "sum" = some (.builtin "sum") := by decide +kernel
theorem bt_sorted : bootBuiltins "sorted" = some (.builtin "sorted") := by decide +kernel
section
variable {X : Cx} {W : WX} {a b c : Expr} {fa fb fc : EE} {pos : Pos} {k : Nat}
theorem hu1 (hr : Room k X.A) : X.A.units + 1 < cLine := by have := hr.un; omega
theorem hu64 (hr : Room k X.A) : X.A.units + 64 < cLine := by have := hr.un; omega
theorem hu65 (hr : Room k X.A) : X.A.units + 65 < cLine := by have := hr.un; omega
theorem xadd (ha : PE X a (rE X.K W fa)) (hb : PE X b (rE X.K W fb)) : PE X (.BinOp a .Add b pos) (rE X.K W (fOp opAdd fa fb)) := se_op op_addAll os_add ha hb
theorem xsub (ha : PE X a (rE X.K W fa)) (hb : PE X b (rE X.K W fb)) : PE X (.BinOp a .Sub b pos) (rE X.K W (fOp opSub fa fb)) := se_op op_sub os_sub ha hb
theorem xmul (ha : PE X a (rE X.K W fa)) (hb : PE X b (rE X.K W fb)) : PE X (.BinOp a .Mult b pos) (rE X.K W (fOp opMul fa fb)) := se_op op_mulAll os_mul ha hb
theorem xmod (ha : PE X a (rE X.K W fa)) (hb : PE X b (rE X.K W fb)) : PE X (.BinOp a .Mod b pos) (rE X.K W (fOp opMod fa fb)) := se_op op_mod os_mod ha hb
theorem xdiv (ha : PE X a (rE X.K W fa)) (hb : PE X b (rE X.K W fb)) : PE X (.BinOp a .FloorDiv b pos) (rE X.K W (fOp opDiv fa fb)) := se_op op_fdiv os_div ha hb
theorem xpow (ha : PE X a (rE X.K W fa)) (hb : PE X b (rE X.K W fb)) : PE X (.BinOp a .Pow b pos) (rE X.K W (fOp opPow fa fb)) := se_op op_pow os_pow ha hb
/-- a comparison's two halves, for expressions, tests and chains -/
structure CmpS (X : Cx) (o : CmpOp) (op : D → D → HC → Res D) : Prop where
  ex : ∃ r, OpR X (compareOp o) r ∧ OpS X.K r op
theorem c_eq (hr : Room k X.A) : CmpS X .Eq opEq := ⟨_, op_eqD (hu64 hr), os_eq⟩
theorem c_ne (hr : Room k X.A) : CmpS X .NotEq opNe := ⟨_, op_neD (hu64 hr), os_ne⟩
theorem c_lt : CmpS X .Lt opLt := ⟨_, op_lt, os_I⟩
theorem c_le : CmpS X .LtE opLe := ⟨_, op_le, os_I⟩
theorem c_gt : CmpS X .Gt opGt := ⟨_, op_gt, os_I⟩
theorem c_ge : CmpS X .GtE opGe := ⟨_, op_ge, os_I⟩
theorem c_in (hr : Room k X.A) : CmpS X .In opIn := ⟨_, op_inAll (hu65 hr), os_in⟩
theorem c_notIn (hr : Room k X.A) : CmpS X .NotIn opNotIn := ⟨_, op_notInAll (hu65 hr), os_notIn⟩
theorem c_is : CmpS X .Is opIsN := ⟨_, op_isN1, os_isN⟩
theorem c_isNot : CmpS X .IsNot opNotN := ⟨_, op_notN1, os_notN⟩
variable {o o' : CmpOp} {op op' : D → D → HC → Res D}
theorem xc (C : CmpS X o op) (ha : PE X a (rE X.K W fa)) (hb : PE X b (rE X.K W fb)) (hm : behindInMarks o b = false := by first | exact nomark _ | rfl) : PE X (.Compare a [o] [b] pos) (rE X.K W (fOp op fa fb)) :=
  let ⟨_, ho, hs⟩ := C.ex
  se_cmp ho hs ha hb hm
theorem tc (C : CmpS X o op) (ha : PE X a (rE X.K W fa)) (hb : PE X b (rE X.K W fb)) (hm : behindInMarks o b = false := by first | exact nomark _ | rfl) : PT X (.Compare a [o] [b] pos) (rT X.K W (fBo (fOp op fa fb))) :=
  let ⟨_, ho, hs⟩ := C.ex
  st_cmp ho hs ha hb hm
theorem xc2 (C : CmpS X o op) (C' : CmpS X o' op') (ha : PE X a (rE X.K W fa)) (hb : PE X b (rE X.K W fb)) (hc : PE X c (rE X.K W fc)) (hm : lastMarks [o, o'] [b, c] = false := by with_unfolding_all rfl) : PE X (.Compare a [o, o'] [b, c] pos) (rE X.K W (fChain op op' fa fb fc)) :=
  let ⟨_, ho, hs⟩ := C.ex
  let ⟨_, ho', hs'⟩ := C'.ex
  se_chain ho hs ho' hs' ha hb hc hm
theorem tc2 (C : CmpS X o op) (C' : CmpS X o' op') (ha : PE X a (rE X.K W fa)) (hb : PE X b (rE X.K W fb)) (hc : PE X c (rE X.K W fc)) (hm : lastMarks [o, o'] [b, c] = false := by with_unfolding_all rfl) : PT X (.Compare a [o, o'] [b, c] pos) (rT X.K W (fBo (fChain op op' fa fb fc))) :=
  let ⟨_, ho, hs⟩ := C.ex
  let ⟨_, ho', hs'⟩ := C'.ex
  st_chain ho hs ho' hs' ha hb hc hm
/-- - x -/
def fNeg (a : EE) : EE := fun s h => (a s h).bind fun x h1 => match x with
  | .int i => .ok (.int (-i)) h1
  | _ => .bad
theorem xneg (ha : PE X a (rE X.K W fa)) : PE X (.UnaryOp .USub a pos) (rE X.K W (fNeg fa)) := PEw (pe_un un_neg ha) fun σ H Q q => by
  refine rd_mono (rd_bind (R := RelD) (f := fa) (g := fun x s h1 => match x with | .int i => .ok (D.int (-i)) h1 | _ => .bad) q) fun x H1 ⟨m1, s, h1, d1, S1, r1, q1, p1⟩ => ?_
  cases d1 with
  | int i =>
    simp only [RelD] at q1
    exact ⟨i, q1, p1 _ _ _ Ext.refl S1 (by simp [RelD])⟩
  | _ => exact p1.elim
end
section
variable {X : Cx} {W : WX} {e : Expr} {es : List Expr} {as : EA} {p pos : Pos}
theorem xlen (hm : X.mg "len" = none) (ha : PA X (e :: es) (rA X.K W as)) (hg : Gl X "len" := by rfl) (he : starEach (e :: es) X.env = (false, eval e X.env) :: starEach es X.env := by rfl) (hpl : (backTo pos (starEach es X.env)).any (·.1) = false := by rfl) :
    PE X (.Call (.Name "len" p) (e :: es) [] pos) (rE X.K W (fCl bLen as)) := se_clB call_lenAll cs_len hm bt_len ha hg (by decide) (by decide) he hpl
theorem xsum (hc : X.calm = true) (hm : X.mg "sum" = none) (ha : PA X (e :: es) (rA X.K W as)) (hg : Gl X "sum" := by rfl) (he : starEach (e :: es) X.env = (false, eval e X.env) :: starEach es X.env := by rfl) (hpl : (backTo pos (starEach es X.env)).any (·.1) = false := by rfl) :
    PE X (.Call (.Name "sum" p) (e :: es) [] pos) (rE X.K W (fCl bSum as)) := se_clB (cr_sum hc) cs_sum hm bt_sum ha hg (by decide) (by decide) he hpl
theorem xmax (hc : X.calm = true) (hm : X.mg "max" = none) (ha : PA X (e :: es) (rA X.K W as)) (hg : Gl X "max" := by rfl) (he : starEach (e :: es) X.env = (false, eval e X.env) :: starEach es X.env := by rfl) (hpl : (backTo pos (starEach es X.env)).any (·.1) = false := by rfl) :
    PE X (.Call (.Name "max" p) (e :: es) [] pos) (rE X.K W (fCl bMax as)) := se_clB (call_maxAll hc) cs_max hm bt_max ha hg (by decide) (by decide) he hpl
theorem xmin (hc : X.calm = true) (hm : X.mg "min" = none) (ha : PA X (e :: es) (rA X.K W as)) (hg : Gl X "min" := by rfl) (he : starEach (e :: es) X.env = (false, eval e X.env) :: starEach es X.env := by rfl) (hpl : (backTo pos (starEach es X.env)).any (·.1) = false := by rfl) :
    PE X (.Call (.Name "min" p) (e :: es) [] pos) (rE X.K W (fCl bMin as)) := se_clB (call_minAll hc) cs_min hm bt_min ha hg (by decide) (by decide) he hpl
theorem xsorted (hm : X.mg "sorted" = none) (ha : PA X (e :: es) (rA X.K W as)) (hg : Gl X "sorted" := by rfl) (he : starEach (e :: es) X.env = (false, eval e X.env) :: starEach es X.env := by rfl) (hpl : (backTo pos (starEach es X.env)).any (·.1) = false := by rfl) :
    PE X (.Call (.Name "sorted" p) (e :: es) [] pos) (rE X.K W (fCl bSorted as)) := se_clB call_sortedAll newL_sorted hm bt_sorted ha hg (by decide) (by decide) he hpl
theorem xlist (hm : X.mg "list" = none) (ha : PA X (e :: es) (rA X.K W as)) (hg : Gl X "list" := by rfl) (he : starEach (e :: es) X.env = (false, eval e X.env) :: starEach es X.env := by rfl) (hpl : (backTo pos (starEach es X.env)).any (·.1) = false := by rfl) :
    PE X (.Call (.Name "list" p) (e :: es) [] pos) (rE X.K W (fCl bList as)) := se_clT call_list_of cs_list hm bt_list ha hg (by decide) (by decide) he hpl
theorem xtuple (hm : X.mg "tuple" = none) (ha : PA X (e :: es) (rA X.K W as)) (hg : Gl X "tuple" := by rfl) (he : starEach (e :: es) X.env = (false, eval e X.env) :: starEach es X.env := by rfl) (hpl : (backTo pos (starEach es X.env)).any (·.1) = false := by rfl) :
    PE X (.Call (.Name "tuple" p) (e :: es) [] pos) (rE X.K W (fCl bTuple as)) := se_clT call_tuple_of cs_tuple hm bt_tuple ha hg (by decide) (by decide) he hpl
end

/-! ### a def without arguments -/
def fCall0 (fm : List D → HC → Res D) : EE := fun _ h => fm [] h
section
variable {X : Cx} {W : WX} {x : Str} {k : Nat} {fm : List D → HC → Res D} {p pos : Pos}
theorem tCall0_of {f : Addr} {fd : FuncData} {ps : List Str} {sp : Sp} (F : FnOk X.prog X.w X.K X.mg X.base (L2.CX X.prog X.w) k f fd ps sp) (hr : Room k X.A) (hm : X.mg x = some (.ref f)) (hk : PySem.W.keepIn X.K (.ref f) = true) (hb : Binds X.K fd ps []) (tk : Takes X W) (hg : Gl X x) (hdb : (x == ("__debug__" : Str)) = false) :
    PE X (.Call (.Name x p) [] [] pos) (tCallS sp (WE W) tNil) := by
  refine ⟨fun pins s σ H Q I h => wpAny_Call_Name_kw (ld_glob I hg hm ?_ hdb)⟩
  exact PySem.W.callWith_K0 I.kIn hk (run_fnS (us := []) (E := WE W) F hr hb (passAt tk σ) I .nil h)
theorem se_call0 (F : Fn X.prog X.w X.K X.mg X.base x k 0 fm) (hr : Room k X.A) (tk : Takes X W) (hg : Gl X x := by rfl) (hdb : (x == ("__debug__" : Str)) = false := by decide) : PE X (.Call (.Name x p) [] [] pos) (rE X.K W (fCall0 fm)) := by
  obtain ⟨f, fd, ps, G, hm, hk, hb⟩ := F.ex
  refine PEw (tCall0_of G hr hm hk hb tk hg hdb) fun σ H Q q => ?_
  obtain ⟨m, s, h, S, r, p⟩ := q
  exact ⟨m, h, [], S, RelDs.nil, rfl, postF_of p⟩
end
end G9

set_option Elab.async false
set_option linter.all false
set_option maxRecDepth 100000
set_option maxHeartbeats 2000000
namespace G9
open PySem PySem.Spec PyProof.Rows L2
theorem exf_of {K : PySem.W.Frag} {h : Heap} {mg : Str → Option Value} {x : Str} (X : K.In h) (G : h.Ns mainGlobals mg) (g : (He.Fa.glo x).ok K = true) (c : (He.Fa.exc x).ok K = true) : ExF K mg x :=
  ⟨(He.exc_ok c).1, He.glo_ok X G g, (He.exc_ok c).2.1, (He.exc_ok c).2.2.1, (He.exc_ok c).2.2.2⟩
/-- the law's own promise: nothing is let out -/
def spLaw (K : PySem.W.Frag) (fm : List D → HC → Res D) : Sp := fun vs H Q _ => spF K fm 1 vs H Q (fun _ _ _ => False)
theorem law_ok {P : Program} {w : World} {K : PySem.W.Frag} {mg : Str → Option Value} {base : Heap} {k : Nat} {f : Addr} {fd : FuncData} {ps : List Str} {fm : List D → HC → Res D} (F : FnOk P w K mg base (L2.CX P w) k f fd ps (spF K fm 1)) : FnOk P w K mg base L2.CX0 k f fd ps (spLaw K fm) :=
  ⟨fun vs H Q E q => F.len vs H Q _ q, fun A outer s H args us vs Q E hr he hb hv hs => codeAny_mono (F.run A outer s H args us vs Q _ hr he hb hv hs) fun r s' z => by
    unfold CR at z ⊢
    split at z
    · exact z
    · exact z
    · obtain ⟨_, _, _, _, _, _, _, _, _, _, _, _, z⟩ := z
      exact z.elim⟩
theorem law_sp {K : PySem.W.Frag} {fm : List D → HC → Res D} {H : Hp} {a : Addr} {ns : List Int} {E : XK} (hO : Only H) (hS : SqL K H a (ns.map V.int)) (z : ∃ h', fm [.scr ns] [] = .ok (.bl true) h') : spLaw K fm [.ref a] H (fun v _ => v = .bl true) E := by
  obtain ⟨h', e⟩ := z
  refine ⟨⟨[], a, ns⟩, [], [.scr ns], ⟨rfl, by simp, .of hS hO, fun i c b h => by simp at h⟩, .cons (by simp [RelD]) .nil, rfl, ?_⟩
  rw [e]
  intro m' H' v _ _ r
  simpa [RelD] using r
end G9

set_option Elab.async false
set_option linter.all false
set_option maxRecDepth 100000
set_option maxHeartbeats 0
namespace G9
open PySem L2

def m_is_within : List D → HC → Res D := fnRun 3
    (fRet (fAndV (fIsi "int" (fVar 0)) (fAndV (fNotV (fIsi "bool" (fVar 0))) (fChain opLe opLe (fVar 1) (fVar 0) (fVar 2)))))
def m_is_code : List D → HC → Res D := fnRun 2
    (fSeq (fIfS (fOr (fNot (fTru (fIsi "str" (fVar 0)))) (fNot (fBo (fChain opLe opLe (fC (.int 1)) (fCl bLen (fCons (fVar 0) fNil)) (fC (.int 4)))))) (fRet (fC (.bl false))) fNx)
    (fRet (fNotV (fLc (fItS (fVar 0)) [1] (gN 1) (fBo (fOp opNotIn (fVar 1) (fC (.str "sl")))) (fVar 1)))))
def m_is_setting : List D → HC → Res D := fnRun 2
    (fSeq (fIfS (fOr (fNot (fTru (fIsi "tuple" (fVar 0)))) (fOr (fBo (fOp opNe (fCl bLen (fCons (fVar 0) fNil)) (fC (.int 3)))) (fNot (fTru (fIsi "tuple" (fOp opIx (fVar 0) (fC (.int 0)))))))) (fRet (fC (.bl false))) fNx)
    (fSeq (fIfS (fOr (fNot (fBo (fChain opLe opLe (fC (.int 2)) (fCl bLen (fCons (fOp opIx (fVar 0) (fC (.int 0))) fNil)) (fC (.int 8))))) (fTru (fLc (fItT (fOp opIx (fVar 0) (fC (.int 0)))) [1] (gN 1) (fNot (fTru (fCall 1 m_is_code (fCons (fVar 1) fNil)))) (fVar 1)))) (fRet (fC (.bl false))) fNx)
    (fSeq (fIfS (fBo (fOp opNe (fLenSet (fOp opIx (fVar 0) (fC (.int 0)))) (fCl bLen (fCons (fOp opIx (fVar 0) (fC (.int 0))) fNil)))) (fRet (fC (.bl false))) fNx)
    (fRet (fAndV (fIsi "bool" (fOp opIx (fVar 0) (fC (.int 1)))) (fCall 3 m_is_within (fCons (fOp opIx (fVar 0) (fC (.int 2))) (fCons (fC (.int 1)) (fCons (fC (.int 60)) fNil)))))))))
def m_look : List D → HC → Res D := fnRun 1
    (fIfS (fNot (fTru (fCall 1 m_is_setting (fCons (fVar 0) fNil)))) (fRaise "NoSetting") fNx)
def m_look_house : List D → HC → Res D := fnRun 2
    (fIfS (fNot (fTru (fCall 3 m_is_within (fCons (fVar 1) (fCons (fC (.int 0)) (fCons (fOp opSub (fCl bLen (fCons (fOp opIx (fVar 0) (fC (.int 0))) fNil)) (fC (.int 1))) fNil)))))) (fRaise "NoHouse") fNx)
def m_beats : List D → HC → Res D := fnRun 3
    (fSeq (fSet 1 (fLst fNil))
    (fSeq (fFor (fItS (fVar 0)) (gN 2) (fExpr (fMt "list" mExtend (fVar 1) (fCons (fOp opAdd (fOp opMul (fLst (fCons (fC (.bl true)) fNil)) (fIf (fBo (fOp opEq (fVar 2) (fC (.str "l")))) (fC (.int 3)) (fC (.int 1)))) (fLst (fCons (fC (.bl false)) fNil))) fNil))))
    (fRet (fOp opAdd (fVar 1) (fOp opMul (fLst (fCons (fC (.bl false)) fNil)) (fOp opSub (fC (.int 4)) (fC (.int 1))))))))
def m_ring : List D → HC → Res D := fnRun 4
    (fSeq (fIfS (fNot (fTru (fCall 1 m_is_code (fCons (fVar 0) fNil)))) (fRaise "NoCode") fNx)
    (fSeq (fIfS (fNot (fTru (fCall 3 m_is_within (fCons (fVar 1) (fCons (fC (.int 0)) (fCons (fC (.int 400)) fNil)))))) (fRaise "NoCount") fNx)
    (fSeq (fSet 2 (fCall 1 m_beats (fCons (fVar 0) fNil)))
    (fRet (fLc (fItR1 (fVar 1)) [3] (gN 3) fYes (fOp opIx (fVar 2) (fOp opMod (fVar 3) (fCl bLen (fCons (fVar 2) fNil)))))))))
def m_meant : List D → HC → Res D := fnRun 5
    (fSeq (fExpr (fCall 1 m_look (fCons (fVar 0) fNil)))
    (fSeq (fIfS (fOr (fNot (fTru (fIsi "list" (fVar 1)))) (fOr (fBo (fOp opGt (fCl bLen (fCons (fVar 1) fNil)) (fC (.int 400)))) (fTru (fLc (fItL (fVar 1)) [2] (gN 2) (fNot (fTru (fIsi "bool" (fVar 2)))) (fVar 2))))) (fRaise "NoCode") fNx)
    (fRet (fLc (fItET (fOp opIx (fVar 0) (fC (.int 0)))) [3, 4] (gT (gsC (gN 3) (gsC (gN 4) gsN))) (fBo (fOp opEq (fCall 2 m_ring (fCons (fVar 4) (fCons (fCl bLen (fCons (fVar 1) fNil)) fNil))) (fVar 1))) (fVar 3)))))
def m_sure_behind : List D → HC → Res D := fnRun 4
    (fSeq (fExpr (fCall 1 m_look (fCons (fVar 0) fNil)))
    (fSeq (fExpr (fCall 2 m_look_house (fCons (fVar 0) (fCons (fVar 1) fNil))))
    (fSeq (fSet 2 (fCall 2 m_ring (fCons (fOp opIx (fOp opIx (fVar 0) (fC (.int 0))) (fVar 1)) (fCons (fC (.int 400)) fNil))))
    (fSeq (fSet 3 (fC (.int 0)))
    (fSeq (fWhile (fBo (fOp opNe (fCall 2 m_meant (fCons (fVar 0) (fCons (fSl (fVar 2) fNoP (fPart (fVar 3))) fNil))) (fLst (fCons (fVar 1) fNil)))) (fAugI (fun a b => a + b) 3 (fC (.int 1))) 1000)
    (fRet (fVar 3)))))))
def m_apart_behind : List D → HC → Res D := fnRun 6
    (fSeq (fExpr (fCall 1 m_look (fCons (fVar 0) fNil)))
    (fSeq (fExpr (fCall 2 m_look_house (fCons (fVar 0) (fCons (fVar 1) fNil))))
    (fSeq (fExpr (fCall 2 m_look_house (fCons (fVar 0) (fCons (fVar 2) fNil))))
    (fSeq (fIfS (fBo (fOp opEq (fVar 1) (fVar 2))) (fRaise "NoHouse") fNx)
    (fSeq (fSet 3 (fCall 2 m_ring (fCons (fOp opIx (fOp opIx (fVar 0) (fC (.int 0))) (fVar 1)) (fCons (fC (.int 400)) fNil))))
    (fSeq (fSet 4 (fCall 2 m_ring (fCons (fOp opIx (fOp opIx (fVar 0) (fC (.int 0))) (fVar 2)) (fCons (fC (.int 400)) fNil))))
    (fSeq (fSet 5 (fC (.int 0)))
    (fSeq (fWhile (fBo (fOp opEq (fSl (fVar 3) fNoP (fPart (fVar 5))) (fSl (fVar 4) fNoP (fPart (fVar 5))))) (fAugI (fun a b => a + b) 5 (fC (.int 1))) 1000)
    (fRet (fVar 5))))))))))
def m_mistaken : List D → HC → Res D := fnRun 7
    (fSeq (fExpr (fCall 1 m_look (fCons (fVar 0) fNil)))
    (fSeq (fIfS (fNot (fTru (fCall 3 m_is_within (fCons (fVar 1) (fCons (fC (.int 0)) (fCons (fC (.int 400)) fNil)))))) (fRaise "NoCount") fNx)
    (fSeq (fSet 2 (fLc (fItT (fOp opIx (fVar 0) (fC (.int 0)))) [5] (gN 5) fYes (fCall 2 m_ring (fCons (fVar 5) (fCons (fVar 1) fNil)))))
    (fSeq (fSet 3 (fLst fNil))
    (fSeq (fFor (fItR1 (fCl bLen (fCons (fVar 2) fNil))) (gN 4) (fExpr (fMt "list" mExtend (fVar 3) (fCons (fLc (fItR1 (fVar 4)) [6] (gN 6) (fBo (fOp opEq (fOp opIx (fVar 2) (fVar 6)) (fOp opIx (fVar 2) (fVar 4)))) (fTup (fCons (fVar 6) (fCons (fVar 4) fNil)))) fNil))))
    (fRet (fCl bSorted (fCons (fVar 3) fNil))))))))
def m_all_sure_behind : List D → HC → Res D := fnRun 2
    (fSeq (fExpr (fCall 1 m_look (fCons (fVar 0) fNil)))
    (fRet (fCl bMax (fCons (fLc (fItR1 (fCl bLen (fCons (fOp opIx (fVar 0) (fC (.int 0))) fNil))) [1] (gN 1) fYes (fCall 2 m_sure_behind (fCons (fVar 0) (fCons (fVar 1) fNil)))) fNil))))
def m_law_cell : List D → HC → Res D := fnRun 2
    (fSeq (fIfS (fBo (fOp opLt (fVar 1) (fCl bLen (fCons (fVar 0) fNil)))) (fRet (fOp opIx (fVar 0) (fVar 1))) fNx)
    (fRet (fC (.int 0))))
def m_law_mix : List D → HC → Res D := fnRun 3
    (fRet (fOp opMod (fOp opMod (fOp opPow (fOp opMod (fOp opMul (fVar 0) (fC (.int 48271))) (fVar 1)) (fC (.int 3))) (fVar 1)) (fVar 2)))
def m_law_seed : List D → HC → Res D := fnRun 2
    (fRet (fOp opMod (fOp opPow (fOp opMod (fOp opAdd (fOp opAdd (fOp opMul (fVar 0) (fC (.int 1103515245))) (fOp opMul (fC (.int 7919)) (fVar 1))) (fC (.int 12345))) (fC (.int 2147483647))) (fC (.int 5))) (fC (.int 2147483647))))
def m_law_pick : List D → HC → Res D := fnRun 2
    (fRet (fOp opMod (fOp opDiv (fVar 0) (fC (.int 97))) (fVar 1)))
def m_law_code : List D → HC → Res D := fnRun 2
    (fRet (fMt "str" mJoin (fC (.str "")) (fCons (fLc (fItR1 (fOp opAdd (fC (.int 1)) (fOp opMod (fOp opDiv (fVar 0) (fC (.int 5))) (fC (.int 4))))) [1] (gN 1) fYes (fOp opIx (fC (.str "sl")) (fCall 2 m_law_pick (fCons (fCall 2 m_law_seed (fCons (fVar 0) (fCons (fVar 1) fNil))) (fCons (fC (.int 2)) fNil))))) fNil)))
def m_law_setting : List D → HC → Res D := fnRun 4
    (fSeq (fSet 1 (fLst fNil))
    (fSeq (fFor (fItR1 (fOp opAdd (fC (.int 2)) (fOp opMod (fOp opDiv (fVar 0) (fC (.int 7))) (fC (.int 7))))) (gN 2) (fSeq (fSet 3 (fCall 1 m_law_code (fCons (fCall 2 m_law_seed (fCons (fVar 0) (fCons (fOp opAdd (fC (.int 10)) (fVar 2)) fNil))) fNil)))
    (fIfS (fBo (fOp opNotIn (fVar 3) (fVar 1))) (fExpr (fMt "list" mAppend (fVar 1) (fCons (fVar 3) fNil))) fNx)))
    (fSeq (fIfS (fBo (fOp opLt (fCl bLen (fCons (fVar 1) fNil)) (fC (.int 2)))) (fSet 1 (fOp opAdd (fVar 1) (fSl (fLc (fItT (fTup (fCons (fC (.str "sl")) (fCons (fC (.str "ls")) fNil)))) [3] (gN 3) (fBo (fOp opNotIn (fVar 3) (fVar 1))) (fVar 3)) fNoP (fPart (fC (.int 1)))))) fNx)
    (fRet (fTup (fCons (fCl bTuple (fCons (fVar 1) fNil)) (fCons (fOp opEq (fOp opMod (fOp opDiv (fVar 0) (fC (.int 11))) (fC (.int 2))) (fC (.int 0))) (fCons (fOp opAdd (fC (.int 1)) (fCall 2 m_law_pick (fCons (fCall 2 m_law_seed (fCons (fVar 0) (fCons (fC (.int 30)) fNil))) (fCons (fOp opIx (fLst (fCons (fC (.int 60)) (fCons (fC (.int 9)) fNil))) (fOp opMod (fOp opDiv (fVar 0) (fC (.int 13))) (fC (.int 2)))) fNil)))) fNil))))))))
def m_law_pair : List D → HC → Res D := fnRun 6
    (fSeq (fSet 3 (fCl bLen (fCons (fOp opIx (fVar 0) (fC (.int 0))) fNil)))
    (fSeq (fSet 4 (fOp opMod (fCall 2 m_law_cell (fCons (fVar 1) (fCons (fVar 2) fNil))) (fVar 3)))
    (fSeq (fSet 5 (fOp opMod (fOp opAdd (fOp opAdd (fVar 4) (fC (.int 1))) (fCall 3 m_law_mix (fCons (fCall 2 m_law_cell (fCons (fVar 1) (fCons (fOp opAdd (fVar 2) (fC (.int 1))) fNil))) (fCons (fC (.int 9949)) (fCons (fOp opSub (fVar 3) (fC (.int 1))) fNil))))) (fVar 3)))
    (fRet (fTup (fCons (fVar 4) (fCons (fVar 5) fNil)))))))
def m_law : List D → HC → Res D := fnRun 15
    (fSeq (fSet 1 (fCall 1 m_law_setting (fCons (fCall 2 m_law_seed (fCons (fCall 2 m_law_cell (fCons (fVar 0) (fCons (fC (.int 0)) fNil))) (fCons (fC (.int 0)) fNil))) fNil)))
    (fSeq (fSet 2 (fCl bLen (fCons (fOp opIx (fVar 1) (fC (.int 0))) fNil)))
    (fSeq (fAsg (gT (gsC (gN 3) (gsC (gN 4) gsN))) (fCall 3 m_law_pair (fCons (fVar 1) (fCons (fVar 0) (fCons (fC (.int 1)) fNil)))))
    (fSeq (fSet 5 (fCall 3 m_apart_behind (fCons (fVar 1) (fCons (fVar 3) (fCons (fVar 4) fNil)))))
    (fSeq (fSet 6 (fCl bTuple (fCons (fCl bSorted (fCons (fLst (fCons (fVar 3) (fCons (fVar 4) fNil))) fNil)) fNil)))
    (fSeq (fIfS (fOr (fBo (fOp opNe (fCall 3 m_apart_behind (fCons (fVar 1) (fCons (fVar 4) (fCons (fVar 3) fNil)))) (fVar 5))) (fBo (fOp opIn (fVar 6) (fCall 2 m_mistaken (fCons (fVar 1) (fCons (fVar 5) fNil)))))) (fRet (fC (.bl false))) fNx)
    (fSeq (fIfS (fOr (fBo (fOp opNotIn (fVar 6) (fCall 2 m_mistaken (fCons (fVar 1) (fCons (fOp opSub (fVar 5) (fC (.int 1))) fNil))))) (fBo (fOp opNe (fCl bLen (fCons (fCall 2 m_mistaken (fCons (fVar 1) (fCons (fC (.int 0)) fNil))) fNil)) (fOp opDiv (fOp opMul (fVar 2) (fOp opSub (fVar 2) (fC (.int 1)))) (fC (.int 2)))))) (fRet (fC (.bl false))) fNx)
    (fSeq (fSet 7 (fOp opMod (fCall 2 m_law_cell (fCons (fVar 0) (fCons (fC (.int 3)) fNil))) (fC (.int 40))))
    (fSeq (fIfS (fBo (fOp opNe (fLc (fItL (fCall 2 m_mistaken (fCons (fVar 1) (fCons (fOp opAdd (fVar 7) (fC (.int 1))) fNil)))) [13] (gN 13) (fBo (fOp opNotIn (fVar 13) (fCall 2 m_mistaken (fCons (fVar 1) (fCons (fVar 7) fNil))))) (fVar 13)) (fLst fNil))) (fRet (fC (.bl false))) fNx)
    (fSeq (fIfS (fBo (fOp opNe (fOp opIn (fVar 6) (fCall 2 m_mistaken (fCons (fVar 1) (fCons (fVar 7) fNil)))) (fOp opLt (fVar 7) (fVar 5)))) (fRet (fC (.bl false))) fNx)
    (fSeq (fIfS (fBo (fOp opGt (fVar 2) (fC (.int 2)))) (fSeq (fSet 8 (fOp opIx (fLc (fItR1 (fVar 2)) [10] (gN 10) (fBo (fOp opNotIn (fVar 10) (fVar 6))) (fVar 10)) (fC (.int 0))))
    (fSeq (fSet 9 (fCl bSorted (fCons (fLst (fCons (fVar 5) (fCons (fCall 3 m_apart_behind (fCons (fVar 1) (fCons (fVar 3) (fCons (fVar 8) fNil)))) (fCons (fCall 3 m_apart_behind (fCons (fVar 1) (fCons (fVar 4) (fCons (fVar 8) fNil)))) fNil)))) fNil)))
    (fIfS (fBo (fOp opNe (fOp opIx (fVar 9) (fC (.int 0))) (fOp opIx (fVar 9) (fC (.int 1))))) (fRet (fC (.bl false))) fNx))) fNx)
    (fSeq (fFor (fItR1 (fVar 2)) (gN 10) (fSeq (fSet 11 (fLc (fItR1 (fVar 2)) [14] (gN 14) (fBo (fOp opNe (fVar 14) (fVar 10))) (fCall 3 m_apart_behind (fCons (fVar 1) (fCons (fVar 10) (fCons (fVar 14) fNil))))))
    (fIfS (fBo (fOp opNe (fCall 2 m_sure_behind (fCons (fVar 1) (fCons (fVar 10) fNil))) (fCl bMax (fCons (fVar 11) fNil)))) (fRet (fC (.bl false))) fNx)))
    (fSeq (fSet 12 (fCall 1 m_all_sure_behind (fCons (fVar 1) fNil)))
    (fRet (fAndV (fOp opEq (fCall 2 m_mistaken (fCons (fVar 1) (fCons (fVar 12) fNil))) (fLst fNil)) (fOp opNe (fCall 2 m_mistaken (fCons (fVar 1) (fCons (fOp opSub (fVar 12) (fC (.int 1))) fNil))) (fLst fNil)))))))))))))))))
end G9


set_option Elab.async false
set_option linter.all false
set_option maxRecDepth 100000
set_option maxHeartbeats 0
namespace G9
open PySem L2
def itR1 (x : D) (h1 : HC) : Res (List D × List (Nat × Cell)) := match x with
  | .int j => if -(2 ^ 62) ≤ j ∧ j < 2 ^ 62 then .ok (rngD 0 j.toNat, []) h1 else .bad
  | _ => .bad
def itR2 (x y : D) (h2 : HC) : Res (List D × List (Nat × Cell)) := match x, y with
  | .int i, .int j => if -(2 ^ 62) ≤ i ∧ i < 2 ^ 62 ∧ -(2 ^ 62) ≤ j ∧ j < 2 ^ 62 then .ok (rngD i (j - i).toNat, []) h2 else .bad
  | _, _ => .bad
section
variable {α β : Type} {a b c : EE} {as : EA} {s : SD} {h h1 : HC} {t t2 : ET} {f g : ES} {d x y : D} {i j : Int} {n m : Nat} {z z2 : Str} {xs ys : List D}
@[simp] theorem bind_ok {r : α} {k : α → HC → Res β} : (Res.ok r h).bind k = k r h := id rfl
@[simp] theorem bind_exc {cc : Str} {k : α → HC → Res β} : (Res.exc cc h : Res α).bind k = .exc cc h := id rfl
@[simp] theorem bind_bad {k : α → HC → Res β} : (Res.bad : Res α).bind k = .bad := id rfl
@[simp] theorem ofR_ok {r : α} {k : α → HC → RS} : ofR s (Res.ok r h) k = k r h := id rfl
@[simp] theorem ofR_exc {cc : Str} {k : α → HC → RS} : ofR s (Res.exc cc h : Res α) k = .exc cc s h := id rfl
@[simp] theorem fVar_ap : fVar n s h = (match s[n]? with | some (some d) => .ok d h | _ => .bad) := id rfl
@[simp] theorem fC_ap : fC d s h = .ok d h := id rfl
@[simp] theorem fOp_ap {op : D → D → HC → Res D} : fOp op a b s h = (a s h).bind fun x h1 => (b s h1).bind fun y h2 => op x y h2 := id rfl
@[simp] theorem fTru_ap : fTru a s h = (a s h).bind fun x h1 => match truD h1 x with | some b => .ok b h1 | none => .bad := id rfl
@[simp] theorem fNot_ap : fNot t s h = (t s h).bind fun b h1 => .ok (!b) h1 := id rfl
@[simp] theorem fAnd_ap : fAnd t t2 s h = (t s h).bind fun x h1 => if x = true then t2 s h1 else .ok false h1 := id rfl
@[simp] theorem fOr_ap : fOr t t2 s h = (t s h).bind fun x h1 => if x = true then .ok true h1 else t2 s h1 := id rfl
@[simp] theorem fNotV_ap : fNotV a s h = (a s h).bind fun x h1 => match truD h1 x with | some b => .ok (.bl (!b)) h1 | none => .bad := id rfl
@[simp] theorem fAndV_ap : fAndV a b s h = (a s h).bind fun x h1 => match truD h1 x with | some k => if k = true then b s h1 else .ok x h1 | none => .bad := id rfl
@[simp] theorem fOrV_ap : fOrV a b s h = (a s h).bind fun x h1 => match truD h1 x with | some k => if k = true then .ok x h1 else b s h1 | none => .bad := id rfl
@[simp] theorem fIf_ap : fIf t a b s h = (t s h).bind fun x h1 => if x = true then a s h1 else b s h1 := id rfl
@[simp] theorem fChain_ap {op op' : D → D → HC → Res D} : fChain op op' a b c s h = (a s h).bind fun x h1 => (b s h1).bind fun y h2 => (op x y h2).bind fun z h3 => (match z with | .bl true => (c s h3).bind fun w h4 => op' y w h4 | .bl false => .ok (.bl false) h3 | _ => .bad) := id rfl
@[simp] theorem fBo_ap : fBo a s h = (a s h).bind fun x h1 => match x with | .bl b => .ok b h1 | _ => .bad := id rfl
@[simp] theorem fNil_ap : fNil s h = .ok [] h := id rfl
@[simp] theorem fCons_ap : fCons a as s h = (a s h).bind fun x h1 => (as s h1).bind fun xs h2 => .ok (x :: xs) h2 := id rfl
@[simp] theorem fTup_ap : fTup as s h = (as s h).bind fun xs h1 => mkT xs h1 := id rfl
@[simp] theorem fLst_ap : fLst as s h = (as s h).bind fun xs h1 => newL xs h1 := id rfl
@[simp] theorem fNoP_ap : fNoP s h = .ok none h := id rfl
@[simp] theorem fPart_ap : fPart a s h = (a s h).bind fun x h1 => match x with | .int i => .ok (some i) h1 | _ => .bad := id rfl
@[simp] theorem fSl_ap {lo hi : EO} : fSl a lo hi s h = (a s h).bind fun x h1 => (lo s h1).bind fun l h2 => (hi s h2).bind fun u h3 => opSl x l u h3 := id rfl
@[simp] theorem fCl_ap {k : List D → HC → Res D} : fCl k as s h = (as s h).bind fun xs h1 => k xs h1 := id rfl
@[simp] theorem fCall_ap {k : List D → HC → Res D} : fCall n k as s h = (as s h).bind fun ds h1 => if ds.length = n then k ds h1 else .bad := id rfl
@[simp] theorem fCall0_ap {k : List D → HC → Res D} : fCall0 k s h = k [] h := id rfl
@[simp] theorem fIsi_ap {cc : String} : fIsi cc a s h = (a s h).bind fun x h1 => match tyName h1 x with | some t => (match isiT t cc with | some b => .ok (.bl b) h1 | none => .bad) | none => .bad := id rfl
@[simp] theorem fMt_ap {T : String} {k : D → List D → HC → Res D} : fMt T k a as s h = (a s h).bind fun x h1 => if hasTy T h1 x = true then (as s h1).bind fun xs h2 => k x xs h2 else .bad := id rfl
@[simp] theorem fMt0_ap {T : String} {k : D → List D → HC → Res D} : fMt0 T k a s h = (a s h).bind fun x h1 => if hasTy T h1 x = true then k x [] h1 else .bad := id rfl
@[simp] theorem fNx_ap : fNx s h = .nx s h := id rfl
@[simp] theorem fSeq_ap : fSeq f g s h = (match f s h with | .nx s1 h1 => g s1 h1 | r => r) := id rfl
@[simp] theorem fExpr_ap : fExpr a s h = ofR s (a s h) fun _ h1 => .nx s h1 := id rfl
@[simp] theorem fRet_ap : fRet a s h = ofR s (a s h) fun d h1 => .ret d h1 := id rfl
@[simp] theorem fRetN_ap : fRetN s h = .ret .non h := id rfl
@[simp] theorem fIfS_ap : fIfS t f g s h = ofR s (t s h) fun x h1 => if x = true then f s h1 else g s h1 := id rfl
@[simp] theorem fSet_ap : fSet n a s h = ofR s (a s h) fun d h1 => .nx (s.set n (some d)) h1 := id rfl
@[simp] theorem fRaise_ap {cc : Str} : fRaise cc s h = .exc cc s h := id rfl
@[simp] theorem fAsg_ap {k : EG} : fAsg k a s h = ofR s (a s h) fun d h1 => match k d s with | some s1 => .nx s1 h1 | none => .bad := id rfl
@[simp] theorem fFor_ap {it : EI} {k : EG} : fFor it k f s h = ofR s (it s h) fun x h1 => forLoop x.2 k f x.1 s h1 := id rfl
@[simp] theorem fLc_ap {it : EI} {k : EG} {own : List Nat} : fLc it own k t a s h = (it s h).bind fun x h1 => (lcLoop x.2 k t a (wipeD s own) x.1 [] h1).bind fun xs h2 => .ok (.ref h2.length) (h2 ++ [.lst xs]) := id rfl
@[simp] theorem fYes_ap : fYes s h = .ok true h := id rfl
@[simp] theorem fItT_ap : fItT a s h = (a s h).bind fun x h1 => match x with | .tup xs => .ok (xs, []) h1 | _ => .bad := id rfl
@[simp] theorem fItS_ap : fItS a s h = (a s h).bind fun x h1 => match x with | .str z => .ok (z.cps.toList.map fun c => .str ⟨#[c]⟩, []) h1 | _ => .bad := id rfl
@[simp] theorem fItL_ap : fItL a s h = (a s h).bind fun x h1 => match x with | .ref n => (match h1[n]? with | some (.lst xs) => .ok (xs, [(n, .lst xs)]) h1 | _ => .bad) | .scr ns => .ok (ns.map D.int, []) h1 | _ => .bad := id rfl
@[simp] theorem fItET_ap : fItET a s h = (a s h).bind fun x h1 => match x with | .tup xs => .ok (enumD xs, []) h1 | _ => .bad := id rfl
@[simp] theorem fItR1_ap : fItR1 a s h = (a s h).bind fun x h1 => itR1 x h1 := id rfl
@[simp] theorem fItR2_ap : fItR2 a b s h = (a s h).bind fun x h1 => (b s h1).bind fun y h2 => itR2 x y h2 := id rfl
@[simp] theorem itR1_nat (e : n ≤ BIG) : itR1 (.int (n : Int)) h = .ok ((List.range n).map fun i : Nat => D.int (i : Int), []) h := by
  have e2 : n ≤ 100000 := e
  unfold itR1
  simp only
  rw [if_pos ⟨by omega, by omega⟩]
  simp [rngD]
theorem itR1_int (e0 : 0 ≤ i) (e : i ≤ 100000) : itR1 (.int i) h = .ok ((List.range i.toNat).map fun i : Nat => D.int (i : Int), []) h := by
  unfold itR1
  simp only
  rw [if_pos ⟨by omega, by omega⟩]
  simp [rngD]
theorem itR2_nat {k : Nat} (e : n ≤ 100000) (e2 : k ≤ 100000) : itR2 (.int (k : Int)) (.int (n : Int)) h = .ok ((List.range (n - k)).map fun i : Nat => D.int ((k : Int) + (i : Int)), []) h := by
  unfold itR2
  simp only
  rw [if_pos ⟨by omega, by omega, by omega, by omega⟩]
  simp [rngD, Int.toNat_sub]
@[simp] theorem fLenSet_ap : fLenSet a s h = (a s h).bind fun x h1 => match x with | .tup ds => (match strsD ds with | some xs => if xs.length ≤ 1000 then .ok (D.int (dn xs)) h1 else .bad | none => .bad) | _ => .bad := id rfl
@[simp] theorem gN_ap : gN n d s = some (s.set n (some d)) := id rfl
@[simp] theorem gT_ap {k : EGs} : gT k (.tup xs) s = k xs s := id rfl
@[simp] theorem gsC_ap {k : EG} {ks : EGs} : gsC k ks (d :: xs) s = (k d s).bind fun s1 => ks xs s1 := id rfl
@[simp] theorem gsN_ap : gsN [] s = some s := id rfl
/-! ops on known shapes -/
@[simp] theorem addI : opAdd (.int i) (.int j) h = .ok (.int (i + j)) h := id rfl
@[simp] theorem subI : opSub (.int i) (.int j) h = .ok (.int (i - j)) h := id rfl
@[simp] theorem mulI : opMul (.int i) (.int j) h = if mulOk i j then .ok (.int (i * j)) h else .bad := id rfl
@[simp] theorem modI : opMod (.int i) (.int j) h = if 0 < j then .ok (.int (i % j)) h else .bad := id rfl
@[simp] theorem divI : opDiv (.int i) (.int j) h = if 0 < j ∧ j < 1073741824 then .ok (.int (i / j)) h else .bad := id rfl
@[simp] theorem powI : opPow (.int i) (.int j) h = if 0 ≤ j ∧ j ≤ 1000000 ∧ i.natAbs < 2 ^ 64 then .ok (.int (i ^ j.toNat)) h else .bad := id rfl
@[simp] theorem cmpI {k : Int → Int → Bool} : opI k (.int i) (.int j) h = .ok (.bl (k i j)) h := id rfl
@[simp] theorem eqI : opEq (.int i) (.int j) h = .ok (.bl (decide (i = j))) h := by
  simp [opEq, toPy, PyData.eqv]
  rw [Bool.eq_iff_iff]
  simp
@[simp] theorem neI : opNe (.int i) (.int j) h = .ok (.bl (!decide (i = j))) h := by
  simp [opNe, toPy, PyData.eqv]
  rw [Bool.eq_iff_iff]
  simp
@[simp] theorem lenT : bLen [.tup xs] h = .ok (.int xs.length) h := id rfl
@[simp] theorem lenR : bLen [.ref n] h = (match asSeq h n with | some xs => .ok (.int xs.length) h | none => .bad) := id rfl
@[simp] theorem lenS : bLen [.str z] h = if z.length ≤ BIG then .ok (.int z.length) h else .bad := id rfl
@[simp] theorem lenScr {ns : List Int} : bLen [.scr ns] h = .ok (.int ns.length) h := id rfl
@[simp] theorem ixT : opIx (.tup xs) (.int i) h = (match atI xs i with | some d => .ok d h | none => .bad) := id rfl
@[simp] theorem ixR : opIx (.ref n) (.int i) h = (match asSeq h n with | some xs => (match atI xs i with | some d => .ok d h | none => .bad) | none => .bad) := id rfl
@[simp] theorem ixS : opIx (.str z) (.int i) h = if z.length ≤ BIG then (match atI z.cps.toList i with | some c => .ok (.str ⟨#[c]⟩) h | none => .bad) else .bad := id rfl
@[simp] theorem ixScr {ns : List Int} : opIx (.scr ns) (.int i) h = (match atI ns i with | some n => .ok (.int n) h | none => .bad) := id rfl
@[simp] theorem tru_bl {v : Bool} : truD h (.bl v) = some v := id rfl
@[simp] theorem tru_ref : truD h (.ref n) = (match h[n]? with | some (.lst xs) => some (!xs.isEmpty) | some (.dk xs) => some (!xs.isEmpty) | _ => none) := id rfl
@[simp] theorem ty_int : tyName h (.int i) = some "int" := id rfl
@[simp] theorem ty_bl {v : Bool} : tyName h (.bl v) = some "bool" := id rfl
@[simp] theorem ty_str : tyName h (.str z) = some "str" := id rfl
@[simp] theorem ty_tup : tyName h (.tup xs) = some "tuple" := id rfl
@[simp] theorem ty_ref : tyName h (.ref n) = (match h[n]? with | some (.lst _) => some "list" | some (.dk _) => some "dict" | some (.dt _) => some "dict" | _ => none) := id rfl
@[simp] theorem isi1 : isiT "int" "int" = some true := by decide +kernel
@[simp] theorem isi2 : isiT "int" "bool" = some false := by decide +kernel
@[simp] theorem isi3 : isiT "str" "str" = some true := by decide +kernel
@[simp] theorem isi4 : isiT "tuple" "tuple" = some true := by decide +kernel
@[simp] theorem isi5 : isiT "bool" "bool" = some true := by decide +kernel
@[simp] theorem isi6 : isiT "list" "list" = some true := by decide +kernel
@[simp] theorem mkT_ok' (e : xs.length ≤ BIG) : mkT xs h = .ok (.tup xs) h := if_pos e
@[simp] theorem newL_ok' (e : xs.length ≤ BIG) : newL xs h = .ok (.ref h.length) (h ++ [.lst xs]) := if_pos e
theorem BIG_eq : BIG = 100000 := rfl
@[simp] theorem asSeq_of (e : h[n]? = some (.lst xs)) : asSeq h n = some xs := by simp [asSeq, e]
end
theorem atI_nat {α : Type} {xs : List α} {k : Nat} {x : α} (e : xs[k]? = some x) : atI xs (k : Int) = some x := by
  have hk : k < xs.length := (List.getElem?_eq_some_iff.mp e).1
  simp [atI, ixN, hk]
  exact (List.getElem?_eq_some_iff.mp e).2
theorem atI_int {α : Type} {xs : List α} {i : Int} {x : α} (h0 : 0 ≤ i) (e : xs[i.toNat]? = some x) : atI xs i = some x := by
  have := atI_nat e
  rwa [Int.toNat_of_nonneg h0] at this

/-! heaps grow -/
def Le (h h' : HC) : Prop := ∃ e, h' = h ++ e
theorem Le.refl {h : HC} : Le h h := ⟨[], by simp⟩
theorem Le.trans {h h1 h2 : HC} (a : Le h h1) (b : Le h1 h2) : Le h h2 := by
  obtain ⟨e, rfl⟩ := a
  obtain ⟨f, rfl⟩ := b
  exact ⟨e ++ f, by simp⟩
theorem Le.app {h e : HC} : Le h (h ++ e) := ⟨e, rfl⟩
theorem Le.get {h h' : HC} {n : Nat} {c : Cell} (a : Le h h') (e : h[n]? = some c) : h'[n]? = some c := by
  obtain ⟨f, rfl⟩ := a
  rw [List.getElem?_append_left (List.getElem?_eq_some_iff.mp e).1]
  exact e
theorem last_get {h : HC} {c : Cell} : (h ++ [c])[h.length]? = some c := by simp

/-- with n cells below, what stands there stays; above it may change -/
theorem m_is_within_ok {h : HC} {i lo hi : Int} : m_is_within [.int i, .int lo, .int hi] h = .ok (.bl (decide (lo ≤ i) && decide (i ≤ hi))) h := by
  simp [m_is_within, fnRun]
  by_cases e : lo ≤ i <;> simp [e]
end G9

set_option Elab.async false
set_option linter.all false
set_option maxRecDepth 100000
set_option maxHeartbeats 0
namespace G9
open PySem L2
/-! ### whole data that are alike -/
theorem optAll_map {α β : Type} {f : α → Option β} {g : α → β} : ∀ {xs : List α}, (∀ x ∈ xs, f x = some (g x)) → optAll (xs.map f) = some (xs.map g)
  | [], _ => rfl
  | x :: xs, e => by
    have h1 := e x (by simp)
    have h2 := optAll_map (f := f) (g := g) (xs := xs) fun y hy => e y (by simp [hy])
    simp [optAll, h1, h2]
theorem toPy_ref {h : HC} {k n : Nat} {xs : List D} (q : h[n]? = some (.lst xs)) : toPy h (k + 1) (.ref n) = (optAll (xs.map (toPy h k))).map .list := by
  simp only [toPy, q]
/-- a list of bools stands there -/
def LB (h : HC) (d : D) (bs : List Bool) : Prop := ∃ n, d = .ref n ∧ h[n]? = some (.lst (bs.map D.bl))
theorem LB.mono {h h' : HC} {d : D} {bs : List Bool} (a : LB h d bs) (l : Le h h') : LB h' d bs := by
  obtain ⟨n, e, q⟩ := a
  exact ⟨n, e, l.get q⟩
theorem LB.py {h : HC} {d : D} {bs : List Bool} (a : LB h d bs) {k : Nat} : toPy h (k + 2) d = some (.list (bs.map PyData.bool)) := by
  obtain ⟨n, rfl, q⟩ := a
  have := optAll_map (f := toPy h (k + 1) ∘ D.bl) (g := PyData.bool) (xs := bs) fun x _ => by simp [toPy]
  rw [toPy_ref q, List.map_map, this]
  rfl
theorem eqv_bools : ∀ as bs : List Bool, PyData.eqvAll (as.map PyData.bool) (bs.map PyData.bool) = decide (as = bs)
  | [], [] => by simp [PyData.eqvAll]
  | [], _ :: _ => by simp [PyData.eqvAll]
  | _ :: _, [] => by simp [PyData.eqvAll]
  | a :: as, b :: bs => by
    have := eqv_bools as bs
    simp only [List.map_cons, PyData.eqvAll, this, PyData.eqv]
    rw [Bool.eq_iff_iff]
    simp
theorem eqLB {h : HC} {d e : D} {as bs : List Bool} (x : LB h d as) (y : LB h e bs) : opEq d e h = .ok (.bl (decide (as = bs))) h := by
  have h1 := x.py (k := 7)
  have h2 := y.py (k := 7)
  simp [opEq, h1, h2, PyData.eqv, eqv_bools]
theorem neLB {h : HC} {d e : D} {as bs : List Bool} (x : LB h d as) (y : LB h e bs) : opNe d e h = .ok (.bl (!decide (as = bs))) h := by
  have h1 := x.py (k := 7)
  have h2 := y.py (k := 7)
  simp [opNe, h1, h2, PyData.eqv, eqv_bools]
/-- a list of ints stands there -/
def LI (h : HC) (d : D) (is : List Int) : Prop := ∃ n, d = .ref n ∧ h[n]? = some (.lst (is.map D.int))
theorem LI.mono {h h' : HC} {d : D} {is : List Int} (a : LI h d is) (l : Le h h') : LI h' d is := by
  obtain ⟨n, e, q⟩ := a
  exact ⟨n, e, l.get q⟩
theorem LI.py {h : HC} {d : D} {is : List Int} (a : LI h d is) {k : Nat} : toPy h (k + 2) d = some (.list (is.map PyData.int)) := by
  obtain ⟨n, rfl, q⟩ := a
  have := optAll_map (f := toPy h (k + 1) ∘ D.int) (g := PyData.int) (xs := is) fun x _ => by simp [toPy]
  rw [toPy_ref q, List.map_map, this]
  rfl
theorem eqv_ints : ∀ as bs : List Int, PyData.eqvAll (as.map PyData.int) (bs.map PyData.int) = decide (as = bs)
  | [], [] => by simp [PyData.eqvAll]
  | [], _ :: _ => by simp [PyData.eqvAll]
  | _ :: _, [] => by simp [PyData.eqvAll]
  | a :: as, b :: bs => by
    have := eqv_ints as bs
    simp only [List.map_cons, PyData.eqvAll, this, PyData.eqv]
    rw [Bool.eq_iff_iff]
    simp
theorem eqLI {h : HC} {d e : D} {as bs : List Int} (x : LI h d as) (y : LI h e bs) : opEq d e h = .ok (.bl (decide (as = bs))) h := by
  have h1 := x.py (k := 7)
  have h2 := y.py (k := 7)
  simp [opEq, h1, h2, PyData.eqv, eqv_ints]
theorem neLI {h : HC} {d e : D} {as bs : List Int} (x : LI h d as) (y : LI h e bs) : opNe d e h = .ok (.bl (!decide (as = bs))) h := by
  have h1 := x.py (k := 7)
  have h2 := y.py (k := 7)
  simp [opNe, h1, h2, PyData.eqv, eqv_ints]
/-- a list of pairs of ints stands there -/
def pD (p : Int × Int) : D := .tup [.int p.1, .int p.2]
def LP (h : HC) (d : D) (ps : List (Int × Int)) : Prop := ∃ n, d = .ref n ∧ h[n]? = some (.lst (ps.map pD))
theorem LP.mono {h h' : HC} {d : D} {ps : List (Int × Int)} (a : LP h d ps) (l : Le h h') : LP h' d ps := by
  obtain ⟨n, e, q⟩ := a
  exact ⟨n, e, l.get q⟩
def pP (p : Int × Int) : PyData := .tuple [.int p.1, .int p.2]
theorem pP_of {h : HC} {k : Nat} {p : Int × Int} : toPy h (k + 2) (pD p) = some (pP p) := by
  simp [pD, toPy, optAll, pP]
theorem LP.py {h : HC} {d : D} {ps : List (Int × Int)} (a : LP h d ps) {k : Nat} : toPy h (k + 3) d = some (.list (ps.map pP)) := by
  obtain ⟨n, rfl, q⟩ := a
  have := optAll_map (f := toPy h (k + 2) ∘ pD) (g := pP) (xs := ps) fun x _ => pP_of
  rw [toPy_ref q, List.map_map, this]
  rfl
theorem eqv_pP (p q : Int × Int) : PyData.eqv (pP p) (pP q) = decide (p = q) := by
  obtain ⟨a, b⟩ := p
  obtain ⟨c, d⟩ := q
  simp only [pP, PyData.eqv, PyData.eqvAll]
  rw [Bool.eq_iff_iff]
  simp
theorem eqv_pairs : ∀ as bs : List (Int × Int), PyData.eqvAll (as.map pP) (bs.map pP) = decide (as = bs)
  | [], [] => by simp [PyData.eqvAll]
  | [], _ :: _ => by simp [PyData.eqvAll]
  | _ :: _, [] => by simp [PyData.eqvAll]
  | a :: as, b :: bs => by
    have := eqv_pairs as bs
    simp only [List.map_cons, PyData.eqvAll, this, eqv_pP]
    rw [Bool.eq_iff_iff]
    simp
theorem eqLP {h : HC} {d e : D} {as bs : List (Int × Int)} (x : LP h d as) (y : LP h e bs) : opEq d e h = .ok (.bl (decide (as = bs))) h := by
  have h1 := x.py (k := 6)
  have h2 := y.py (k := 6)
  simp [opEq, h1, h2, PyData.eqv, eqv_pairs]
theorem neLP {h : HC} {d e : D} {as bs : List (Int × Int)} (x : LP h d as) (y : LP h e bs) : opNe d e h = .ok (.bl (!decide (as = bs))) h := by
  have h1 := x.py (k := 6)
  have h2 := y.py (k := 6)
  simp [opNe, h1, h2, PyData.eqv, eqv_pairs]

/-! ### loops -/
theorem forLoop_inv {α : Type} (f : α → D) {G : List (Nat × Cell)} {g : EG} {body : ES} (I : List α → SD → HC → Prop) (hc : ∀ l s h, I l s h → chk G h = true) : ∀ (xs done : List α) (s : SD) (h : HC), I done s h →
    (∀ l x s h, l ++ [x] <+: done ++ xs → I l s h → ∃ s1 s2 h2, g (f x) s = some s1 ∧ body s1 h = .nx s2 h2 ∧ I (l ++ [x]) s2 h2) →
    ∃ s' h', forLoop G g body (xs.map f) s h = .nx s' h' ∧ I (done ++ xs) s' h'
  | [], done, s, h, i, _ => ⟨s, h, by simp [forLoop, hc _ _ _ i], by simpa using i⟩
  | x :: xs, done, s, h, i, st => by
    obtain ⟨s1, s2, h2, e1, e2, i2⟩ := st done x s h (by rw [show done ++ x :: xs = (done ++ [x]) ++ xs by simp]; exact List.prefix_append _ _) i
    obtain ⟨s', h', e, i'⟩ := forLoop_inv f I hc xs (done ++ [x]) s2 h2 i2 fun l y s h q => st l y s h (by simpa using q)
    exact ⟨s', h', by simp [forLoop, hc _ _ _ i, e1, e2, e], by simpa using i'⟩
theorem lcLoop_rel {α : Type} (f : α → D) {G : List (Nat × Cell)} {g : EG} {c : ET} {a : EE} {s : SD} {h0 : HC} (p : α → Bool) (R : HC → α → D → Prop) (hR : ∀ h h' x y, Le h h' → R h x y → R h' x y) (hc : ∀ h, Le h0 h → chk G h = true) :
    ∀ (xs : List α) (acc : List D) (h : HC), Le h0 h → acc.length + xs.length ≤ BIG →
    (∀ x ∈ xs, ∀ h, Le h0 h → ∃ s1 h1, g (f x) s = some s1 ∧ c s1 h = .ok (p x) h1 ∧ Le h h1 ∧ (p x = true → ∃ y h2, a s1 h1 = .ok y h2 ∧ Le h1 h2 ∧ R h2 x y)) →
    ∃ ys h', lcLoop G g c a s (xs.map f) acc h = .ok (acc ++ ys) h' ∧ Le h h' ∧ (∀ (i : Nat) (x : α), (xs.filter p)[i]? = some x → ∃ y, ys[i]? = some y ∧ R h' x y) ∧ ys.length = (xs.filter p).length
  | [], acc, h, l, _, _ => ⟨[], h, by simp [lcLoop, hc h l], Le.refl, by simp, by simp⟩
  | x :: xs, acc, h, l, hl, st => by
    obtain ⟨s1, h1, e1, e2, l1, k⟩ := st x (by simp) h l
    have hl' : acc.length < BIG := by simp at hl; omega
    cases hp : p x with
    | false =>
      rw [hp] at e2
      obtain ⟨ys, h', e, l', r, n⟩ := lcLoop_rel f p R hR hc xs acc h1 (l.trans l1) (by simp at hl; omega) fun y hy => st y (by simp [hy])
      exact ⟨ys, h', by simp [lcLoop, hc h l, e1, e2, e], l1.trans l', by simpa [hp] using r, by simpa [hp] using n⟩
    | true =>
      rw [hp] at e2
      obtain ⟨y, h2, e3, l2, r2⟩ := k hp
      obtain ⟨ys, h', e, l', r, n⟩ := lcLoop_rel f p R hR hc xs (acc ++ [y]) h2 ((l.trans l1).trans l2) (by simp at hl ⊢; omega) fun y hy => st y (by simp [hy])
      refine ⟨y :: ys, h', by simp [lcLoop, hc h l, e1, e2, e3, hl', e], (l1.trans l2).trans l', ?_, by simp [hp, n]⟩
      intro i z q
      simp only [List.filter_cons, hp, if_true] at q
      cases i with
      | zero => simp at q; subst q; exact ⟨y, by simp, hR _ _ _ _ l' r2⟩
      | succ i => simpa using r i z (by simpa using q)
/-- as above, where each thing told is a function of the thing walked -/
theorem lcLoop_fn {α : Type} (f : α → D) {G : List (Nat × Cell)} {g : EG} {c : ET} {a : EE} {s : SD} {h0 : HC} (p : α → Bool) (q : α → D) (hc : ∀ h, Le h0 h → chk G h = true) (xs : List α) (h : HC) (l : Le h0 h) (hl : xs.length ≤ BIG)
    (st : ∀ x ∈ xs, ∀ h, Le h0 h → ∃ s1 h1, g (f x) s = some s1 ∧ c s1 h = .ok (p x) h1 ∧ Le h h1 ∧ (p x = true → ∃ h2, a s1 h1 = .ok (q x) h2 ∧ Le h1 h2)) :
    ∃ h', lcLoop G g c a s (xs.map f) [] h = .ok ((xs.filter p).map q) h' ∧ Le h h' := by
  obtain ⟨ys, h', e, l', r, n⟩ := lcLoop_rel f p (fun _ x y => y = q x) (fun _ _ _ _ _ e => e) hc xs [] h l (by simpa using hl) fun x hx h l => by
    obtain ⟨s1, h1, e1, e2, l1, k⟩ := st x hx h l
    exact ⟨s1, h1, e1, e2, l1, fun z => by
      obtain ⟨h2, e3, l2⟩ := k z
      exact ⟨_, h2, e3, l2, rfl⟩⟩
  refine ⟨h', ?_, l'⟩
  rw [e]
  congr 1
  apply List.ext_getElem?
  intro i
  simp only [List.nil_append, List.getElem?_map]
  cases z : (xs.filter p)[i]? with
  | none =>
    have := List.getElem?_eq_none_iff.mp z
    simp
    omega
  | some x =>
    obtain ⟨y, e1, e2⟩ := r i x z
    simp [e1, e2]
/-- a loop that counts -/
def cnt (C : Nat → Bool) : Nat → Nat → Nat
  | 0, t => t
  | k + 1, t => if C t = true then cnt C k (t + 1) else t
theorem cnt_congr {C C' : Nat → Bool} : ∀ (k t : Nat), (∀ u, t ≤ u → u < t + k → C u = C' u) → cnt C k t = cnt C' k t
  | 0, t, _ => rfl
  | k + 1, t, e => by
    simp only [cnt, e t (Nat.le_refl _) (by omega)]
    rw [cnt_congr k (t + 1) fun u h1 h2 => e u (by omega) (by omega)]
theorem while_cnt {c : ET} {i : Nat} {C : Nat → Bool} {I : HC → Prop} {S : Nat → SD} (N : Nat) (hN : C N = false) (hS : ∀ t, (S t)[i]? = some (some (.int (t : Int)))) (hS2 : ∀ t, (S t).set i (some (.int ((t : Int) + 1))) = S (t + 1))
    (hc : ∀ t h, t ≤ N → I h → ∃ h', c (S t) h = .ok (C t) h' ∧ I h') : ∀ (n k t : Nat) (h : HC), t + k = N → k < n → I h → ∃ h', fWhile c (fAugI (fun a b => a + b) i (fC (.int 1))) n (S t) h = .nx (S (cnt C k t)) h' ∧ I h' := by
  intro n
  induction n with
  | zero => intro k t h _ q; omega
  | succ n ih =>
    intro k t h hk hn hI
    obtain ⟨h1, e1, I1⟩ := hc t h (by omega) hI
    cases hC : C t with
    | false =>
      refine ⟨h1, ?_, I1⟩
      have : cnt C k t = t := by cases k <;> simp [cnt, hC]
      rw [this]
      simp [fWhile, e1, hC]
    | true =>
      cases k with
      | zero => simp at hk; subst hk; rw [hN] at hC; cases hC
      | succ k =>
        obtain ⟨h2, e2, I2⟩ := ih k (t + 1) h1 (by omega) (by omega) I1
        refine ⟨h2, ?_, I2⟩
        have : cnt C (k + 1) t = cnt C k (t + 1) := by simp [cnt, hC]
        rw [this, ← e2]
        simp [fWhile, e1, hC, fAugI, hS, hS2]
end G9

set_option Elab.async false
set_option linter.all false
set_option maxRecDepth 100000
set_option maxHeartbeats 0
namespace G9
open PySem L2
theorem cps_sl : ("sl" : Str).cps.toList = [115, 108] := by decide +kernel
theorem lit_l : ("l" : Str) = ⟨#[108]⟩ := by decide +kernel
theorem lit_s : ("s" : Str) = ⟨#[115]⟩ := by decide +kernel
def pt (c : Nat) : List Bool := if c = 108 then [true, true, true, false] else [true, false]
def pt0 (cs : List Nat) : List Bool := cs.flatMap pt
def pat (cs : List Nat) : List Bool := pt0 cs ++ [false, false, false]
def Sg (c : Nat) : Prop := c = 115 ∨ c = 108
structure IsC (z : Str) : Prop where
  lo : 1 ≤ z.cps.toList.length
  hi : z.cps.toList.length ≤ 4
  sg : ∀ c ∈ z.cps.toList, Sg c
abbrev cs (z : Str) : List Nat := z.cps.toList
def rgL (bs : List Bool) (n : Nat) : List Bool := (List.range n).map fun t => bs.getD (t % bs.length) false
def rg (z : Str) (n : Nat) : List Bool := rgL (pat (cs z)) n
theorem slen {z : Str} : z.length = z.cps.toList.length := by simp [Str.length]
theorem pt_len {c : Nat} : (pt c).length ≤ 4 := by unfold pt; split <;> simp
theorem pt0_len : ∀ {l : List Nat}, (pt0 l).length ≤ 4 * l.length
  | [] => by simp [pt0]
  | c :: l => by
    have h1 := pt_len (c := c)
    have h2 := pt0_len (l := l)
    simp only [pt0, List.flatMap_cons, List.length_append, List.length_cons] at *
    omega
theorem eqS {h : HC} {a b : Str} (ha : PyData.strOk a = true) (hb : PyData.strOk b = true) : opEq (.str a) (.str b) h = .ok (.bl (decide (a = b))) h := by
  simp [opEq, toPy, ha, hb, PyData.eqv]
  rw [Bool.eq_iff_iff]
  simp
theorem ok_l : PyData.strOk ⟨#[108]⟩ = true := by decide +kernel
theorem ok_s : PyData.strOk ⟨#[115]⟩ = true := by decide +kernel
theorem mul_lst {h : HC} {n : Nat} {xs : List D} {k : Int} (e : h[n]? = some (.lst xs)) (h1 : -(2 ^ 63) ≤ k) (h2 : k < 2 ^ 63) : opMul (.ref n) (.int k) h = newL (List.replicate k.toNat xs).flatten h := by
  simp only [opMul, e, h1, h2, and_self, if_true]
theorem add_lst {h : HC} {n m : Nat} {xs ys : List D} (e : h[n]? = some (.lst xs)) (e2 : h[m]? = some (.lst ys)) : opAdd (.ref n) (.ref m) h = newL (xs ++ ys) h := by
  simp only [opAdd, e, e2]
@[simp] theorem gl {α : Type} {h g : List α} {k : Nat} : (h ++ g)[h.length + k]? = g[k]? := by
  rw [List.getElem?_append_right (by omega)]
  congr 1
  omega
@[simp] theorem gl0 {α : Type} {h g : List α} : (h ++ g)[h.length]? = g[0]? := gl (k := 0)
@[simp] theorem sl' {α : Type} {h g : List α} {k : Nat} {c : α} : (h ++ g).set (h.length + k) c = h ++ g.set k c := by
  rw [List.set_append_right _ _ (by omega)]
  congr 2
  omega
@[simp] theorem sl0 {α : Type} {h g : List α} {c : α} : (h ++ g).set h.length c = h ++ g.set 0 c := sl' (k := 0)
theorem get_mid {h g : HC} {c : Cell} : (h ++ c :: g)[h.length]? = some c := by simp
theorem beats_step {h g : HC} {bs : List Bool} {c : Nat} {x : Option D} {z : D} (hc : Sg c) (hl : bs.length ≤ 1000) : ∃ g', fExpr (fMt "list" mExtend (fVar 1) (fCons (fOp opAdd (fOp opMul (fLst (fCons (fC (.bl true)) fNil)) (fIf (fBo (fOp opEq (fVar 2) (fC (.str "l")))) (fC (.int 3)) (fC (.int 1)))) (fLst (fCons (fC (.bl false)) fNil))) fNil))
    [some z, some (.ref h.length), some (.str ⟨#[c]⟩)] (h ++ .lst (bs.map D.bl) :: g) = .nx [some z, some (.ref h.length), some (.str ⟨#[c]⟩)] (h ++ .lst ((bs ++ pt c).map D.bl) :: g') := by
  rcases hc with rfl | rfl
  · simp [lit_l, eqS ok_s ok_l, hasTy, BIG, newL, opMul, opAdd, mExtend, pt, gl, gl0, sl', sl0, Nat.add_assoc]
    rw [if_pos (by omega)]
    simp
  · simp [lit_l, eqS ok_l ok_l, hasTy, BIG, newL, opMul, opAdd, mExtend, pt, gl, gl0, sl', sl0, Nat.add_assoc]
    rw [if_pos (by omega)]
    simp
theorem beats_ok {h : HC} {z : Str} (hz : IsC z) : ∃ d h', m_beats [.str z] h = .ok d h' ∧ Le h h' ∧ LB h' d (pat (cs z)) := by
  obtain ⟨s', h', e, ⟨x, rfl⟩, g, rfl⟩ := forLoop_inv (fun c : Nat => D.str ⟨#[c]⟩) (G := []) (g := gN 2) (body := fExpr (fMt "list" mExtend (fVar 1) (fCons (fOp opAdd (fOp opMul (fLst (fCons (fC (.bl true)) fNil)) (fIf (fBo (fOp opEq (fVar 2) (fC (.str "l")))) (fC (.int 3)) (fC (.int 1)))) (fLst (fCons (fC (.bl false)) fNil))) fNil)))
    (fun l s h' => (∃ x, s = [some (.str z), some (.ref h.length), x]) ∧ ∃ g, h' = h ++ .lst ((pt0 l).map D.bl) :: g) (fun _ _ _ _ => rfl) (cs z) [] [some (.str z), some (.ref h.length), none] (h ++ [.lst []]) ⟨⟨_, rfl⟩, [], by simp [pt0]⟩
    (fun l c s h' hp ⟨⟨x, hs⟩, g, hh⟩ => by
      subst hs hh
      have hm : c ∈ cs z := by
        have := hp.subset (show c ∈ l ++ [c] by simp)
        simpa using this
      have hl : l.length ≤ 4 := by
        have := hp.length_le
        have := hz.hi
        simp at *
        omega
      obtain ⟨g', e⟩ := beats_step (h := h) (g := g) (bs := pt0 l) (x := x) (z := .str z) (hz.sg c hm) (by have := pt0_len (l := l); omega)
      exact ⟨_, _, _, rfl, e, ⟨_, rfl⟩, g', by simp [pt0]⟩)
  have hl := pt0_len (l := cs z)
  have h4 : (cs z).length ≤ 4 := hz.hi
  refine ⟨.ref (h.length + (g.length + 3)), h ++ (.lst ((pt0 (cs z)).map D.bl) :: (g ++ [.lst [.bl false], .lst [.bl false, .bl false, .bl false], .lst ((pat (cs z)).map D.bl)])), ?_, Le.app, _, rfl, ?_⟩
  · simp only [List.nil_append] at e
    simp only [m_beats, fnRun]
    simp [e, newL, BIG]
    simp [opMul, newL, BIG, opAdd]
    simp [pat]
    rw [if_pos (by omega)]
    rfl
  · simp
theorem flt_f {α : Type} {l : List α} : l.filter (fun _ => false) = [] := by simp
theorem flt_t {α : Type} {l : List α} : l.filter (fun _ => true) = l := by simp
theorem rng_eq {n : Nat} : rngD 0 ((n : Int)).toNat = (List.range n).map fun i : Nat => D.int (i : Int) := by
  simp [rngD]
theorem chk_nil {h : HC} : chk [] h = true := rfl
theorem is_within_yes {h : HC} {i lo hi : Int} (h1 : lo ≤ i) (h2 : i ≤ hi) : m_is_within [.int i, .int lo, .int hi] h = .ok (.bl true) h := by
  simp [m_is_within_ok, h1, h2]
theorem is_code_ok {h : HC} {z : Str} (hz : IsC z) : ∃ h', m_is_code [.str z] h = .ok (.bl true) h' ∧ Le h h' := by
  obtain ⟨h', e, l⟩ := lcLoop_fn (fun c : Nat => D.str ⟨#[c]⟩) (G := []) (g := gN 1) (c := fBo (fOp opNotIn (fVar 1) (fC (.str "sl")))) (a := fVar 1) (s := [some (.str z), none]) (h0 := h) (fun _ => false) (fun c => .str ⟨#[c]⟩) (fun _ _ => rfl) (cs z) h Le.refl (by have := hz.hi; simp [BIG] at *; omega)
    (fun c hc h _ => by
      refine ⟨_, h, rfl, ?_, Le.refl, nofun⟩
      simp [opInB, cps_sl]
      rcases hz.sg c hc with rfl | rfl <;> simp)
  have h1 := hz.lo
  have h4 := hz.hi
  refine ⟨h' ++ [.lst []], ?_, l.trans Le.app⟩
  rw [flt_f, List.map_nil] at e
  have hs : z.length = z.cps.toList.length := slen
  simp only [m_is_code, fnRun]
  simp at h1 h4
  simp [wipeD, e, hs, show z.cps.size ≤ BIG by simp [BIG]; omega, show (1 : Int) ≤ (z.cps.size : Int) by omega, show (z.cps.size : Int) ≤ 4 by omega]
end G9

set_option Elab.async false
set_option linter.all false
set_option maxRecDepth 100000
set_option maxHeartbeats 0
namespace G9
open PySem L2
theorem ring_ok {h : HC} {z : Str} {n : Nat} (hz : IsC z) (hn : n ≤ 400) : ∃ d h', m_ring [.str z, .int (n : Int)] h = .ok d h' ∧ Le h h' ∧ LB h' d (rg z n) := by
  obtain ⟨h1, e1, l1⟩ := is_code_ok (h := h) hz
  obtain ⟨d, h2, e2, l2, k, rfl, q2⟩ := beats_ok (h := h1) hz
  have hlen : 0 < (pat (cs z)).length := by simp [pat]
  obtain ⟨h3, e3, l3⟩ := lcLoop_fn (fun i : Nat => D.int (i : Int)) (G := []) (g := gN 3) (c := fYes) (a := fOp opIx (fVar 2) (fOp opMod (fVar 3) (fCl bLen (fCons (fVar 2) fNil)))) (s := [some (.str z), some (.int n), some (.ref k), none]) (h0 := h2) (fun _ => true) (fun i => .bl ((pat (cs z)).getD (i % (pat (cs z)).length) false)) (fun _ _ => rfl) (List.range n) h2 Le.refl (by simp [BIG]; omega)
    (fun i hi h l => by
      refine ⟨_, h, rfl, rfl, Le.refl, fun _ => ⟨h, ?_, Le.refl⟩⟩
      have q := l.get q2
      have hx : i % (pat (cs z)).length < (pat (cs z)).length := Nat.mod_lt _ hlen
      have : atI (List.map D.bl (pat (cs z))) ((i : Int) % ((pat (cs z)).length : Int)) = some (.bl ((pat (cs z)).getD (i % (pat (cs z)).length) false)) := by
        rw [← Int.natCast_emod]
        refine atI_nat ?_
        simp [List.getElem?_eq_getElem hx]
      simp [asSeq_of q, this, hlen])
  refine ⟨.ref h3.length, h3 ++ [.lst ((rg z n).map D.bl)], ?_, ((l1.trans l2).trans l3).trans Le.app, _, rfl, by simp⟩
  rw [flt_t] at e3
  simp only [m_ring, fnRun]
  have e0 : m_is_within [.int (n : Int), .int 0, .int 400] h1 = .ok (.bl true) h1 := is_within_yes (by omega) (by omega)
  have hb : n ≤ BIG := Nat.le_trans hn (by decide)
  simp [e1, e0, e2, wipeD, e3, hb]
  simp [rg, rgL]
end G9

set_option Elab.async false
set_option linter.all false
set_option maxRecDepth 100000
set_option maxHeartbeats 0
namespace G9
open PySem L2
structure IsS (zs : List Str) (b : Bool) (k : Int) : Prop where
  lo : 2 ≤ zs.length
  hi : zs.length ≤ 8
  cd : ∀ z ∈ zs, IsC z
  nd : zs.Nodup
  k1 : 1 ≤ k
  k2 : k ≤ 60
def setD (zs : List Str) (b : Bool) (k : Int) : D := .tup [.tup (zs.map D.str), .bl b, .int k]
@[simp] theorem atI_c0 {α : Type} {a : α} {l : List α} : atI (a :: l) 0 = some a := atI_nat (k := 0) (by simp)
@[simp] theorem atI_c1 {α : Type} {a b : α} {l : List α} : atI (a :: b :: l) 1 = some b := atI_nat (k := 1) (by simp)
@[simp] theorem atI_c2 {α : Type} {a b c : α} {l : List α} : atI (a :: b :: c :: l) 2 = some c := atI_nat (k := 2) (by simp)
theorem dn_nodup {xs : List Str} (e : xs.Nodup) : dn xs = xs.length := by
  have key : ∀ (xs done : List Str) (n : Nat), xs.Nodup → (∀ x ∈ xs, x ∉ done) → (xs.foldl (fun (p : List Str × Nat) x => (p.1 ++ [x], if p.1.any (· == x) = true then p.2 else p.2 + 1)) (done, n)).2 = n + xs.length := by
    intro xs
    induction xs with
    | nil => intro done n _ _; simp
    | cons x xs ih =>
      intro done n hd hx
      have h1 : done.any (· == x) = false := by
        rw [List.any_eq_false]
        intro y hy
        simp
        rintro rfl
        exact hx y (by simp) hy
      rw [List.foldl_cons]
      simp only [h1]
      rw [ih (done ++ [x]) _ (List.nodup_cons.mp hd).2]
      · simp; omega
      · intro y hy
        have : y ≠ x := fun z => (List.nodup_cons.mp hd).1 (z ▸ hy)
        simp [this, hx y (by simp [hy])]
  have := key xs [] 0 e (by simp)
  simpa [dn, dnF] using this
theorem strsD_map {zs : List Str} : strsD (zs.map D.str) = some zs := by
  induction zs with
  | nil => rfl
  | cons z zs ih =>
    unfold strsD at ih ⊢
    simp only [List.map_cons, optAll, ih]
    rfl
theorem is_setting_ok {h : HC} {zs : List Str} {b : Bool} {k : Int} (S : IsS zs b k) : ∃ h', m_is_setting [setD zs b k] h = .ok (.bl true) h' ∧ Le h h' := by
  obtain ⟨h', e, l⟩ := lcLoop_fn D.str (G := []) (g := gN 1) (c := fNot (fTru (fCall 1 m_is_code (fCons (fVar 1) fNil)))) (a := fVar 1) (s := [some (setD zs b k), none]) (h0 := h) (fun _ => false) (fun c => .str c) (fun _ _ => rfl) zs h Le.refl (by have := S.hi; simp [BIG] at *; omega)
    (fun c hc h _ => by
      obtain ⟨h1, e1, l1⟩ := is_code_ok (h := h) (S.cd c hc)
      refine ⟨_, h1, rfl, ?_, l1, nofun⟩
      simp [e1])
  rw [flt_f, List.map_nil] at e
  have h1 := S.lo
  have h4 := S.hi
  refine ⟨h' ++ [.lst []], ?_, l.trans Le.app⟩
  have e0 : m_is_within [.int k, .int 1, .int 60] (h' ++ [.lst []]) = .ok (.bl true) (h' ++ [.lst []]) := is_within_yes S.k1 S.k2
  simp only [m_is_setting, fnRun]
  simp [setD, show (2 : Int) ≤ (zs.length : Int) by omega, show (zs.length : Int) ≤ 8 by omega, show zs.length ≤ 1000 by omega, wipeD]
  simp only [setD] at e
  simp [e, strsD_map, dn_nodup S.nd, show zs.length ≤ 1000 by omega, e0]
theorem look_ok {h : HC} {zs : List Str} {b : Bool} {k : Int} (S : IsS zs b k) : ∃ h', m_look [setD zs b k] h = .ok .non h' ∧ Le h h' := by
  obtain ⟨h', e, l⟩ := is_setting_ok (h := h) S
  refine ⟨h', ?_, l⟩
  simp only [m_look, fnRun]
  simp [e]
theorem look_house_ok {h : HC} {zs : List Str} {b : Bool} {k : Int} {i : Nat} (S : IsS zs b k) (hi : i < zs.length) : m_look_house [setD zs b k, .int (i : Int)] h = .ok .non h := by
  have e0 : m_is_within [.int (i : Int), .int 0, .int ((zs.length : Int) - 1)] h = .ok (.bl true) h := is_within_yes (by omega) (by omega)
  simp only [m_look_house, fnRun]
  simp [setD, e0]
end G9

set_option Elab.async false
set_option linter.all false
set_option maxRecDepth 100000
set_option maxHeartbeats 0
namespace G9
open PySem L2
theorem rgL_len {bs : List Bool} {n : Nat} : (rgL bs n).length = n := by simp [rgL]
theorem rg_len {z : Str} {n : Nat} : (rg z n).length = n := rgL_len
theorem rgL_take {bs : List Bool} {n t : Nat} (h : t ≤ n) : (rgL bs n).take t = rgL bs t := by
  simp [rgL, ← List.map_take, List.take_range, Nat.min_eq_left h]
theorem rg_take {z : Str} {n t : Nat} (h : t ≤ n) : (rg z n).take t = rg z t := rgL_take h
/-- all the codes -/
def allC : List (List Nat) := [1, 2, 3, 4].flatMap fun n => (List.range (2 ^ n)).map fun k => (List.range n).map fun i => if (k / 2 ^ i) % 2 = 0 then 115 else 108
theorem allC_mem {l : List Nat} (h1 : 1 ≤ l.length) (h2 : l.length ≤ 4) (h3 : ∀ c ∈ l, Sg c) : l ∈ allC := by
  have two : ∀ c, Sg c → c = 115 ∨ c = 108 := fun c h => h
  match l, h1, h2, h3 with
  | [a], _, _, h => rcases two a (h a (by simp)) with rfl | rfl <;> decide +kernel
  | [a, b], _, _, h => rcases two a (h a (by simp)) with rfl | rfl <;> rcases two b (h b (by simp)) with rfl | rfl <;> decide +kernel
  | [a, b, c], _, _, h => rcases two a (h a (by simp)) with rfl | rfl <;> rcases two b (h b (by simp)) with rfl | rfl <;> rcases two c (h c (by simp)) with rfl | rfl <;> decide +kernel
  | [a, b, c, d], _, _, h => rcases two a (h a (by simp)) with rfl | rfl <;> rcases two b (h b (by simp)) with rfl | rfl <;> rcases two c (h c (by simp)) with rfl | rfl <;> rcases two d (h d (by simp)) with rfl | rfl <;> decide +kernel
  | _ :: _ :: _ :: _ :: _ :: _, _, h, _ => simp at h
theorem all_apart : ∀ a ∈ allC, ∀ b ∈ allC, rgL (pat a) 20 = rgL (pat b) 20 → a = b := by decide +kernel
theorem rg_inj {z y : Str} (hz : IsC z) (hy : IsC y) {n : Nat} (hn : 20 ≤ n) (e : rg z n = rg y n) : z = y := by
  have e2 : rg z 20 = rg y 20 := by rw [← rg_take hn, ← rg_take hn, e]
  have := all_apart _ (allC_mem hz.lo hz.hi hz.sg) _ (allC_mem hy.lo hy.hi hy.sg) e2
  cases z with | mk a => cases y with | mk b =>
  congr 1
  exact Array.toList_inj.mp this
theorem sl_LB {h : HC} {d : D} {bs : List Bool} {t : Nat} (x : LB h d bs) (hl : bs.length ≤ 1000) : opSl d none (some (t : Int)) h = .ok (.ref h.length) (h ++ [.lst ((bs.take t).map D.bl)]) := by
  obtain ⟨n, rfl, q⟩ := x
  have : cutD (bs.map D.bl) none (some (t : Int)) = (bs.take t).map D.bl := by
    simp only [cutD, HT.sIx_none, HT.sIx_nat, List.drop_zero, Nat.sub_zero, ← List.map_take, List.length_map]
    congr 1
    by_cases ht : t ≤ bs.length
    · rw [Nat.min_eq_left ht]
    · rw [Nat.min_eq_right (by omega), List.take_of_length_le (Nat.le_refl _), List.take_of_length_le (by omega)]
  have h2 : ((bs.take t).map D.bl).length ≤ BIG := by simp [BIG]; omega
  simp only [opSl, asSeq_of q, this]
  exact newL_ok' h2
/-- alike up to t ticks -/
def CA (z y : Str) (t : Nat) : Bool := decide ((rg z 400).take t = (rg y 400).take t)
theorem CA_eq {z y : Str} {t : Nat} (h : t ≤ 400) : CA z y t = decide (rg z t = rg y t) := by
  simp [CA, rg_take h]
theorem CA_400 {z y : Str} (hz : IsC z) (hy : IsC y) (hn : z ≠ y) : CA z y 400 = false := by
  rw [CA_eq (Nat.le_refl _)]
  exact decide_eq_false fun e => hn (rg_inj hz hy (by decide) e)
theorem two_slices {h : HC} {d e : D} {as bs : List Bool} {t : Nat} (x : LB h d as) (y : LB h e bs) (ha : as.length ≤ 1000) (hb : bs.length ≤ 1000) :
    ∃ h', ((opSl d none (some (t : Int)) h).bind fun u h1 => (opSl e none (some (t : Int)) h1).bind fun v h2 => opEq u v h2) = .ok (.bl (decide (as.take t = bs.take t))) h' ∧ Le h h' := by
  rw [sl_LB x ha, bind_ok, sl_LB (y.mono Le.app) hb, bind_ok]
  refine ⟨_, eqLB (as := as.take t) (bs := bs.take t) ⟨_, rfl, ?_⟩ ⟨_, rfl, ?_⟩, ⟨[.lst ((as.take t).map D.bl), .lst ((bs.take t).map D.bl)], by simp⟩⟩
  · simp
  · exact last_get
theorem apart_ok {h : HC} {zs : List Str} {b : Bool} {k : Int} {i j : Nat} {z y : Str} (S : IsS zs b k) (hi : zs[i]? = some z) (hj : zs[j]? = some y) (hn : i ≠ j) :
    ∃ h', m_apart_behind [setD zs b k, .int (i : Int), .int (j : Int)] h = .ok (.int (cnt (CA z y) 400 0 : Nat)) h' ∧ Le h h' := by
  have hi2 : i < zs.length := (List.getElem?_eq_some_iff.mp hi).1
  have hj2 : j < zs.length := (List.getElem?_eq_some_iff.mp hj).1
  have hz : IsC z := S.cd z (List.mem_of_getElem? hi)
  have hy : IsC y := S.cd y (List.mem_of_getElem? hj)
  have hne : z ≠ y := by
    rintro rfl
    have e1 := (List.getElem?_eq_some_iff.mp hi).2
    have e2 := (List.getElem?_eq_some_iff.mp hj).2
    exact hn ((List.getElem_inj S.nd).mp (e1.trans e2.symm))
  obtain ⟨h1, e1, l1⟩ := look_ok (h := h) S
  have e2 := look_house_ok (h := h1) S hi2
  have e3 := look_house_ok (h := h1) S hj2
  obtain ⟨d1, h2, e4, l2, q1⟩ := ring_ok (h := h1) (n := 400) hz (by decide)
  obtain ⟨d2, h3, e5, l3, q2⟩ := ring_ok (h := h2) (n := 400) hy (by decide)
  have q1' := q1.mono l3
  obtain ⟨h4, e6, l4⟩ := while_cnt (c := fBo (fOp opEq (fSl (fVar 3) fNoP (fPart (fVar 5))) (fSl (fVar 4) fNoP (fPart (fVar 5))))) (i := 5) (C := CA z y) (I := fun h => Le h3 h)
    (S := fun t => [some (setD zs b k), some (.int (i : Int)), some (.int (j : Int)), some d1, some d2, some (.int (t : Int))]) 400 (CA_400 hz hy hne) (fun t => by simp) (fun t => by simp)
    (fun t h ht hl => by
      obtain ⟨h', e, l⟩ := two_slices (t := t) (q1'.mono hl) (q2.mono hl) (by simp [rg_len]) (by simp [rg_len])
      refine ⟨h', ?_, hl.trans l⟩
      simp at e ⊢
      simp [e, CA]) 1000 400 0 h3 rfl (by decide) Le.refl
  refine ⟨h4, ?_, ((l1.trans l2).trans l3).trans l4⟩
  have a1 : atI (zs.map D.str) (i : Int) = some (.str z) := atI_nat (by simp [hi])
  have a2 : atI (zs.map D.str) (j : Int) = some (.str y) := atI_nat (by simp [hj])
  have hne2 : ¬ ((i : Int) = (j : Int)) := by omega
  simp only [m_apart_behind, fnRun]
  simp only [setD] at e1 e2 e3 e6 ⊢
  simp only [show ((400 : Nat) : Int) = 400 from rfl] at e4 e5
  simp [e1, e2, e3, hne2, a1, a2, e4, e5]
  simp at e6
  simp [e6]
end G9

set_option Elab.async false
set_option linter.all false
set_option maxRecDepth 100000
set_option maxHeartbeats 0
namespace G9
open PySem L2
theorem enum_eq {zs : List Str} : enumD (zs.map D.str) = zs.zipIdx.map fun p => D.tup [.int ((p.2 : Nat) : Int), .str p.1] := by
  apply List.ext_getElem?
  intro i
  simp only [enumD, List.getElem?_zipWith, List.length_map, List.getElem?_map, List.getElem?_zipIdx]
  cases e : zs[i]? with
  | none =>
    have := List.getElem?_eq_none_iff.mp e
    rw [List.getElem?_eq_none (by simpa using this)]
    rfl
  | some z =>
    have := (List.getElem?_eq_some_iff.mp e).1
    rw [List.getElem?_range this]
    simp
/-- the houses that a row can mean -/
def mt (zs : List Str) (bs : List Bool) : List Int := (zs.zipIdx.filter fun p => decide (rg p.1 bs.length = bs)).map fun p => (p.2 : Int)
theorem all_bools {h : HC} {n : Nat} {bs : List Bool} {x : D} (q : h[n]? = some (.lst (bs.map D.bl))) (hl : bs.length ≤ 1000) :
    ∃ h', lcLoop [(n, .lst (bs.map D.bl))] (gN 2) (fNot (fTru (fIsi "bool" (fVar 2)))) (fVar 2) [some x, some (.ref n), none, none, none] (bs.map D.bl) [] h = .ok [] h' ∧ Le h h' := by
  obtain ⟨h', e, l⟩ := lcLoop_fn D.bl (G := [(n, .lst (bs.map D.bl))]) (g := gN 2) (c := fNot (fTru (fIsi "bool" (fVar 2)))) (a := fVar 2) (s := [some x, some (.ref n), none, none, none]) (h0 := h) (fun _ => false) (fun c => .bl c) (fun h l => by simp [chk, l.get q]) bs h Le.refl (by simp [BIG]; omega)
    (fun c hc h _ => ⟨_, h, rfl, by simp, Le.refl, nofun⟩)
  rw [flt_f, List.map_nil] at e
  exact ⟨h', e, l⟩
theorem meant_ok {h : HC} {zs : List Str} {b : Bool} {k : Int} {d : D} {bs : List Bool} (S : IsS zs b k) (x : LB h d bs) (hl : bs.length ≤ 400) :
    ∃ d' h', m_meant [setD zs b k, d] h = .ok d' h' ∧ Le h h' ∧ LI h' d' (mt zs bs) := by
  obtain ⟨h1, e1, l1⟩ := look_ok (h := h) S
  obtain ⟨n, rfl, q⟩ := x
  have q1 := l1.get q
  obtain ⟨h2, e2, l2⟩ := all_bools (x := setD zs b k) q1 (by omega)
  have l2' : Le h1 (h2 ++ [.lst []]) := l2.trans Le.app
  have q2 := l2'.get q1
  obtain ⟨h3, e3, l3⟩ := lcLoop_fn (fun p : Str × Nat => D.tup [.int ((p.2 : Nat) : Int), .str p.1]) (G := []) (g := gT (gsC (gN 3) (gsC (gN 4) gsN)))
    (c := fBo (fOp opEq (fCall 2 m_ring (fCons (fVar 4) (fCons (fCl bLen (fCons (fVar 1) fNil)) fNil))) (fVar 1))) (a := fVar 3) (s := [some (setD zs b k), some (.ref n), none, none, none]) (h0 := h2 ++ [.lst []])
    (fun p => decide (rg p.1 bs.length = bs)) (fun p => .int ((p.2 : Nat) : Int)) (fun _ _ => rfl) zs.zipIdx (h2 ++ [.lst []]) Le.refl (by have := S.hi; simp [BIG]; omega)
    (fun p hp h l => by
      have hz : IsC p.1 := S.cd _ (List.fst_mem_of_mem_zipIdx hp)
      have q3 := l.get q2
      obtain ⟨d, h4, e4, l4, y⟩ := ring_ok (h := h) (n := bs.length) hz hl
      refine ⟨_, h4, rfl, ?_, l4, fun _ => ⟨h4, by simp, Le.refl⟩⟩
      have := eqLB y ⟨n, rfl, l4.get q3⟩
      simp [asSeq_of q3, e4, this])
  refine ⟨.ref h3.length, h3 ++ [.lst ((mt zs bs).map D.int)], ?_, ((l1.trans l2').trans l3).trans Le.app, _, rfl, last_get⟩
  have h400 : ¬ ((400 : Int) < (bs.length : Int)) := by omega
  rw [← enum_eq] at e3
  simp only [m_meant, fnRun]
  simp only [setD] at e1 e2 e3 ⊢
  simp [e1, q1, asSeq_of q1, h400, wipeD, e2, e3]
  simp [mt]
theorem sl_row {h : HC} {d : D} {z : Str} {t : Nat} (x : LB h d (rg z 400)) : opSl d none (some (t : Int)) h = .ok (.ref h.length) (h ++ [.lst (((rg z 400).take t).map D.bl)]) := sl_LB x (by simp [rg_len])
/-- a house is not sure yet -/
def CU (zs : List Str) (i : Nat) (z : Str) (t : Nat) : Bool := !decide (mt zs ((rg z 400).take t) = [(i : Int)])
theorem mt_self {zs : List Str} {i : Nat} {z : Str} {bs : List Bool} (hi : zs[i]? = some z) (hb : rg z bs.length = bs) : (i : Int) ∈ mt zs bs := by
  simp only [mt, List.mem_map, List.mem_filter]
  refine ⟨(z, i), ⟨?_, by simpa using hb⟩, rfl⟩
  rw [List.mk_mem_zipIdx_iff_getElem?]
  exact hi
theorem row_take {z : Str} {t : Nat} : rg z ((rg z 400).take t).length = (rg z 400).take t := by
  by_cases h : t ≤ 400
  · rw [rg_take h, rg_len]
  · rw [List.take_of_length_le (by rw [rg_len]; omega), rg_len]
def mtN (zs : List Str) (bs : List Bool) : List Nat := (zs.zipIdx.filter fun p => decide (rg p.1 bs.length = bs)).map fun p => p.2
theorem mt_N {zs : List Str} {bs : List Bool} : mt zs bs = (mtN zs bs).map fun n : Nat => (n : Int) := by
  simp [mt, mtN]
theorem mtN_nodup {zs : List Str} {bs : List Bool} : (mtN zs bs).Nodup := by
  have h1 : (mtN zs bs).Sublist (zs.zipIdx.map fun p => p.2) := List.Sublist.map _ List.filter_sublist
  refine h1.nodup ?_
  have : zs.zipIdx.map (fun p => p.2) = List.range' 0 zs.length := List.zipIdx_map_snd 0 zs
  rw [this]
  exact List.nodup_range'
theorem nodup_one {l : List Nat} {i : Nat} (hn : l.Nodup) (hi : i ∈ l) (h : ∀ j ∈ l, j = i) : l = [i] := by
  match l, hn, hi, h with
  | [a], _, hi, _ => simp at hi; rw [hi]
  | a :: b :: l, hn, _, h =>
    have h1 := h a (by simp)
    have h2 := h b (by simp)
    subst h1 h2
    simp at hn
theorem len_one {l : List Nat} {i : Nat} (hi : i ∈ l) : l = [i] ↔ l.length = 1 := by
  constructor
  · rintro rfl; rfl
  · intro h
    match l, hi, h with
    | [a], hi, _ => simp at hi; rw [hi]
theorem map_one {l : List Nat} {i : Nat} : l.map (fun n : Nat => (n : Int)) = [(i : Int)] ↔ l = [i] := by
  constructor
  · intro h
    match l, h with
    | [a], h =>
      simp at h
      have : a = i := by omega
      rw [this]
  · rintro rfl; rfl
theorem mtN_mem {zs : List Str} {bs : List Bool} {j : Nat} : j ∈ mtN zs bs ↔ ∃ y, zs[j]? = some y ∧ rg y bs.length = bs := by
  simp only [mtN, List.mem_map, List.mem_filter]
  constructor
  · rintro ⟨⟨y, k⟩, ⟨h1, h2⟩, rfl⟩
    exact ⟨y, List.mk_mem_zipIdx_iff_getElem?.mp h1, by simpa using h2⟩
  · rintro ⟨y, h1, h2⟩
    exact ⟨(y, j), ⟨List.mk_mem_zipIdx_iff_getElem?.mpr h1, by simpa using h2⟩, rfl⟩
theorem mt_400 {zs : List Str} {b : Bool} {k : Int} {i : Nat} {z : Str} (S : IsS zs b k) (hi : zs[i]? = some z) : mt zs (rg z 400) = [(i : Int)] := by
  have hz : IsC z := S.cd z (List.mem_of_getElem? hi)
  rw [mt_N, map_one]
  refine nodup_one mtN_nodup (mtN_mem.mpr ⟨z, hi, by rw [rg_len]⟩) fun j hj => ?_
  obtain ⟨y, hy, e⟩ := mtN_mem.mp hj
  rw [rg_len] at e
  have := rg_inj (S.cd y (List.mem_of_getElem? hy)) hz (by decide) e
  subst this
  have e1 := (List.getElem?_eq_some_iff.mp hi).2
  have e2 := (List.getElem?_eq_some_iff.mp hy).2
  exact (List.getElem_inj S.nd).mp (e2.trans e1.symm)
theorem CU_400 {zs : List Str} {b : Bool} {k : Int} {i : Nat} {z : Str} (S : IsS zs b k) (hi : zs[i]? = some z) : CU zs i z 400 = false := by
  rw [CU, List.take_of_length_le (by rw [rg_len]; decide), mt_400 S hi]
  simp
/-- as the law counts -/
def CL (zs : List Str) (z : Str) (t : Nat) : Bool := !decide ((zs.filter fun y => decide ((rg y 400).take t = (rg z 400).take t)).map (fun _ => (1 : Int)) = [1])
theorem ones {α : Type} {l : List α} : l.map (fun _ => (1 : Int)) = [1] ↔ l.length = 1 := by
  match l with
  | [] => simp
  | [a] => simp
  | a :: b :: l => simp
theorem flen {α : Type} {Q : α → Bool} : ∀ (l : List α) (k : Nat), ((l.zipIdx k).filter fun p => Q p.1).length = (l.filter Q).length
  | [], k => by simp
  | x :: l, k => by
    have := flen (Q := Q) l (k + 1)
    simp only [List.zipIdx_cons, List.filter_cons]
    split <;> simp [this]
theorem CU_CL {zs : List Str} {i : Nat} {z : Str} {t : Nat} (hi : zs[i]? = some z) (ht : t ≤ 400) : CU zs i z t = CL zs z t := by
  unfold CU CL
  congr 1
  rw [Bool.eq_iff_iff, decide_eq_true_iff, decide_eq_true_iff, ones, mt_N, map_one]
  rw [len_one (mtN_mem.mpr ⟨z, hi, row_take⟩)]
  unfold mtN
  rw [List.length_map]
  have e : (fun p : Str × Nat => decide (rg p.1 ((rg z 400).take t).length = (rg z 400).take t)) = fun p => (fun y : Str => decide ((rg y 400).take t = (rg z 400).take t)) p.1 := by
    funext p
    show decide (rg p.1 ((rg z 400).take t).length = (rg z 400).take t) = decide ((rg p.1 400).take t = (rg z 400).take t)
    rw [rg_take ht, rg_take ht, rg_len]
  rw [e, flen (Q := fun y : Str => decide ((rg y 400).take t = (rg z 400).take t)) zs 0]
theorem sure_ok {h : HC} {zs : List Str} {b : Bool} {k : Int} {i : Nat} {z : Str} (S : IsS zs b k) (hi : zs[i]? = some z) :
    ∃ h', m_sure_behind [setD zs b k, .int (i : Int)] h = .ok (.int (cnt (CU zs i z) 400 0 : Nat)) h' ∧ Le h h' := by
  have hi2 : i < zs.length := (List.getElem?_eq_some_iff.mp hi).1
  have hz : IsC z := S.cd z (List.mem_of_getElem? hi)
  obtain ⟨h1, e1, l1⟩ := look_ok (h := h) S
  have e2 := look_house_ok (h := h1) S hi2
  obtain ⟨d1, h2, e4, l2, q1⟩ := ring_ok (h := h1) (n := 400) hz (by decide)
  obtain ⟨h4, e6, l4⟩ := while_cnt (c := fBo (fOp opNe (fCall 2 m_meant (fCons (fVar 0) (fCons (fSl (fVar 2) fNoP (fPart (fVar 3))) fNil))) (fLst (fCons (fVar 1) fNil)))) (i := 3) (C := CU zs i z) (I := fun h => Le h2 h)
    (S := fun t => [some (setD zs b k), some (.int (i : Int)), some d1, some (.int (t : Int))]) 400 (CU_400 S hi) (fun t => by simp) (fun t => by simp)
    (fun t h ht hl => by
      have e3 := sl_row (t := t) (q1.mono hl)
      obtain ⟨d, h5, e5, l5, y⟩ := meant_ok (h := h ++ [.lst (((rg z 400).take t).map D.bl)]) (d := .ref h.length) (bs := (rg z 400).take t) S ⟨_, rfl, last_get⟩ (by simp [rg_len]; omega)
      have e6 := neLI (h := h5 ++ [.lst [.int (i : Int)]]) (y.mono Le.app) (e := .ref h5.length) (bs := [(i : Int)]) ⟨_, rfl, last_get⟩
      refine ⟨h5 ++ [.lst [.int (i : Int)]], ?_, ((hl.trans Le.app).trans l5).trans Le.app⟩
      simp [-List.map_take, e3, e5, newL, BIG, e6, CU]) 1000 400 0 h2 rfl (by decide) Le.refl
  refine ⟨h4, ?_, (l1.trans l2).trans l4⟩
  have a1 : atI (zs.map D.str) (i : Int) = some (.str z) := atI_nat (by simp [hi])
  simp only [m_sure_behind, fnRun]
  simp only [setD] at e1 e2 e6 ⊢
  simp only [show ((400 : Nat) : Int) = 400 from rfl] at e4
  simp [e1, e2, a1, e4]
  simp at e6
  simp [e6]
/-- behind how many ticks all are sure -/
def sureL (zs : List Str) : List Int := zs.zipIdx.map fun p => ((cnt (CU zs p.2 p.1) 400 0 : Nat) : Int)
theorem zip_range {zs : List Str} {f : Nat → D} : (List.range zs.length).map f = zs.zipIdx.map fun p => f p.2 := by
  apply List.ext_getElem?
  intro i
  simp only [List.getElem?_map, List.getElem?_zipIdx]
  by_cases h : i < zs.length
  · simp [List.getElem?_range h, List.getElem?_eq_getElem h]
  · simp [List.getElem?_eq_none (show zs.length ≤ i by omega), List.getElem?_eq_none (l := List.range zs.length) (i := i) (by simp; omega)]
theorem intsD_map {is : List Int} : intsD (is.map D.int) = some is := by
  induction is with
  | nil => rfl
  | cons z zs ih =>
    unfold intsD at ih ⊢
    simp only [List.map_cons, optAll, ih]
    rfl
theorem all_sure_ok {h : HC} {zs : List Str} {b : Bool} {k : Int} (S : IsS zs b k) : ∃ h', m_all_sure_behind [setD zs b k] h = .ok (.int (maxI (sureL zs))) h' ∧ Le h h' := by
  obtain ⟨h1, e1, l1⟩ := look_ok (h := h) S
  obtain ⟨h2, e2, l2⟩ := lcLoop_fn (fun p : Str × Nat => D.int ((p.2 : Nat) : Int)) (G := []) (g := gN 1) (c := fYes) (a := fCall 2 m_sure_behind (fCons (fVar 0) (fCons (fVar 1) fNil))) (s := [some (setD zs b k), none]) (h0 := h1) (fun _ => true) (fun p => .int ((cnt (CU zs p.2 p.1) 400 0 : Nat) : Int)) (fun _ _ => rfl) zs.zipIdx h1 Le.refl (by have := S.hi; simp [BIG]; omega)
    (fun p hp h l => by
      obtain ⟨h4, e4, l4⟩ := sure_ok (h := h) (i := p.2) (z := p.1) S (List.mk_mem_zipIdx_iff_getElem?.mp hp)
      exact ⟨_, h, rfl, rfl, Le.refl, fun _ => ⟨h4, by simp [e4], l4⟩⟩)
  rw [flt_t, ← zip_range (f := fun i : Nat => D.int (i : Int))] at e2
  refine ⟨h2 ++ [.lst ((sureL zs).map D.int)], ?_, (l1.trans l2).trans Le.app⟩
  have hb : zs.length ≤ BIG := Nat.le_trans S.hi (by decide)
  have hL : (zs.zipIdx.map fun p => D.int ((cnt (CU zs p.2 p.1) 400 0 : Nat) : Int)) = (sureL zs).map D.int := by simp [sureL]
  have hm : bMax [.ref h2.length] (h2 ++ [.lst ((sureL zs).map D.int)]) = .ok (.int (maxI (sureL zs))) (h2 ++ [.lst ((sureL zs).map D.int)]) := by
    simp only [bMax, asSeq_of (last_get (h := h2) (c := .lst ((sureL zs).map D.int))), intsD_map]
    cases e : sureL zs with
    | nil =>
      have : (sureL zs).length = zs.length := by simp [sureL]
      rw [e] at this
      have := S.lo
      simp at *
      omega
    | cons x l => rfl
  simp only [m_all_sure_behind, fnRun]
  simp only [setD] at e1 e2 ⊢
  rw [hL] at e2
  simp [e1, wipeD, hb, e2, hm]
end G9

set_option Elab.async false
set_option linter.all false
set_option maxRecDepth 100000
set_option maxHeartbeats 0
namespace G9
open PySem L2
/-! ### pairs in order -/
abbrev lx := SrtO.lexB
theorem lx_irr {p : Int × Int} : lx p p = false := by
  cases e : lx p p with
  | false => rfl
  | true => rw [SrtO.lexB_iff] at e; omega
theorem lx_tr {p q r : Int × Int} (a : lx p q = true) (b : lx q r = true) : lx p r = true := by
  rw [SrtO.lexB_iff] at *
  omega
theorem lx_tot {p q : Int × Int} (h : p ≠ q) (a : lx p q = false) : lx q p = true := by
  have h1 : ¬ (lx p q = true) := by simp [a]
  rw [SrtO.lexB_iff] at *
  have : ¬ (p.1 = q.1 ∧ p.2 = q.2) := fun z => h (Prod.ext z.1 z.2)
  omega
theorem insO_mem {α : Type} {lt : α → α → Bool} {x y : α} : ∀ {l : List α}, x ∈ insO lt y l ↔ x = y ∨ x ∈ l
  | [] => by simp [insO]
  | z :: l => by
    have := insO_mem (lt := lt) (x := x) (y := y) (l := l)
    unfold insO
    split
    · simp
    · simp [this]
      constructor
      · rintro (a | a | a) <;> simp [a]
      · rintro (a | a | a) <;> simp [a]
theorem insO_len {α : Type} {lt : α → α → Bool} {y : α} : ∀ {l : List α}, (insO lt y l).length = l.length + 1
  | [] => rfl
  | z :: l => by
    have := insO_len (lt := lt) (y := y) (l := l)
    unfold insO
    split <;> simp [this]
theorem insO_srt {y : Int × Int} : ∀ {l : List (Int × Int)}, l.Pairwise (fun a b => lx a b = true) → y ∉ l → (insO lx y l).Pairwise (fun a b => lx a b = true)
  | [], _, _ => by simp [insO]
  | z :: l, h, hy => by
    have ih := insO_srt (y := y) (List.pairwise_cons.mp h).2 (fun q => hy (by simp [q]))
    unfold insO
    split
    · rename_i e
      refine List.pairwise_cons.mpr ⟨fun a ha => ?_, h⟩
      rcases List.mem_cons.mp ha with rfl | ha
      · exact e
      · exact lx_tr e ((List.pairwise_cons.mp h).1 a ha)
    · rename_i e
      refine List.pairwise_cons.mpr ⟨fun a ha => ?_, ih⟩
      rcases insO_mem.mp ha with rfl | ha
      · exact lx_tot (fun q => hy (by simp [q])) (by simpa using e)
      · exact (List.pairwise_cons.mp h).1 a ha
theorem sortO_all (xs : List (Int × Int)) : ∀ acc : List (Int × Int), (acc ++ xs).Nodup → acc.Pairwise (fun a b => lx a b = true) →
    (xs.foldl (fun acc y => insO lx y acc) acc).Pairwise (fun a b => lx a b = true) ∧ ∀ x, x ∈ xs.foldl (fun acc y => insO lx y acc) acc ↔ x ∈ acc ∨ x ∈ xs := by
  induction xs with
  | nil => intro acc _ h; simp [h]
  | cons y xs ih =>
    intro acc hn h
    have hy : y ∉ acc := by
      intro q
      rw [List.nodup_append] at hn
      exact hn.2.2 y q y (by simp) rfl
    have hn2 : (insO lx y acc ++ xs).Nodup := by
      have hc := hn
      rw [List.nodup_append] at hc ⊢
      refine ⟨(insO_srt h hy).imp (fun {a b} z => by rintro rfl; rw [lx_irr] at z; cases z), (List.nodup_cons.mp hc.2.1).2, fun a ha b hb e => ?_⟩
      subst e
      rcases insO_mem.mp ha with rfl | ha
      · exact (List.nodup_cons.mp hc.2.1).1 hb
      · exact hc.2.2 a ha a (by simp [hb]) rfl
    obtain ⟨a, b⟩ := ih (insO lx y acc) hn2 (insO_srt h hy)
    refine ⟨a, fun x => ?_⟩
    rw [List.foldl_cons, b x, insO_mem]
    simp
    constructor
    · rintro ((q | q) | q) <;> simp [q]
    · rintro (q | q | q) <;> simp [q]
theorem srt_uniq : ∀ {a b : List (Int × Int)}, a.Pairwise (fun a b => lx a b = true) → b.Pairwise (fun a b => lx a b = true) → (∀ x, x ∈ a ↔ x ∈ b) → a = b
  | [], [], _, _, _ => rfl
  | [], y :: b, _, _, h => by have := (h y).mpr (by simp); simp at this
  | x :: a, [], _, _, h => by have := (h x).mp (by simp); simp at this
  | x :: a, y :: b, ha, hb, h => by
    obtain ⟨h1, h2⟩ := List.pairwise_cons.mp ha
    obtain ⟨h3, h4⟩ := List.pairwise_cons.mp hb
    have e : x = y := by
      rcases List.mem_cons.mp ((h x).mp (by simp)) with q | q
      · exact q
      · rcases List.mem_cons.mp ((h y).mpr (by simp)) with r | r
        · exact r.symm
        · have := lx_tr (h1 y r) (h3 x q)
          rw [lx_irr] at this
          cases this
    subst e
    congr 1
    refine srt_uniq h2 h4 fun z => ⟨fun hz => ?_, fun hz => ?_⟩
    · rcases List.mem_cons.mp ((h z).mp (by simp [hz])) with rfl | q
      · have := h1 z hz
        rw [lx_irr] at this
        cases this
      · exact q
    · rcases List.mem_cons.mp ((h z).mpr (by simp [hz])) with rfl | q
      · have := h3 z hz
        rw [lx_irr] at this
        cases this
      · exact q
theorem sortO_eq {xs ys : List (Int × Int)} (hn : xs.Nodup) (hs : ys.Pairwise (fun a b => lx a b = true)) (h : ∀ x, x ∈ ys ↔ x ∈ xs) : sortO lx xs = ys := by
  obtain ⟨a, b⟩ := sortO_all xs [] (by simpa using hn) (by simp)
  refine srt_uniq a hs fun x => ?_
  rw [h x]
  have := b x
  simp only [List.not_mem_nil, false_or] at this
  exact this
theorem keyP_pD {p : Int × Int} : keyP (pD p) = some p := rfl
theorem insO_map {p : Int × Int} : ∀ {l : List (Int × Int)}, insO ltPD (pD p) (l.map pD) = (insO lx p l).map pD
  | [] => rfl
  | q :: l => by
    have ih := insO_map (p := p) (l := l)
    simp only [List.map_cons, insO]
    have : ltPD (pD p) (pD q) = lx p q := by simp [ltPD, keyP_pD]
    rw [this]
    split
    · rfl
    · simp [ih]
theorem sortO_map {ps : List (Int × Int)} : sortO ltPD (ps.map pD) = (sortO lx ps).map pD := by
  have : ∀ (ps acc : List (Int × Int)), (ps.map pD).foldl (fun acc y => insO ltPD y acc) (acc.map pD) = (ps.foldl (fun acc y => insO lx y acc) acc).map pD := by
    intro ps
    induction ps with
    | nil => intro acc; rfl
    | cons p ps ih =>
      intro acc
      rw [List.map_cons, List.foldl_cons, insO_map, ih, List.foldl_cons]
  exact this ps []
theorem sortO_len {ps : List (Int × Int)} : (sortO lx ps).length = ps.length := by
  have : ∀ (ps acc : List (Int × Int)), (ps.foldl (fun acc y => insO lx y acc) acc).length = acc.length + ps.length := by
    intro ps
    induction ps with
    | nil => intro acc; rfl
    | cons p ps ih =>
      intro acc
      rw [List.foldl_cons, ih, insO_len, List.length_cons]
      omega
  have := this ps []
  simp only [List.length_nil, Nat.zero_add] at this
  exact this
theorem sorted_pairs {h : HC} {d : D} {ps : List (Int × Int)} (x : LP h d ps) (hl : ps.length ≤ 1000) : ∃ d' h', bSorted [d] h = .ok d' h' ∧ Le h h' ∧ LP h' d' (sortO lx ps) := by
  obtain ⟨n, rfl, q⟩ := x
  cases ps with
  | nil =>
    refine ⟨_, _, ?_, Le.app, _, rfl, last_get⟩
    simp only [bSorted, asSeq_of q, List.map_nil]
    rfl
  | cons p ps =>
    have h1 : intsD ((p :: ps).map pD) = none := rfl
    have h2 : (((p :: ps).map pD).all fun d => (keyP d).isSome) = true := by
      rw [List.all_eq_true]
      intro d hd
      obtain ⟨r, _, rfl⟩ := List.mem_map.mp hd
      rfl
    refine ⟨_, _, ?_, Le.app, _, rfl, last_get⟩
    simp only [bSorted, asSeq_of q, h1, h2, sortO_map, if_true]
    refine newL_ok' ?_
    rw [List.length_map, sortO_len]
    exact Nat.le_trans hl (by decide)
/-! ### who are mistaken for one another -/
def E2 (bss : List (List Bool)) (i j : Nat) : Bool := decide (bss[i]? = bss[j]?)
def P1 (bss : List (List Bool)) (j : Nat) : List (Int × Int) := ((List.range j).filter fun i => E2 bss i j).map fun i : Nat => ((i : Int), (j : Int))
def P2 (bss : List (List Bool)) (i : Nat) : List (Int × Int) := (((List.range (bss.length - (i + 1))).map fun k => i + 1 + k).filter fun j => E2 bss i j).map fun j : Nat => ((i : Int), (j : Int))
def mk (bss : List (List Bool)) : List (Int × Int) := (List.range bss.length).flatMap (P2 bss)
theorem P1_len {bss : List (List Bool)} {j : Nat} : (P1 bss j).length ≤ j := by
  have := List.length_filter_le (fun i => E2 bss i j) (List.range j)
  simpa [P1] using this
theorem P1_mem {bss : List (List Bool)} {j : Nat} {p : Int × Int} : p ∈ P1 bss j ↔ ∃ i : Nat, i < j ∧ E2 bss i j = true ∧ p = ((i : Int), (j : Int)) := by
  simp only [P1, List.mem_map, List.mem_filter, List.mem_range]
  constructor
  · rintro ⟨i, ⟨a, b⟩, rfl⟩; exact ⟨i, a, b, rfl⟩
  · rintro ⟨i, a, b, rfl⟩; exact ⟨i, ⟨a, b⟩, rfl⟩
theorem P2_mem {bss : List (List Bool)} {i : Nat} {p : Int × Int} : p ∈ P2 bss i ↔ ∃ j : Nat, i < j ∧ j < bss.length ∧ E2 bss i j = true ∧ p = ((i : Int), (j : Int)) := by
  simp only [P2, List.mem_map, List.mem_filter, List.mem_range]
  constructor
  · rintro ⟨j, ⟨⟨k, a, rfl⟩, b⟩, rfl⟩; exact ⟨_, by omega, by omega, b, rfl⟩
  · rintro ⟨j, a, b, c, rfl⟩; exact ⟨j, ⟨⟨j - (i + 1), by omega, by omega⟩, c⟩, rfl⟩
theorem mk_mem {bss : List (List Bool)} {p : Int × Int} : p ∈ mk bss ↔ ∃ i j : Nat, i < j ∧ j < bss.length ∧ E2 bss i j = true ∧ p = ((i : Int), (j : Int)) := by
  simp only [mk, List.mem_flatMap, List.mem_range, P2_mem]
  constructor
  · rintro ⟨i, a, j, b, c, d, e⟩; exact ⟨i, j, b, c, d, e⟩
  · rintro ⟨i, j, b, c, d, e⟩; exact ⟨i, by omega, j, b, c, d, e⟩
theorem P2_srt {bss : List (List Bool)} {i : Nat} : (P2 bss i).Pairwise (fun a b => lx a b = true) := by
  unfold P2
  rw [List.pairwise_map]
  refine List.Pairwise.filter _ ?_
  rw [List.pairwise_map]
  refine List.pairwise_lt_range.imp fun {a b} h => ?_
  rw [SrtO.lexB_iff]
  right
  exact ⟨rfl, by simp; omega⟩
theorem mk_srt {bss : List (List Bool)} : (mk bss).Pairwise (fun a b => lx a b = true) := by
  unfold mk
  rw [List.pairwise_flatMap]
  refine ⟨fun i _ => P2_srt, List.pairwise_lt_range.imp fun {a b} h => ?_⟩
  intro x hx y hy
  obtain ⟨j, _, _, _, rfl⟩ := P2_mem.mp hx
  obtain ⟨k, _, _, _, rfl⟩ := P2_mem.mp hy
  rw [SrtO.lexB_iff]
  left
  simp
  omega
theorem P1_nodup {bss : List (List Bool)} {j : Nat} : (P1 bss j).Nodup := by
  unfold P1
  rw [List.nodup_iff_pairwise_ne, List.pairwise_map]
  refine List.Pairwise.filter _ ?_
  refine List.pairwise_lt_range.imp fun {a b} h e => ?_
  simp at e
  omega
theorem all1_nodup {bss : List (List Bool)} {n : Nat} : ((List.range n).flatMap (P1 bss)).Nodup := by
  rw [List.nodup_iff_pairwise_ne, List.pairwise_flatMap]
  refine ⟨fun j _ => P1_nodup, List.pairwise_lt_range.imp fun {a b} h => ?_⟩
  intro x hx y hy e
  obtain ⟨j, _, _, rfl⟩ := P1_mem.mp hx
  obtain ⟨k, _, _, e2⟩ := P1_mem.mp hy
  rw [e2] at e
  simp at e
  omega
theorem sort_mk {bss : List (List Bool)} : sortO lx ((List.range bss.length).flatMap (P1 bss)) = mk bss := by
  refine sortO_eq all1_nodup mk_srt fun p => ?_
  rw [mk_mem]
  simp only [List.mem_flatMap, List.mem_range, P1_mem]
  constructor
  · rintro ⟨i, j, a, b, c, e⟩; exact ⟨j, b, i, a, c, e⟩
  · rintro ⟨j, b, i, a, c, e⟩; exact ⟨i, j, a, b, c, e⟩
end G9

set_option Elab.async false
set_option linter.all false
set_option maxRecDepth 100000
set_option maxHeartbeats 0
namespace G9
open PySem L2
@[simp] theorem big1 : 1 ≤ BIG := by decide
@[simp] theorem big2 : 2 ≤ BIG := by decide
@[simp] theorem big3 : 3 ≤ BIG := by decide
@[simp] theorem big4 : 4 ≤ BIG := by decide
@[simp] theorem big5 : 5 ≤ BIG := by decide
@[simp] theorem big6 : 6 ≤ BIG := by decide
@[simp] theorem big7 : 7 ≤ BIG := by decide
@[simp] theorem big8 : 8 ≤ BIG := by decide
/-- a list of lists of bools stands there -/
def LR (h : HC) (n : Nat) (bss : List (List Bool)) : Prop := ∃ ys : List D, h[n]? = some (.lst ys) ∧ ys.length = bss.length ∧ ∀ (i : Nat) (bs : List Bool), bss[i]? = some bs → ∃ y, ys[i]? = some y ∧ LB h y bs
theorem LR.mono {h h' : HC} {n : Nat} {bss : List (List Bool)} (a : LR h n bss) (l : Le h h') : LR h' n bss := by
  obtain ⟨ys, q, e, r⟩ := a
  refine ⟨ys, l.get q, e, fun i bs hb => ?_⟩
  obtain ⟨y, h1, h2⟩ := r i bs hb
  exact ⟨y, h1, h2.mono l⟩
theorem LR.at {h : HC} {n i : Nat} {bss : List (List Bool)} {bs : List Bool} (a : LR h n bss) (e : bss[i]? = some bs) : ∃ y, opIx (.ref n) (.int (i : Int)) h = .ok y h ∧ LB h y bs := by
  obtain ⟨ys, q, _, r⟩ := a
  obtain ⟨y, h1, h2⟩ := r i bs e
  refine ⟨y, ?_, h2⟩
  have := atI_nat h1
  simp [asSeq_of q, this]
theorem LR.len {h : HC} {n : Nat} {bss : List (List Bool)} (a : LR h n bss) : bLen [.ref n] h = .ok (.int (bss.length : Int)) h := by
  obtain ⟨ys, q, e, r⟩ := a
  simp [asSeq_of q, e]
theorem rows_make {zs : List Str} {n : Nat} {g : EG} {a : EE} {s : SD} {h : HC} (hl : zs.length ≤ 8) (st : ∀ z ∈ zs, ∀ h, ∃ s1, g (.str z) s = some s1 ∧ ∃ y h2, a s1 h = .ok y h2 ∧ Le h h2 ∧ LB h2 y (rg z n)) :
    ∃ ys h', lcLoop [] g fYes a s (zs.map D.str) [] h = .ok ys h' ∧ Le h h' ∧ LR (h' ++ [.lst ys]) h'.length (zs.map (rg · n)) := by
  obtain ⟨ys, h', e, l, r, k⟩ := lcLoop_rel D.str (G := []) (g := g) (c := fYes) (a := a) (s := s) (h0 := h) (fun _ => true) (fun h z y => LB h y (rg z n)) (fun h h' x y l q => q.mono l) (fun _ _ => rfl) zs [] h Le.refl (by simp [BIG]; omega)
    (fun z hz h _ => by
      obtain ⟨s1, e1, y, h2, e2, l2, q⟩ := st z hz h
      exact ⟨s1, h, e1, rfl, Le.refl, fun _ => ⟨y, h2, e2, l2, q⟩⟩)
  rw [flt_t] at r k
  refine ⟨ys, h', by simpa using e, l, ys, last_get, by simp [k], fun i bs hb => ?_⟩
  rw [List.getElem?_map] at hb
  cases e2 : zs[i]? with
  | none => rw [e2] at hb; cases hb
  | some z =>
    rw [e2] at hb
    simp at hb
    subst hb
    obtain ⟨y, h1, h2⟩ := r i z e2
    exact ⟨y, h1, h2.mono Le.app⟩
theorem pD_eq {i j : Int} : D.tup [.int i, .int j] = pD (i, j) := rfl
theorem mk_len8 {bss : List (List Bool)} : ∀ l : List Nat, (∀ j ∈ l, j ≤ 8) → (l.flatMap (P1 bss)).length ≤ 8 * l.length
  | [], _ => by simp
  | j :: l, h => by
    have := mk_len8 (bss := bss) l fun k hk => h k (by simp [hk])
    have h1 := P1_len (bss := bss) (j := j)
    have h2 := h j (by simp)
    simp only [List.flatMap_cons, List.length_append, List.length_cons]
    omega
theorem mExtend_of {h : HC} {n k : Nat} {xs ys : List D} (e1 : h[n]? = some (.lst xs)) (e2 : h[k]? = some (.lst ys)) (hl : xs.length + ys.length ≤ BIG) : mExtend (.ref n) [.ref k] h = .ok .non (h.set n (.lst (xs ++ ys))) := by
  simp only [mExtend, e1, e2, hl, if_true]
theorem mis_step {h0 g : HC} {n j : Nat} {bss : List (List Bool)} {ps : List (Int × Int)} {x y : D} (R : LR h0 n bss) (hj : j < bss.length) (h8 : bss.length ≤ 8) (hp : ps.length ≤ 100) :
    ∃ g', fExpr (fMt "list" mExtend (fVar 3) (fCons (fLc (fItR1 (fVar 4)) [6] (gN 6) (fBo (fOp opEq (fOp opIx (fVar 2) (fVar 6)) (fOp opIx (fVar 2) (fVar 4)))) (fTup (fCons (fVar 6) (fCons (fVar 4) fNil)))) fNil))
      [some x, some y, some (.ref n), some (.ref h0.length), some (.int (j : Int)), none, none] (h0 ++ .lst (ps.map pD) :: g) =
    .nx [some x, some y, some (.ref n), some (.ref h0.length), some (.int (j : Int)), none, none] (h0 ++ .lst ((ps ++ P1 bss j).map pD) :: g') := by
  obtain ⟨h', e, l⟩ := lcLoop_fn (fun i : Nat => D.int (i : Int)) (G := []) (g := gN 6) (c := fBo (fOp opEq (fOp opIx (fVar 2) (fVar 6)) (fOp opIx (fVar 2) (fVar 4)))) (a := fTup (fCons (fVar 6) (fCons (fVar 4) fNil))) (s := [some x, some y, some (.ref n), some (.ref h0.length), some (.int (j : Int)), none, none])
    (h0 := h0 ++ .lst (ps.map pD) :: g) (fun i => E2 bss i j) (fun i => pD ((i : Int), (j : Int))) (fun _ _ => rfl) (List.range j) (h0 ++ .lst (ps.map pD) :: g) Le.refl (by simp [BIG]; omega)
    (fun i hi h l => by
      have hi' : i < j := List.mem_range.mp hi
      have R' := R.mono (Le.app.trans l)
      obtain ⟨y1, e1, q1⟩ := R'.at (i := i) (List.getElem?_eq_getElem (show i < bss.length by omega))
      obtain ⟨y2, e2, q2⟩ := R'.at (i := j) (List.getElem?_eq_getElem hj)
      have e3 := eqLB q1 q2
      refine ⟨_, h, rfl, ?_, Le.refl, fun _ => ⟨h, by simp [pD], Le.refl⟩⟩
      simp only [fBo_ap, fOp_ap, fVar_ap]
      simp [-ixR, e1, e2, e3, E2, List.getElem?_eq_getElem (show i < bss.length by omega), List.getElem?_eq_getElem hj])
  obtain ⟨g2, rfl⟩ := l
  have hb : j ≤ BIG := by simp [BIG]; omega
  have hP := P1_len (bss := bss) (j := j)
  have hm : (List.map (fun i : Nat => pD ((i : Int), (j : Int))) (List.filter (fun i => E2 bss i j) (List.range j))) = (P1 bss j).map pD := by simp [P1]
  rw [hm] at e
  have e' := e
  simp only [List.append_assoc, List.cons_append] at e'
  simp [hasTy, wipeD, hb, e', Nat.add_assoc]
  have x1 : mExtend (.ref h0.length) [.ref (h0.length + (g.length + (g2.length + 1)))] (h0 ++ Cell.lst (ps.map pD) :: (g ++ (g2 ++ [Cell.lst ((P1 bss j).map pD)]))) = .ok .non ((h0 ++ Cell.lst (ps.map pD) :: (g ++ (g2 ++ [Cell.lst ((P1 bss j).map pD)]))).set h0.length (Cell.lst (ps.map pD ++ (P1 bss j).map pD))) := by
    refine mExtend_of get_mid ?_ ?_
    · have : h0.length + (g.length + (g2.length + 1)) = (h0 ++ Cell.lst (ps.map pD) :: (g ++ g2)).length := by simp; omega
      rw [this, show h0 ++ Cell.lst (ps.map pD) :: (g ++ (g2 ++ [Cell.lst ((P1 bss j).map pD)])) = (h0 ++ Cell.lst (ps.map pD) :: (g ++ g2)) ++ [Cell.lst ((P1 bss j).map pD)] by simp]
      exact last_get
    · simp only [List.length_map, BIG]; omega
  rw [x1]
  simp
theorem mistaken_ok {h : HC} {zs : List Str} {b : Bool} {k : Int} {n : Nat} (S : IsS zs b k) (hn : n ≤ 400) : ∃ d h', m_mistaken [setD zs b k, .int (n : Int)] h = .ok d h' ∧ Le h h' ∧ LP h' d (mk (zs.map (rg · n))) := by
  obtain ⟨h1, e1, l1⟩ := look_ok (h := h) S
  have e0 : m_is_within [.int (n : Int), .int 0, .int 400] h1 = .ok (.bl true) h1 := is_within_yes (by omega) (by omega)
  have h8 := S.hi
  obtain ⟨ys, h2, e2, l2, R⟩ := rows_make (n := n) (g := gN 5) (a := fCall 2 m_ring (fCons (fVar 5) (fCons (fVar 1) fNil))) (s := [some (setD zs b k), some (.int (n : Int)), none, none, none, none, none]) (h := h1) h8
    (fun z hz h => by
      obtain ⟨d, h4, e4, l4, q⟩ := ring_ok (h := h) (n := n) (S.cd z hz) hn
      exact ⟨_, rfl, d, h4, by simp [e4], l4, q⟩)
  obtain ⟨bss, hbss⟩ : ∃ bss, bss = zs.map (rg · n) := ⟨_, rfl⟩
  rw [← hbss] at R
  have hbl : bss.length = zs.length := by simp [hbss]
  obtain ⟨h0, hh0⟩ : ∃ h0, h0 = h2 ++ [Cell.lst ys] := ⟨_, rfl⟩
  rw [← hh0] at R
  obtain ⟨s', h', e, ⟨x, rfl⟩, g, rfl⟩ := forLoop_inv (fun i : Nat => D.int (i : Int)) (G := []) (g := gN 4) (body := fExpr (fMt "list" mExtend (fVar 3) (fCons (fLc (fItR1 (fVar 4)) [6] (gN 6) (fBo (fOp opEq (fOp opIx (fVar 2) (fVar 6)) (fOp opIx (fVar 2) (fVar 4)))) (fTup (fCons (fVar 6) (fCons (fVar 4) fNil)))) fNil)))
    (fun l s h' => (∃ x, s = [some (setD zs b k), some (.int (n : Int)), some (.ref h2.length), some (.ref h0.length), x, none, none]) ∧ ∃ g, h' = h0 ++ .lst ((l.flatMap (P1 bss)).map pD) :: g) (fun _ _ _ _ => rfl) (List.range bss.length) [] [some (setD zs b k), some (.int (n : Int)), some (.ref h2.length), some (.ref h0.length), none, none, none] (h0 ++ [.lst []]) ⟨⟨_, rfl⟩, [], by simp⟩
    (fun l c s h' hp ⟨⟨x, hs⟩, g, hh⟩ => by
      subst hs hh
      have hsub : ∀ j ∈ l ++ [c], j < bss.length := fun j hj => by
        have := hp.subset hj
        simpa using this
      have hlen : (l ++ [c]).length ≤ bss.length := by
        have := hp.length_le
        simpa using this
      have hb := mk_len8 (bss := bss) l (fun j hj => by have := hsub j (by simp [hj]); omega)
      simp at hlen
      obtain ⟨g', e⟩ := mis_step (h0 := h0) (g := g) (ps := l.flatMap (P1 bss)) (x := setD zs b k) (y := .int (n : Int)) R (hsub c (by simp)) (by omega) (by omega)
      exact ⟨_, _, _, rfl, e, ⟨_, rfl⟩, g', by simp⟩)
  have hlen := mk_len8 (bss := bss) (List.range bss.length) (fun j hj => by have := List.mem_range.mp hj; omega)
  rw [List.length_range] at hlen
  simp only [List.nil_append] at e
  obtain ⟨d, h5, e5, l5, q5⟩ := sorted_pairs (h := h0 ++ .lst (((List.range bss.length).flatMap (P1 bss)).map pD) :: g) (d := .ref h0.length) (ps := (List.range bss.length).flatMap (P1 bss)) ⟨_, rfl, get_mid⟩ (by omega)
  rw [sort_mk] at q5
  refine ⟨d, h5, ?_, ?_, by rw [← hbss]; exact q5⟩
  · have hb : zs.length ≤ BIG := Nat.le_trans S.hi (by decide)
    have hys : ys.length = zs.length := by
      obtain ⟨ys', q, e, _⟩ := R
      rw [hh0, last_get] at q
      cases q
      omega
    have hq : (h0 ++ [Cell.lst []])[h2.length]? = some (.lst ys) := by rw [hh0]; simp
    have hb2 : bss.length ≤ BIG := by omega
    simp only [m_mistaken, fnRun]
    simp only [setD] at e1 e2 e ⊢
    simp [e1, e0, wipeD, e2, newL, ← hh0, hq, asSeq_of hq, hys, ← hbl, hb2, e, e5]
  · refine Le.trans (h1 := h0) ?_ (Le.app.trans l5)
    rw [hh0]
    exact (l1.trans l2).trans Le.app
end G9

set_option Elab.async false
set_option linter.all false
set_option maxRecDepth 100000
set_option maxHeartbeats 0
namespace G9
open PySem L2
def cellv (ns : List Int) (k : Nat) : Int := ns.getD k 0
theorem cell_ok {h : HC} {ns : List Int} {k : Nat} : m_law_cell [.scr ns, .int (k : Int)] h = .ok (.int (cellv ns k)) h := by
  simp only [m_law_cell, fnRun]
  by_cases hk : k < ns.length
  · have a : atI ns (k : Int) = some ns[k] := atI_nat (by simp [hk])
    simp [hk, a, cellv]
  · simp [hk, cellv]
theorem mulOk_r {i j : Int} (h1 : -(2 ^ 64) < j) (h2 : j < 2 ^ 64) : mulOk i j = true := by
  simp only [mulOk, h1, h2, decide_true, Bool.and_self, Bool.or_true]
theorem mulOk_l {i j : Int} (h1 : -(2 ^ 64) < i) (h2 : i < 2 ^ 64) : mulOk i j = true := by
  simp only [mulOk, h1, h2, decide_true, Bool.and_self, Bool.true_or]
theorem mod_bnd {i p : Int} (hp : 0 < p) : 0 ≤ i % p ∧ i % p < p := ⟨Int.emod_nonneg _ (by omega), Int.emod_lt_of_pos _ hp⟩
theorem pow_ok {x p : Int} {k : Int} {h : HC} (h1 : 0 ≤ x) (h2 : x < 4294967296) (k1 : 0 ≤ k) (k2 : k ≤ 1000) : opPow (.int x) (.int k) h = .ok (.int (x ^ k.toNat)) h := by
  have : x.natAbs < 2 ^ 64 := by
    have : (2 : Nat) ^ 64 = 18446744073709551616 := by decide
    omega
  simp only [opPow, k1, this, show k ≤ 1000000 by omega, and_self, if_true]
theorem seed_ok {h : HC} {s k : Int} : ∃ v, m_law_seed [.int s, .int k] h = .ok (.int v) h ∧ 0 ≤ v ∧ v < 2147483647 := by
  have b := mod_bnd (i := s * 1103515245 + 7919 * k + 12345) (p := 2147483647) (by omega)
  have c := mod_bnd (i := ((s * 1103515245 + 7919 * k + 12345) % 2147483647) ^ 5) (p := 2147483647) (by omega)
  refine ⟨_, ?_, c.1, c.2⟩
  have e1 : mulOk s 1103515245 = true := mulOk_r (by decide) (by decide)
  have e2 : mulOk 7919 k = true := mulOk_l (by decide) (by decide)
  have e3 := pow_ok (h := h) (p := 0) (k := 5) b.1 (by omega) (by decide) (by decide)
  simp only [m_law_seed, fnRun]
  simp [-powI, e1, e2, e3]
theorem pick_ok {h : HC} {s m : Int} (hm : 0 < m) : ∃ v, m_law_pick [.int s, .int m] h = .ok (.int v) h ∧ 0 ≤ v ∧ v < m := by
  have c := mod_bnd (i := s / 97) hm
  refine ⟨_, ?_, c.1, c.2⟩
  simp only [m_law_pick, fnRun]
  simp [hm]
theorem mix_ok {h : HC} {c m : Int} (hm : 0 < m) : ∃ v, m_law_mix [.int c, .int 9949, .int m] h = .ok (.int v) h ∧ 0 ≤ v ∧ v < m := by
  have b := mod_bnd (i := c * 48271) (p := 9949) (by omega)
  have d := mod_bnd (i := (c * 48271 % 9949) ^ 3 % 9949) hm
  refine ⟨_, ?_, d.1, d.2⟩
  have e1 : mulOk c 48271 = true := mulOk_r (by decide) (by decide)
  have e3 := pow_ok (h := h) (p := 0) (k := 3) b.1 (by omega) (by decide) (by decide)
  simp only [m_law_mix, fnRun]
  simp [-powI, e1, e3, hm]
theorem joinL_nil : ∀ l : List (List Nat), TL.joinL [] l = l.flatten
  | [] => rfl
  | [p] => by simp [TL.joinL]
  | p :: q :: r => by
    have := joinL_nil (q :: r)
    simp only [TL.joinL, this, List.nil_append, List.flatten_cons]
theorem cps_empty : ("" : Str).cps.toList = [] := by decide +kernel
theorem cps_join {l : List Str} : (Txt.join "" l).cps.toList = (l.map fun z => z.cps.toList).flatten := by
  have := TL.tl_join "" l
  rw [TL.join_eq]
  rw [show TL.tl "" = [] from cps_empty, joinL_nil] at this
  exact this
theorem join_sg {l : List Nat} : (Txt.join "" (l.map fun c => (⟨#[c]⟩ : Str))).cps.toList = l := by
  rw [cps_join, List.map_map]
  induction l with
  | nil => rfl
  | cons c l ih => simp only [List.map_cons, List.flatten_cons, ih]; rfl
theorem mJoin_of {h : HC} {a : Str} {n : Nat} {l : List Str} (e : h[n]? = some (.lst (l.map D.str))) (hj : joinOk a l = true) : mJoin (.str a) [.ref n] h = .ok (.str (Txt.join a l)) h := by
  simp only [mJoin, asSeq_of e, strsD_map, hj, if_true]
theorem code_ok {h : HC} {s : Int} : ∃ z h', m_law_code [.int s] h = .ok (.str z) h' ∧ Le h h' ∧ IsC z := by
  have b := mod_bnd (i := s / 5) (p := 4) (by omega)
  obtain ⟨n, hn⟩ : ∃ n : Nat, 1 + s / 5 % 4 = (n : Int) := ⟨(1 + s / 5 % 4).toNat, by omega⟩
  obtain ⟨ys, h', e, l, r, k⟩ := lcLoop_rel (fun i : Nat => D.int (i : Int)) (G := []) (g := gN 1) (c := fYes) (a := fOp opIx (fC (.str "sl")) (fCall 2 m_law_pick (fCons (fCall 2 m_law_seed (fCons (fVar 0) (fCons (fVar 1) fNil))) (fCons (fC (.int 2)) fNil)))) (s := [some (.int s), none]) (h0 := h)
    (fun _ => true) (fun _ _ y => ∃ c, Sg c ∧ y = .str ⟨#[c]⟩) (fun h h' x y l q => q) (fun _ _ => rfl) (List.range n) [] h Le.refl (by simp [BIG]; omega)
    (fun i hi h _ => by
      obtain ⟨v, e1, v0, v1⟩ := seed_ok (h := h) (s := s) (k := (i : Int))
      obtain ⟨w, e2, w0, w1⟩ := pick_ok (h := h) (s := v) (m := 2) (by omega)
      have hb : ("sl" : Str).length ≤ BIG := by decide +kernel
      have hw : w = 0 ∨ w = 1 := by omega
      rcases hw with rfl | rfl
      · exact ⟨_, h, rfl, rfl, Le.refl, fun _ => ⟨.str ⟨#[115]⟩, h, by simp [e1, e2, hb, cps_sl], Le.refl, 115, .inl rfl, rfl⟩⟩
      · exact ⟨_, h, rfl, rfl, Le.refl, fun _ => ⟨.str ⟨#[108]⟩, h, by simp [e1, e2, hb, cps_sl], Le.refl, 108, .inr rfl, rfl⟩⟩)
  rw [flt_t] at r k
  rw [List.length_range] at k
  have hc : ∀ (ys : List D), (∀ i, i < ys.length → ∃ y, ys[i]? = some y ∧ ∃ c, Sg c ∧ y = .str ⟨#[c]⟩) → ∃ cs : List Nat, ys = (cs.map fun c => (⟨#[c]⟩ : Str)).map D.str ∧ ∀ c ∈ cs, Sg c := by
    intro ys
    induction ys with
    | nil => intro _; exact ⟨[], rfl, by simp⟩
    | cons y ys ih =>
      intro h
      obtain ⟨cs, e, hs⟩ := ih fun i hi => by simpa using h (i + 1) (by simp; omega)
      obtain ⟨y', e1, c, hc, e2⟩ := h 0 (by simp)
      simp at e1
      subst e1 e2
      exact ⟨c :: cs, by simp [e], by
        intro d hd
        rcases List.mem_cons.mp hd with rfl | hd
        · exact hc
        · exact hs d hd⟩
  obtain ⟨cs0, e1, hs⟩ := hc ys fun i hi => by
    obtain ⟨y, e1, e2⟩ := r i i (by rw [List.getElem?_range (by omega)])
    exact ⟨y, e1, e2⟩
  have hl : cs0.length = n := by rw [← k, e1]; simp
  have hj : joinOk "" (cs0.map fun c => (⟨#[c]⟩ : Str)) = true := by
    have h0 : ("" : Str).length = 0 := by decide +kernel
    have : ((cs0.map fun c => (⟨#[c]⟩ : Str)).map (·.length)).sum = cs0.length := by
      clear hl e1 hs
      induction cs0 with
      | nil => rfl
      | cons c l ih => simp only [List.map_cons, List.sum_cons, ih, List.length_cons]; simp [Str.length]; omega
    simp only [joinOk, this, h0, BIG, Nat.mul_zero]
    simp
    omega
  have ej : mJoin (.str "") [.ref h'.length] (h' ++ [.lst ((cs0.map fun c => (⟨#[c]⟩ : Str)).map D.str)]) = _ := mJoin_of last_get hj
  refine ⟨Txt.join "" (cs0.map fun c => (⟨#[c]⟩ : Str)), h' ++ [.lst ((cs0.map fun c => (⟨#[c]⟩ : Str)).map D.str)], ?_, l.trans Le.app, ⟨by rw [join_sg]; omega, by rw [join_sg]; omega, by rw [join_sg]; exact hs⟩⟩
  have hb : n ≤ BIG := by simp only [BIG]; omega
  simp only [List.nil_append, e1] at e
  simp only [m_law_code, fnRun]
  simp only [List.map_map] at e ej ⊢
  simp [hasTy, wipeD, hn, hb, e, ej]
end G9

set_option Elab.async false
set_option linter.all false
set_option maxRecDepth 100000
set_option maxHeartbeats 0
namespace G9
open PySem L2
theorem IsC.ok {z : Str} (h : IsC z) : PyData.strOk z = true := by
  unfold PyData.strOk
  rw [← Array.all_toList, List.all_eq_true]
  intro c hc
  rcases h.sg c hc with rfl | rfl <;> decide
theorem any_str {z : Str} {zs : List Str} : ((zs.map PyData.str).any fun y => PyData.eqv y (.str z)) = decide (z ∈ zs) := by
  induction zs with
  | nil => simp
  | cons y zs ih =>
    rw [List.map_cons, List.any_cons, ih]
    simp only [PyData.eqv]
    rw [Bool.eq_iff_iff]
    simp
    constructor
    · rintro (a | a)
      · exact .inl a.symm
      · exact .inr a
    · rintro (a | a)
      · exact .inl a.symm
      · exact .inr a
theorem toPy_strs {h : HC} {n k : Nat} {zs : List Str} (q : h[n]? = some (.lst (zs.map D.str))) (hz : ∀ z ∈ zs, IsC z) : toPy h (k + 2) (.ref n) = some (.list (zs.map PyData.str)) := by
  have := optAll_map (f := toPy h (k + 1) ∘ D.str) (g := PyData.str) (xs := zs) fun x hx => by simp [toPy, (hz x hx).ok]
  rw [toPy_ref q, List.map_map, this]
  rfl
theorem notIn_ok {h : HC} {n : Nat} {z : Str} {zs : List Str} (q : h[n]? = some (.lst (zs.map D.str))) (hz : ∀ z ∈ zs, IsC z) (h1 : IsC z) : opNotIn (.str z) (.ref n) h = .ok (.bl (!decide (z ∈ zs))) h := by
  have e1 : toPy h 9 (.str z) = some (.str z) := by simp [toPy, h1.ok]
  have e2 := toPy_strs (k := 7) q hz
  simp only [opInB, e1, e2, any_str, if_true]
theorem mAppend_of {h : HC} {n : Nat} {xs : List D} {y : D} (e1 : h[n]? = some (.lst xs)) (hl : xs.length < BIG) : mAppend (.ref n) [y] h = .ok .non (h.set n (.lst (xs ++ [y]))) := by
  simp only [mAppend, e1, hl, if_true]
theorem C_sl : IsC "sl" := ⟨by rw [cps_sl]; decide, by rw [cps_sl]; decide, by rw [cps_sl]; intro c hc; simp at hc; rcases hc with rfl | rfl; exact .inl rfl; exact .inr rfl⟩
theorem cps_ls : ("ls" : Str).cps.toList = [108, 115] := by decide +kernel
theorem C_ls : IsC "ls" := ⟨by rw [cps_ls]; decide, by rw [cps_ls]; decide, by rw [cps_ls]; intro c hc; simp at hc; rcases hc with rfl | rfl; exact .inr rfl; exact .inl rfl⟩
theorem set_step {h g : HC} {s : Int} {k : Nat} {zs : List Str} {y : Option D} (hz : ∀ z ∈ zs, IsC z) (hn : zs.Nodup) (hl : zs.length ≤ 100) :
    ∃ (zs' : List Str) (y' : Option D) (g' : HC), (fSeq (fSet 3 (fCall 1 m_law_code (fCons (fCall 2 m_law_seed (fCons (fVar 0) (fCons (fOp opAdd (fC (.int 10)) (fVar 2)) fNil))) fNil)))
      (fIfS (fBo (fOp opNotIn (fVar 3) (fVar 1))) (fExpr (fMt "list" mAppend (fVar 1) (fCons (fVar 3) fNil))) fNx))
      [some (.int s), some (.ref h.length), some (.int (k : Int)), y] (h ++ .lst (zs.map D.str) :: g) = .nx [some (.int s), some (.ref h.length), some (.int (k : Int)), y'] (h ++ .lst (zs'.map D.str) :: g') ∧
      (∀ z ∈ zs', IsC z) ∧ zs'.Nodup ∧ zs'.length ≤ zs.length + 1 ∧ zs' ≠ [] := by
  obtain ⟨v, e1, _, _⟩ := seed_ok (h := h ++ .lst (zs.map D.str) :: g) (s := s) (k := 10 + (k : Int))
  obtain ⟨z, h1, e2, ⟨g2, rfl⟩, hc⟩ := code_ok (h := h ++ .lst (zs.map D.str) :: g) (s := v)
  have q : ((h ++ .lst (zs.map D.str) :: g) ++ g2)[h.length]? = some (.lst (zs.map D.str)) := by simp
  have e3 := notIn_ok q hz hc
  by_cases hm : z ∈ zs
  · refine ⟨zs, some (.str z), g ++ g2, ?_, hz, hn, by omega, fun e => by rw [e] at hm; simp at hm⟩
    simp [e1, e2]
    simp [hm] at e3
    simp [e3]
  · refine ⟨zs ++ [z], some (.str z), g ++ g2, ?_, ?_, ?_, by simp, by simp⟩
    · have e4 := mAppend_of (y := .str z) q (by simp [BIG]; omega)
      simp [e1, e2]
      simp [hm] at e3 e4
      simp [e3, hasTy, e4]
    · intro y hy
      rcases List.mem_append.mp hy with hy | hy
      · exact hz y hy
      · simp at hy; subst hy; exact hc
    · rw [List.nodup_append]
      refine ⟨hn, by simp, fun a ha b hb e => ?_⟩
      simp at hb
      subst hb e
      exact hm ha
theorem more_ok {h : HC} {n : Nat} {s : D} {x y : Option D} {zs : List Str} (q : h[n]? = some (.lst (zs.map D.str))) (hz : ∀ z ∈ zs, IsC z) (hn : zs.Nodup) (hl : zs.length ≤ 8) (h0 : zs ≠ []) :
    ∃ (m : Nat) (zs' : List Str) (h' : HC), fIfS (fBo (fOp opLt (fCl bLen (fCons (fVar 1) fNil)) (fC (.int 2)))) (fSet 1 (fOp opAdd (fVar 1) (fSl (fLc (fItT (fTup (fCons (fC (.str "sl")) (fCons (fC (.str "ls")) fNil)))) [3] (gN 3) (fBo (fOp opNotIn (fVar 3) (fVar 1))) (fVar 3)) fNoP (fPart (fC (.int 1)))))) fNx
      [some s, some (.ref n), x, y] h = .nx [some s, some (.ref m), x, y] h' ∧ Le h h' ∧ h'[m]? = some (.lst (zs'.map D.str)) ∧ (∀ z ∈ zs', IsC z) ∧ zs'.Nodup ∧ 2 ≤ zs'.length ∧ zs'.length ≤ 8 := by
  by_cases h2 : zs.length < 2
  · have hz1 : ∃ a, zs = [a] := by
      match zs, h0, h2 with
      | [a], _, _ => exact ⟨a, rfl⟩
      | _ :: _ :: _, _, h => simp at h; omega
    obtain ⟨a, rfl⟩ := hz1
    obtain ⟨h', e, l⟩ := lcLoop_fn D.str (G := []) (g := gN 3) (c := fBo (fOp opNotIn (fVar 3) (fVar 1))) (a := fVar 3) (s := [some s, some (.ref n), x, none]) (h0 := h) (fun z => !decide (z ∈ [a])) D.str (fun _ _ => rfl) [("sl" : Str), ("ls" : Str)] h Le.refl (by simp)
      (fun c hc h l => by
        have hC : IsC c := by
          simp at hc
          rcases hc with rfl | rfl
          · exact C_sl
          · exact C_ls
        have := notIn_ok (l.get q) hz hC
        exact ⟨_, h, rfl, by simp at this ⊢; simp [this], Le.refl, fun _ => ⟨h, by simp, Le.refl⟩⟩)
    obtain ⟨c, r, hcr⟩ : ∃ c r, [("sl" : Str), ("ls" : Str)].filter (fun z => !decide (z ∈ [a])) = c :: r := by
      cases hf : [("sl" : Str), ("ls" : Str)].filter (fun z => !decide (z ∈ [a])) with
      | cons c r => exact ⟨c, r, rfl⟩
      | nil =>
        rw [List.filter_eq_nil_iff] at hf
        have h1 := hf "sl" (by simp)
        have h2 := hf "ls" (by simp)
        simp at h1 h2
        rw [← h1] at h2
        exact absurd h2 (by decide +kernel)
    have hc : c ∈ [("sl" : Str), ("ls" : Str)].filter (fun z => !decide (z ∈ [a])) := by rw [hcr]; simp
    have hC : IsC c := by
      have := (List.mem_filter.mp hc).1
      simp at this
      rcases this with rfl | rfl
      · exact C_sl
      · exact C_ls
    have hne : c ≠ a := by
      have := (List.mem_filter.mp hc).2
      simpa using this
    rw [hcr] at e
    have q' : ∀ g : HC, (h' ++ g)[n]? = some (.lst [D.str a]) := fun g => Le.get (l.trans Le.app) (by simpa using q)
    have hcut : cutD ((c :: r).map D.str) none (some 1) = [D.str c] := by
      have : ((1 : Nat) : Int) = 1 := rfl
      rw [← this]
      simp only [cutD, HT.sIx_none, HT.sIx_nat, List.drop_zero, Nat.sub_zero, List.map_cons, List.length_cons]
      rw [Nat.min_eq_left (by omega)]
      simp
    refine ⟨h'.length + 2, [a, c], h' ++ [.lst ((c :: r).map D.str), .lst [.str c], .lst [.str a, .str c]], ?_, l.trans Le.app, by simp, ?_, by simp [Ne.symm hne], by simp, by simp⟩
    · have hq : h[n]? = some (.lst [D.str a]) := by simpa using q
      simp only [List.map_cons, List.map_nil] at e hcut
      simp [hq, asSeq_of hq, wipeD, e, opSl, hcut, opAdd, q']
    · intro z hz'
      simp at hz'
      rcases hz' with rfl | rfl
      · exact hz z (by simp)
      · exact hC
  · refine ⟨n, zs, h, ?_, Le.refl, q, hz, hn, by omega, hl⟩
    simp [asSeq_of q, show ¬ ((zs.length : Int) < 2) by omega]
theorem setting_ok {h : HC} {s : Int} : ∃ (zs : List Str) (b : Bool) (k : Int) (h' : HC), m_law_setting [.int s] h = .ok (setD zs b k) h' ∧ Le h h' ∧ IsS zs b k := by
  have b7 := mod_bnd (i := s / 7) (p := 7) (by omega)
  obtain ⟨n, hn⟩ : ∃ n : Nat, 2 + s / 7 % 7 = (n : Int) := ⟨(2 + s / 7 % 7).toNat, by omega⟩
  obtain ⟨s', h1, e1, ⟨x, y, rfl⟩, zs, g, rfl, hz, hnd, hlen, hne⟩ := forLoop_inv (fun i : Nat => D.int (i : Int)) (G := []) (g := gN 2) (body := fSeq (fSet 3 (fCall 1 m_law_code (fCons (fCall 2 m_law_seed (fCons (fVar 0) (fCons (fOp opAdd (fC (.int 10)) (fVar 2)) fNil))) fNil)))
      (fIfS (fBo (fOp opNotIn (fVar 3) (fVar 1))) (fExpr (fMt "list" mAppend (fVar 1) (fCons (fVar 3) fNil))) fNx))
    (fun l s' h' => (∃ x y, s' = [some (.int s), some (.ref h.length), x, y]) ∧ ∃ (zs : List Str) (g : HC), h' = h ++ .lst (zs.map D.str) :: g ∧ (∀ z ∈ zs, IsC z) ∧ zs.Nodup ∧ zs.length ≤ l.length ∧ (l ≠ [] → zs ≠ [])) (fun _ _ _ _ => rfl) (List.range n) [] [some (.int s), some (.ref h.length), none, none] (h ++ [.lst []])
    ⟨⟨_, _, rfl⟩, [], [], by simp, by simp, by simp, by simp, by simp⟩
    (fun l c s2 h' hp ⟨⟨x, y, hs⟩, zs, g, hh, hz, hnd, hlen, hne⟩ => by
      subst hs hh
      have hl : (l ++ [c]).length ≤ n := by
        have := hp.length_le
        simpa using this
      simp at hl
      obtain ⟨zs', y', g', e, a1, a2, a3, a4⟩ := set_step (h := h) (g := g) (s := s) (k := c) (y := y) hz hnd (by omega)
      exact ⟨_, _, _, rfl, e, ⟨_, _, rfl⟩, zs', g', rfl, a1, a2, by simp; omega, fun _ => a4⟩)
  simp only [List.nil_append, List.length_range] at e1 hlen
  obtain ⟨m, zs', h2, e2, l2, q2, b1, b2, b3, b4⟩ := more_ok (h := h ++ .lst (zs.map D.str) :: g) (n := h.length) (s := .int s) (x := x) (y := y) get_mid hz hnd (by omega) (hne (by
    intro e
    have := congrArg List.length e
    simp at this
    omega))
  have b13 := mod_bnd (i := s / 13) (p := 2) (by omega)
  obtain ⟨w, hw, w0, w1⟩ : ∃ w : Int, atI [D.int 60, D.int 9] (s / 13 % 2) = some (.int w) ∧ 0 < w ∧ w ≤ 60 := by
    have : s / 13 % 2 = 0 ∨ s / 13 % 2 = 1 := by omega
    rcases this with e | e
    · exact ⟨60, by rw [e]; simp, by decide, by decide⟩
    · exact ⟨9, by rw [e]; simp, by decide, by decide⟩
  obtain ⟨v, e3, _, _⟩ := seed_ok (h := h2) (s := s) (k := 30)
  obtain ⟨u, e4, u0, u1⟩ := pick_ok (h := h2 ++ [.lst [.int 60, .int 9]]) (s := v) (m := w) w0
  refine ⟨zs', decide (s / 11 % 2 = 0), 1 + u, h2 ++ [.lst [.int 60, .int 9]], ?_, Le.trans Le.app (l2.trans Le.app), ⟨b3, b4, b1, b2, by omega, by omega⟩⟩
  have hb : n ≤ BIG := by simp only [BIG]; omega
  have hb2 : zs'.length ≤ BIG := Nat.le_trans b4 (by decide)
  simp only [m_law_setting, fnRun]
  simp [hn, hb, e1, -fIfS_ap, e2, bTuple, asSeq_of q2, hb2, e3, hw, e4]
  simp [setD]
theorem pair_ok {h : HC} {zs : List Str} {b : Bool} {k : Int} {ns : List Int} {at_ : Nat} (S : IsS zs b k) : ∃ i j : Nat, m_law_pair [setD zs b k, .scr ns, .int (at_ : Int)] h = .ok (.tup [.int (i : Int), .int (j : Int)]) h ∧ i < zs.length ∧ j < zs.length ∧ i ≠ j := by
  have hl := S.lo
  have c1 := cell_ok (h := h) (ns := ns) (k := at_)
  have c2 := cell_ok (h := h) (ns := ns) (k := at_ + 1)
  have m1 := mod_bnd (i := cellv ns at_) (p := zs.length) (by omega)
  obtain ⟨v, e1, v0, v1⟩ := mix_ok (h := h) (c := cellv ns (at_ + 1)) (m := (zs.length : Int) - 1) (by omega)
  have m2 := mod_bnd (i := cellv ns at_ % (zs.length : Int) + 1 + v) (p := zs.length) (by omega)
  refine ⟨(cellv ns at_ % (zs.length : Int)).toNat, ((cellv ns at_ % (zs.length : Int) + 1 + v) % (zs.length : Int)).toNat, ?_, by omega, by omega, ?_⟩
  · rw [Int.toNat_of_nonneg m1.1, Int.toNat_of_nonneg m2.1]
    simp only [Int.natCast_add, Int.natCast_one] at c2
    simp only [m_law_pair, fnRun]
    simp [setD, c1, c2, e1, show (0 : Int) < (zs.length : Int) by omega, show 0 < zs.length by omega]
  · intro e
    have e' : cellv ns at_ % (zs.length : Int) = (cellv ns at_ % (zs.length : Int) + 1 + v) % (zs.length : Int) := by omega
    by_cases hlt : cellv ns at_ % (zs.length : Int) + 1 + v < zs.length
    · rw [Int.emod_eq_of_lt (by omega) hlt] at e'
      omega
    · have : (cellv ns at_ % (zs.length : Int) + 1 + v) % (zs.length : Int) = cellv ns at_ % (zs.length : Int) + 1 + v - zs.length := by
        rw [← Int.sub_emod_right, Int.emod_eq_of_lt (by omega) (by omega)]
      rw [this] at e'
      omega
end G9

set_option Elab.async false
set_option linter.all false
set_option maxRecDepth 100000
set_option maxHeartbeats 0
namespace G9
open PySem L2
theorem cnt_spec {C : Nat → Bool} : ∀ (k t : Nat), C (t + k) = false → C (cnt C k t) = false ∧ (∀ u, t ≤ u → u < cnt C k t → C u = true) ∧ cnt C k t ≤ t + k ∧ t ≤ cnt C k t
  | 0, t, h => ⟨by simpa [cnt] using h, fun u h1 h2 => by simp [cnt] at h2; omega, by simp [cnt], by simp [cnt]⟩
  | k + 1, t, h => by
    unfold cnt
    split
    · rename_i hc
      obtain ⟨a, b, c, d⟩ := cnt_spec (C := C) k (t + 1) (by rw [show t + 1 + k = t + (k + 1) by omega]; exact h)
      refine ⟨a, fun u h1 h2 => ?_, by omega, by omega⟩
      by_cases e : u = t
      · rw [e]; exact hc
      · exact b u (by omega) h2
    · rename_i hc
      exact ⟨by simpa using hc, fun u h1 h2 => by omega, by omega, Nat.le_refl _⟩
theorem CA_mono {z y : Str} {t u : Nat} (h : CA z y t = true) (hu : u ≤ t) : CA z y u = true := by
  simp only [CA, decide_eq_true_eq] at *
  have := congrArg (List.take u) h
  rwa [List.take_take, List.take_take, Nat.min_eq_left hu] at this
theorem CA_comm {z y : Str} {t : Nat} : CA z y t = CA y z t := by
  simp only [CA]
  rw [Bool.eq_iff_iff]
  simp
  exact eq_comm
theorem CA_trans {z y w : Str} {t : Nat} (a : CA z y t = true) (b : CA y w t = true) : CA z w t = true := by
  simp only [CA, decide_eq_true_eq] at *
  exact a.trans b
abbrev LL (z y : Str) : Nat := cnt (CA z y) 400 0
theorem LL_comm {z y : Str} : LL z y = LL y z := cnt_congr 400 0 fun u _ _ => CA_comm
theorem CA_lt {z y : Str} {t : Nat} (hz : IsC z) (hy : IsC y) (hn : z ≠ y) : CA z y t = decide (t < LL z y) := by
  obtain ⟨a, b, c, d⟩ := cnt_spec (C := CA z y) 400 0 (by simpa using CA_400 hz hy hn)
  by_cases ht : t < LL z y
  · rw [b t (by omega) ht]; simp [ht]
  · simp only [ht, decide_false]
    cases e : CA z y t with
    | false => rfl
    | true =>
      rw [CA_mono e (show LL z y ≤ t by omega)] at a
      cases a
theorem LL_le {z y : Str} (hz : IsC z) (hy : IsC y) (hn : z ≠ y) : LL z y ≤ 400 := by
  obtain ⟨a, b, c, d⟩ := cnt_spec (C := CA z y) 400 0 (by simpa using CA_400 hz hy hn)
  simpa using c
theorem LL_pos {z y : Str} (hz : IsC z) (hy : IsC y) (hn : z ≠ y) : 1 ≤ LL z y := by
  have h : CA z y 0 = true := by simp [CA]
  rw [CA_lt hz hy hn] at h
  have := of_decide_eq_true h
  omega
theorem LL_ultra {z y w : Str} (hz : IsC z) (hy : IsC y) (hw : IsC w) (h1 : z ≠ y) (h2 : z ≠ w) (h3 : y ≠ w) : LL z w ≤ LL z y ∨ LL y w ≤ LL z y := by
  by_cases a : LL z w ≤ LL z y
  · exact .inl a
  · by_cases b : LL y w ≤ LL z y
    · exact .inr b
    · have e1 : CA z w (LL z y) = true := by rw [CA_lt hz hw h2]; simp; omega
      have e2 : CA w y (LL z y) = true := by rw [CA_comm, CA_lt hy hw h3]; simp; omega
      have e3 := CA_trans e1 e2
      rw [CA_lt hz hy h1] at e3
      simp at e3
theorem apart_ne {zs : List Str} {i j : Nat} {z y : Str} (hn : zs.Nodup) (hi : zs[i]? = some z) (hj : zs[j]? = some y) (h : i ≠ j) : z ≠ y := by
  rintro rfl
  have e1 := (List.getElem?_eq_some_iff.mp hi).2
  have e2 := (List.getElem?_eq_some_iff.mp hj).2
  exact h ((List.getElem_inj hn).mp (e1.trans e2.symm))
/-- two of them are mistaken -/
theorem mk_pair {zs : List Str} {p q n : Nat} {z y : Str} (hp : zs[p]? = some z) (hq : zs[q]? = some y) (h : p < q) (hn : n ≤ 400) : ((p : Int), (q : Int)) ∈ mk (zs.map (rg · n)) ↔ CA z y n = true := by
  have hq2 : q < zs.length := (List.getElem?_eq_some_iff.mp hq).1
  rw [mk_mem, CA_eq hn]
  constructor
  · rintro ⟨i, j, a, b, c, e⟩
    simp at e
    have e1 : i = p := by omega
    have e2 : j = q := by omega
    subst e1 e2
    simpa [E2, hp, hq] using c
  · intro e
    exact ⟨p, q, h, by simpa using hq2, by simpa [E2, hp, hq] using e, rfl⟩
theorem mk_any {zs : List Str} {n : Nat} {x : Int × Int} (hn : n ≤ 400) : x ∈ mk (zs.map (rg · n)) ↔ ∃ (p q : Nat) (z y : Str), p < q ∧ zs[p]? = some z ∧ zs[q]? = some y ∧ CA z y n = true ∧ x = ((p : Int), (q : Int)) := by
  constructor
  · intro h
    obtain ⟨i, j, a, b, c, e⟩ := mk_mem.mp h
    have hj : j < zs.length := by simpa using b
    refine ⟨i, j, _, _, a, List.getElem?_eq_getElem (show i < zs.length by omega), List.getElem?_eq_getElem hj, ?_, e⟩
    subst e
    exact (mk_pair (List.getElem?_eq_getElem (show i < zs.length by omega)) (List.getElem?_eq_getElem hj) a hn).mp h
  · rintro ⟨p, q, z, y, a, b, c, d, rfl⟩
    exact (mk_pair b c a hn).mpr d
theorem mk_sub {zs : List Str} {n : Nat} {x : Int × Int} (hn : n + 1 ≤ 400) (h : x ∈ mk (zs.map (rg · (n + 1)))) : x ∈ mk (zs.map (rg · n)) := by
  obtain ⟨p, q, z, y, a, b, c, d, rfl⟩ := (mk_any hn).mp h
  exact (mk_pair b c a (by omega)).mpr (CA_mono d (by omega))
theorem mk_zero {zs : List Str} (h1 : 2 ≤ zs.length) (h2 : zs.length ≤ 8) : (((mk (zs.map (rg · 0))).length : Nat) : Int) = (zs.length : Int) * ((zs.length : Int) - 1) / 2 := by
  have e : zs.map (rg · 0) = List.replicate zs.length [] := by
    apply List.ext_getElem?
    intro i
    by_cases hi : i < zs.length
    · simp [hi, rg, rgL]
    · simp [hi, List.getElem?_eq_none (show zs.length ≤ i by omega)]
  rw [e]
  have : ∀ n : Nat, n ≤ 8 → 2 ≤ n → (((mk (List.replicate n [])).length : Nat) : Int) = (n : Int) * ((n : Int) - 1) / 2 := by
    intro n h1 h2
    have : n = 2 ∨ n = 3 ∨ n = 4 ∨ n = 5 ∨ n = 6 ∨ n = 7 ∨ n = 8 := by omega
    rcases this with rfl | rfl | rfl | rfl | rfl | rfl | rfl <;> decide +kernel
  exact this _ h2 h1
theorem maxI_ge : ∀ {l : List Int} {x : Int}, x ∈ l → x ≤ maxI l
  | [y], x, h => by simp at h; simp [maxI, h]
  | y :: w :: l, x, h => by
    simp only [maxI]
    rcases List.mem_cons.mp h with rfl | h
    · omega
    · have := maxI_ge h
      omega
theorem maxI_mem : ∀ {l : List Int}, l ≠ [] → maxI l ∈ l
  | [y], _ => by simp [maxI]
  | y :: w :: l, _ => by
    have := maxI_mem (l := w :: l) (by simp)
    simp only [maxI]
    by_cases h : y ≤ maxI (w :: l)
    · rw [Int.max_eq_right h]; exact List.mem_cons_of_mem _ this
    · rw [Int.max_eq_left (by omega)]; simp
/-- the numbers of a house -/
def numN (zs : List Str) (i : Nat) : List Nat := (List.range zs.length).filter fun m => !decide (m = i)
def nums (zs : List Str) (i : Nat) (z : Str) : List Int := (numN zs i).map fun m => ((LL z (zs.getD m "") : Nat) : Int)
theorem nums_mem {zs : List Str} {i : Nat} {z : Str} {x : Int} : x ∈ nums zs i z ↔ ∃ m y, zs[m]? = some y ∧ m ≠ i ∧ x = ((LL z y : Nat) : Int) := by
  simp only [nums, numN, List.mem_map, List.mem_filter, List.mem_range]
  constructor
  · rintro ⟨m, ⟨a, b⟩, rfl⟩
    exact ⟨m, zs[m], List.getElem?_eq_getElem a, by simpa using b, by simp [List.getElem?_eq_getElem a]⟩
  · rintro ⟨m, y, a, b, rfl⟩
    exact ⟨m, ⟨(List.getElem?_eq_some_iff.mp a).1, by simpa using b⟩, by simp [a]⟩
theorem nums_ne {zs : List Str} {b : Bool} {k : Int} {i : Nat} {z : Str} (S : IsS zs b k) : nums zs i z ≠ [] := by
  have h2 := S.lo
  have : ∃ m, m < zs.length ∧ m ≠ i := by
    by_cases h : i = 0
    · exact ⟨1, by omega, by omega⟩
    · exact ⟨0, by omega, by omega⟩
  obtain ⟨m, a, c⟩ := this
  intro e
  have : ((LL z zs[m] : Nat) : Int) ∈ nums zs i z := nums_mem.mpr ⟨m, zs[m], List.getElem?_eq_getElem a, c, rfl⟩
  rw [e] at this
  simp at this
theorem CU_iff {zs : List Str} {b : Bool} {k : Int} {i t : Nat} {z : Str} (S : IsS zs b k) (hi : zs[i]? = some z) (ht : t ≤ 400) : CU zs i z t = false ↔ ∀ m y, zs[m]? = some y → m ≠ i → LL z y ≤ t := by
  have hz : IsC z := S.cd z (List.mem_of_getElem? hi)
  have hrow : (rg z 400).take t = rg z t := rg_take ht
  have : CU zs i z t = false ↔ mtN zs (rg z t) = [i] := by
    rw [CU, hrow, mt_N]
    simp only [map_one]
    simp
  rw [this]
  have hmem : i ∈ mtN zs (rg z t) := mtN_mem.mpr ⟨z, hi, by rw [rg_len]⟩
  constructor
  · intro e m y hm hne
    have hy : IsC y := S.cd y (List.mem_of_getElem? hm)
    have hzy : z ≠ y := fun q => apart_ne S.nd hi hm (Ne.symm hne) q
    by_cases hlt : t < LL z y
    · have : CA z y t = true := by rw [CA_lt hz hy hzy]; simpa using hlt
      rw [CA_eq ht, decide_eq_true_eq] at this
      have : m ∈ mtN zs (rg z t) := mtN_mem.mpr ⟨y, hm, by rw [rg_len]; exact this.symm⟩
      rw [e] at this
      simp at this
      exact absurd this hne
    · omega
  · intro h
    refine nodup_one mtN_nodup hmem fun m hm => ?_
    obtain ⟨y, hy, e⟩ := mtN_mem.mp hm
    rw [rg_len] at e
    by_cases hne : m = i
    · exact hne
    · have hyc : IsC y := S.cd y (List.mem_of_getElem? hy)
      have hzy : z ≠ y := fun q => apart_ne S.nd hi hy (Ne.symm hne) q
      have h1 := h m y hy hne
      have : CA z y t = true := by rw [CA_eq ht, decide_eq_true_eq]; exact e.symm
      rw [CA_lt hz hyc hzy] at this
      simp at this
      omega
theorem sure_max {zs : List Str} {b : Bool} {k : Int} {i : Nat} {z : Str} (S : IsS zs b k) (hi : zs[i]? = some z) : ((cnt (CU zs i z) 400 0 : Nat) : Int) = maxI (nums zs i z) := by
  have hz : IsC z := S.cd z (List.mem_of_getElem? hi)
  obtain ⟨a, h1, c, _⟩ := cnt_spec (C := CU zs i z) 400 0 (by simpa using CU_400 S hi)
  have hle : cnt (CU zs i z) 400 0 ≤ 400 := by simpa using c
  have e1 := (CU_iff S hi hle).mp a
  obtain ⟨m, y, hm, hne, e⟩ := nums_mem.mp (maxI_mem (nums_ne (i := i) (z := z) S))
  have g1 := e1 m y hm hne
  by_cases hlt : LL z y < cnt (CU zs i z) 400 0
  · have h2 := h1 (LL z y) (by omega) hlt
    have : CU zs i z (LL z y) = false := (CU_iff S hi (by omega)).mpr fun m' y' hm' hne' => by
      have := maxI_ge (nums_mem (z := z).mpr ⟨m', y', hm', hne', rfl⟩)
      rw [e] at this
      omega
    rw [this] at h2
    cases h2
  · omega
theorem last_ok {zs : List Str} {b : Bool} {k : Int} (S : IsS zs b k) : ∃ n : Nat, maxI (sureL zs) = (n : Int) ∧ 1 ≤ n ∧ n ≤ 400 ∧ mk (zs.map (rg · n)) = [] ∧ mk (zs.map (rg · (n - 1))) ≠ [] := by
  have hne : sureL zs ≠ [] := by
    intro e
    have := congrArg List.length e
    have h2 := S.lo
    simp [sureL] at this
    rw [this] at h2
    simp at h2
  have h1 := maxI_mem hne
  simp only [sureL, List.mem_map] at h1
  obtain ⟨⟨z, i⟩, hp, e⟩ := h1
  have hi : zs[i]? = some z := List.mk_mem_zipIdx_iff_getElem?.mp hp
  have hz : IsC z := S.cd z (List.mem_of_getElem? hi)
  have e' : maxI (sureL zs) = ((cnt (CU zs i z) 400 0 : Nat) : Int) := e.symm
  have e2 := sure_max S hi
  obtain ⟨m, y, hm, hni, e3⟩ := nums_mem.mp (maxI_mem (nums_ne (i := i) (z := z) S))
  have hy : IsC y := S.cd y (List.mem_of_getElem? hm)
  have hzy : z ≠ y := fun q => apart_ne S.nd hi hm (Ne.symm hni) q
  have p1 := LL_pos hz hy hzy
  have p2 := LL_le hz hy hzy
  refine ⟨LL z y, by rw [e', e2, e3], p1, p2, ?_, ?_⟩
  · rw [List.eq_nil_iff_forall_not_mem]
    intro x hx
    obtain ⟨p, q, a, c, hpq, h3, h4, h5, rfl⟩ := (mk_any p2).mp hx
    have hac : a ≠ c := apart_ne S.nd h3 h4 (by omega)
    rw [CA_lt (S.cd a (List.mem_of_getElem? h3)) (S.cd c (List.mem_of_getElem? h4)) hac] at h5
    simp at h5
    have g1 : ((LL a c : Nat) : Int) ≤ maxI (nums zs p a) := maxI_ge (nums_mem.mpr ⟨q, c, h4, by omega, rfl⟩)
    rw [← sure_max S h3] at g1
    have g2 : ((cnt (CU zs p a) 400 0 : Nat) : Int) ≤ maxI (sureL zs) := maxI_ge (by
      simp only [sureL, List.mem_map]
      exact ⟨(a, p), List.mk_mem_zipIdx_iff_getElem?.mpr h3, rfl⟩)
    omega
  · intro e4
    have hc : CA z y (LL z y - 1) = true := by rw [CA_lt hz hy hzy]; simp; omega
    by_cases him : i < m
    · have := (mk_pair hi hm him (show LL z y - 1 ≤ 400 by omega)).mpr hc
      rw [e4] at this
      simp at this
    · have := (mk_pair hm hi (show m < i by omega) (show LL z y - 1 ≤ 400 by omega)).mpr (by rw [CA_comm]; exact hc)
      rw [e4] at this
      simp at this
end G9

set_option Elab.async false
set_option linter.all false
set_option maxRecDepth 100000
set_option maxHeartbeats 0
namespace G9
open PySem L2
theorem any_pP {p : Int × Int} {ps : List (Int × Int)} : ((ps.map pP).any fun y => PyData.eqv y (pP p)) = decide (p ∈ ps) := by
  induction ps with
  | nil => simp
  | cons q ps ih =>
    rw [List.map_cons, List.any_cons, ih, eqv_pP]
    rw [Bool.eq_iff_iff]
    simp
    constructor
    · rintro (a | a)
      · exact .inl a.symm
      · exact .inr a
    · rintro (a | a)
      · exact .inl a.symm
      · exact .inr a
theorem in_LP {h : HC} {d : D} {ps : List (Int × Int)} {p : Int × Int} (x : LP h d ps) : opIn (pD p) d h = .ok (.bl (decide (p ∈ ps))) h := by
  obtain ⟨n, rfl, q⟩ := x
  have e1 : toPy h 9 (pD p) = some (pP p) := pP_of
  have e2 := LP.py (k := 6) ⟨n, rfl, q⟩
  have : opIn (pD p) (.ref n) h = (match toPy h 9 (pD p), toPy h 9 (.ref n) with
    | some a, some (.list ds) => .ok (.bl (if false = true then !(ds.any fun z => PyData.eqv z a) else ds.any fun z => PyData.eqv z a)) h
    | _, _ => .bad) := rfl
  rw [this, e1, e2]
  simp only [Bool.false_eq_true, if_false, any_pP]
theorem notIn_LP {h : HC} {d : D} {ps : List (Int × Int)} {p : Int × Int} (x : LP h d ps) : opNotIn (pD p) d h = .ok (.bl (!decide (p ∈ ps))) h := by
  obtain ⟨n, rfl, q⟩ := x
  have e1 : toPy h 9 (pD p) = some (pP p) := pP_of
  have e2 := LP.py (k := 6) ⟨n, rfl, q⟩
  have : opNotIn (pD p) (.ref n) h = (match toPy h 9 (pD p), toPy h 9 (.ref n) with
    | some a, some (.list ds) => .ok (.bl (if true = true then !(ds.any fun z => PyData.eqv z a) else ds.any fun z => PyData.eqv z a)) h
    | _, _ => .bad) := rfl
  rw [this, e1, e2]
  simp only [if_true, any_pP]
theorem neB {h : HC} {a b : Bool} : opNe (.bl a) (.bl b) h = .ok (.bl (!decide (a = b))) h := by
  cases a <;> cases b <;> simp [opNe, toPy, PyData.eqv]
theorem notIn_two {h : HC} {k p q : Int} : opNotIn (.int k) (pD (p, q)) h = .ok (.bl (!(decide (k = p) || decide (k = q)))) h := by
  have : inV (.int k) [.int p, .int q] = (decide (k = p) || decide (k = q)) := by
    simp [inV, eqV]
    rw [Bool.eq_iff_iff]
    simp
    constructor
    · rintro (a | a)
      · exact .inl a.symm
      · exact .inr a.symm
    · rintro (a | a)
      · exact .inl a.symm
      · exact .inr a.symm
  simp [opInB, pD, flatD, optAll, this]
theorem sort_two {i j : Int} : sortO (fun a b => decide (a < b)) [i, j] = if j < i then [j, i] else [i, j] := by
  simp [sortO, insO]
theorem sort_three {a b c : Int} (h1 : a ≤ b ∨ c ≤ b) (h2 : b ≤ a ∨ c ≤ a) (h3 : a ≤ c ∨ b ≤ c) : ∃ x w : Int, sortO (fun a b => decide (a < b)) [a, b, c] = [x, x, w] := by
  simp only [sortO, insO, List.foldl_cons, List.foldl_nil]
  by_cases e1 : b < a
  · by_cases e2 : c < b
    · omega
    · have : c = b := by omega
      subst this
      refine ⟨c, a, ?_⟩
      simp [e1, insO]
  · by_cases e2 : c < a
    · have : a = b := by omega
      subst this
      omega
    · by_cases e3 : c < b
      · have : a = c := by omega
        subst this
        refine ⟨a, b, ?_⟩
        simp [e1, insO, e3]
      · have : a = b := by omega
        subst this
        refine ⟨a, c, ?_⟩
        simp [insO, e2]
theorem sorted_ints {h : HC} {n : Nat} {is : List Int} (q : h[n]? = some (.lst (is.map D.int))) (hl : (sortO (fun a b => decide (a < b)) is).length ≤ BIG) : bSorted [.ref n] h = .ok (.ref h.length) (h ++ [.lst ((sortO (fun a b => decide (a < b)) is).map D.int)]) := by
  simp only [bSorted, asSeq_of q, intsD_map]
  exact newL_ok' (by simpa using hl)
theorem P2_len8 {bss : List (List Bool)} (hb : bss.length ≤ 8) : ∀ l : List Nat, (l.flatMap (P2 bss)).length ≤ 8 * l.length
  | [] => by simp
  | j :: l => by
    have := P2_len8 hb l
    have h1 := List.length_filter_le (fun k => E2 bss j k) ((List.range (bss.length - (j + 1))).map fun k => j + 1 + k)
    have h2 : (P2 bss j).length ≤ 8 := by simp [P2] at h1 ⊢; omega
    simp only [List.flatMap_cons, List.length_append, List.length_cons]
    omega
theorem mistaken_in {h : HC} {zs : List Str} {b : Bool} {k : Int} {n p q : Nat} {z y : Str} (S : IsS zs b k) (hn : n ≤ 400) (hp : zs[p]? = some z) (hq : zs[q]? = some y) (hpq : p < q) :
    ∃ d h', m_mistaken [setD zs b k, .int (n : Int)] h = .ok d h' ∧ Le h h' ∧ opIn (pD ((p : Int), (q : Int))) d h' = .ok (.bl (decide (n < LL z y))) h' ∧ opNotIn (pD ((p : Int), (q : Int))) d h' = .ok (.bl (!decide (n < LL z y))) h' := by
  obtain ⟨d, h', e, l, x⟩ := mistaken_ok (h := h) S hn
  have hzy : z ≠ y := apart_ne S.nd hp hq (by omega)
  have hh : decide (((p : Int), (q : Int)) ∈ mk (zs.map (rg · n))) = decide (n < LL z y) := by
    rw [Bool.eq_iff_iff, decide_eq_true_iff, decide_eq_true_iff, mk_pair hp hq hpq hn, CA_lt (S.cd z (List.mem_of_getElem? hp)) (S.cd y (List.mem_of_getElem? hq)) hzy, decide_eq_true_iff]
  refine ⟨d, h', e, l, ?_, ?_⟩
  · rw [in_LP x, hh]
  · rw [notIn_LP x, hh]
section
variable {ns : List Int} {zs : List Str} {b : Bool} {k : Int}
/-- one house of the last loop -/
theorem house_step {A B C P T : D} {t8 t9 t11 : Option D} {i : Nat} {z : Str} {h : HC} (S : IsS zs b k) (hi : zs[i]? = some z) :
    ∃ t11' h', (fSeq (fSet 11 (fLc (fItR1 (fVar 2)) [14] (gN 14) (fBo (fOp opNe (fVar 14) (fVar 10))) (fCall 3 m_apart_behind (fCons (fVar 1) (fCons (fVar 10) (fCons (fVar 14) fNil))))))
    (fIfS (fBo (fOp opNe (fCall 2 m_sure_behind (fCons (fVar 1) (fCons (fVar 10) fNil))) (fCl bMax (fCons (fVar 11) fNil)))) (fRet (fC (.bl false))) fNx))
      [some (.scr ns), some (setD zs b k), some (.int (zs.length : Int)), some A, some B, some C, some P, some T, t8, t9, some (.int (i : Int)), t11, none, none, none] h =
      .nx [some (.scr ns), some (setD zs b k), some (.int (zs.length : Int)), some A, some B, some C, some P, some T, t8, t9, some (.int (i : Int)), t11', none, none, none] h' ∧ Le h h' := by
  have hb : zs.length ≤ BIG := Nat.le_trans S.hi (by decide)
  obtain ⟨h1, e1, l1⟩ := lcLoop_fn (fun m : Nat => D.int (m : Int)) (G := []) (g := gN 14) (c := fBo (fOp opNe (fVar 14) (fVar 10))) (a := fCall 3 m_apart_behind (fCons (fVar 1) (fCons (fVar 10) (fCons (fVar 14) fNil))))
    (s := [some (.scr ns), some (setD zs b k), some (.int (zs.length : Int)), some A, some B, some C, some P, some T, t8, t9, some (.int (i : Int)), t11, none, none, none]) (h0 := h) (fun m => !decide (m = i)) (fun m => .int ((LL z (zs.getD m "") : Nat) : Int)) (fun _ _ => rfl) (List.range zs.length) h Le.refl (by simpa using hb)
    (fun m hm h l => by
      have hm2 : m < zs.length := List.mem_range.mp hm
      refine ⟨_, h, rfl, ?_, Le.refl, fun hp => ?_⟩
      · simp
        omega
      · have hne : i ≠ m := by simp at hp; omega
        have hz : zs[m]? = some (zs.getD m "") := by simp [List.getElem?_eq_getElem hm2]
        obtain ⟨h2, e2, l2⟩ := apart_ok (h := h) S hi hz hne
        exact ⟨h2, by simp only [fCall_ap, fCons_ap, fNil_ap, fVar_ap, bind_ok, List.getElem?_cons_succ, List.getElem?_cons_zero, List.set_cons_succ, List.set_cons_zero, List.length_cons, List.length_nil, if_true, e2], l2⟩)
  have hL : (List.map (fun m : Nat => D.int ((LL z (zs.getD m "") : Nat) : Int)) (List.filter (fun m => !decide (m = i)) (List.range zs.length))) = (nums zs i z).map D.int := by simp [nums, numN]
  rw [hL] at e1
  obtain ⟨h2, e2, l2⟩ := sure_ok (h := h1 ++ [.lst ((nums zs i z).map D.int)]) S hi
  rw [sure_max S hi] at e2
  have q : h2[h1.length]? = some (.lst ((nums zs i z).map D.int)) := l2.get last_get
  have e3 : bMax [.ref h1.length] h2 = .ok (.int (maxI (nums zs i z))) h2 := by
    simp only [bMax, asSeq_of q, intsD_map]
    cases e : nums zs i z with
    | nil => exact absurd e (nums_ne S)
    | cons x l => rfl
  refine ⟨some (.ref h1.length), h2, ?_, (l1.trans Le.app).trans l2⟩
  simp only [fSeq_ap, fSet_ap, fLc_ap, fItR1_ap, fVar_ap, bind_ok, ofR_ok, List.getElem?_cons_succ, List.getElem?_cons_zero, List.set_cons_succ, List.set_cons_zero, itR1_nat hb, wipeD, e1, fIfS_ap, fBo_ap, fOp_ap, fCall_ap, fCons_ap, fNil_ap, fCl_ap, List.length_cons, List.length_nil, if_true, e2, e3]
  simp
/-- of three -/
theorem three_step {i j p q : Nat} {z y : Str} {T : D} {h : HC} (S : IsS zs b k) (hi : zs[i]? = some z) (hj : zs[j]? = some y) (hij : i ≠ j) (hpq : (p = i ∧ q = j) ∨ (p = j ∧ q = i)) :
    ∃ t8 t9 h', (fIfS (fBo (fOp opGt (fVar 2) (fC (.int 2)))) (fSeq (fSet 8 (fOp opIx (fLc (fItR1 (fVar 2)) [10] (gN 10) (fBo (fOp opNotIn (fVar 10) (fVar 6))) (fVar 10)) (fC (.int 0))))
    (fSeq (fSet 9 (fCl bSorted (fCons (fLst (fCons (fVar 5) (fCons (fCall 3 m_apart_behind (fCons (fVar 1) (fCons (fVar 3) (fCons (fVar 8) fNil)))) (fCons (fCall 3 m_apart_behind (fCons (fVar 1) (fCons (fVar 4) (fCons (fVar 8) fNil)))) fNil)))) fNil)))
    (fIfS (fBo (fOp opNe (fOp opIx (fVar 9) (fC (.int 0))) (fOp opIx (fVar 9) (fC (.int 1))))) (fRet (fC (.bl false))) fNx))) fNx)
      [some (.scr ns), some (setD zs b k), some (.int (zs.length : Int)), some (.int (i : Int)), some (.int (j : Int)), some (.int (LL z y : Nat)), some (pD ((p : Int), (q : Int))), some T, none, none, none, none, none, none, none] h =
      .nx [some (.scr ns), some (setD zs b k), some (.int (zs.length : Int)), some (.int (i : Int)), some (.int (j : Int)), some (.int (LL z y : Nat)), some (pD ((p : Int), (q : Int))), some T, t8, t9, none, none, none, none, none] h' ∧ Le h h' := by
  have hb : zs.length ≤ BIG := Nat.le_trans S.hi (by decide)
  have hlo := S.lo
  have hz := S.cd z (List.mem_of_getElem? hi)
  have hy := S.cd y (List.mem_of_getElem? hj)
  have hzy : z ≠ y := apart_ne S.nd hi hj hij
  by_cases h2 : 2 < zs.length
  · obtain ⟨h1, e1, l1⟩ := lcLoop_fn (fun m : Nat => D.int (m : Int)) (G := []) (g := gN 10) (c := fBo (fOp opNotIn (fVar 10) (fVar 6))) (a := fVar 10)
      (s := [some (.scr ns), some (setD zs b k), some (.int (zs.length : Int)), some (.int (i : Int)), some (.int (j : Int)), some (.int (LL z y : Nat)), some (pD ((p : Int), (q : Int))), some T, none, none, none, none, none, none, none]) (h0 := h)
      (fun m => !(decide ((m : Int) = (p : Int)) || decide ((m : Int) = (q : Int)))) (fun m => .int (m : Int)) (fun _ _ => rfl) (List.range zs.length) h Le.refl (by simpa using hb)
      (fun m hm h l => by
        refine ⟨_, h, rfl, ?_, Le.refl, fun hp => ⟨h, by simp, Le.refl⟩⟩
        simp only [fBo_ap, fOp_ap, fVar_ap, bind_ok, List.getElem?_cons_succ, List.getElem?_cons_zero, List.set_cons_succ, List.set_cons_zero, notIn_two])
    obtain ⟨w, r, hw⟩ : ∃ w r, (List.range zs.length).filter (fun m : Nat => !(decide ((m : Int) = (p : Int)) || decide ((m : Int) = (q : Int)))) = w :: r := by
      cases hf : (List.range zs.length).filter (fun m : Nat => !(decide ((m : Int) = (p : Int)) || decide ((m : Int) = (q : Int)))) with
      | cons w r => exact ⟨w, r, rfl⟩
      | nil =>
        rw [List.filter_eq_nil_iff] at hf
        have f0 := hf 0 (by simp; omega)
        have f1 := hf 1 (by simp; omega)
        have f2 := hf 2 (by simp; omega)
        simp at f0 f1 f2
        omega
    have hwm : w ∈ (List.range zs.length).filter (fun m : Nat => !(decide ((m : Int) = (p : Int)) || decide ((m : Int) = (q : Int)))) := by rw [hw]; simp
    have hw1 : w < zs.length := by
      have := (List.mem_filter.mp hwm).1
      simpa using this
    have hw2 : w ≠ p ∧ w ≠ q := by
      have := (List.mem_filter.mp hwm).2
      simp at this
      omega
    have hwi : i ≠ w := by omega
    have hwj : j ≠ w := by omega
    obtain ⟨v, hv⟩ : ∃ v, zs[w]? = some v := ⟨_, List.getElem?_eq_getElem hw1⟩
    have hvc := S.cd v (List.mem_of_getElem? hv)
    have hzv : z ≠ v := apart_ne S.nd hi hv hwi
    have hyv : y ≠ v := apart_ne S.nd hj hv hwj
    rw [hw] at e1
    obtain ⟨h3, e3, l3⟩ := apart_ok (h := h1 ++ [.lst ((w :: r).map fun m : Nat => D.int (m : Int))]) S hi hv hwi
    obtain ⟨h4, e4, l4⟩ := apart_ok (h := h3) S hj hv hwj
    have u1 := LL_ultra hz hy hvc hzy hzv hyv
    have u2 := LL_ultra hz hvc hy hzv hzy (Ne.symm hyv)
    have u3 := LL_ultra hy hvc hz hyv (Ne.symm hzy) (Ne.symm hzv)
    rw [LL_comm (z := v) (y := y)] at u2
    rw [LL_comm (z := y) (y := z), LL_comm (z := v) (y := z)] at u3
    obtain ⟨x, x3, ex⟩ := sort_three (a := ((LL z y : Nat) : Int)) (b := ((LL z v : Nat) : Int)) (c := ((LL y v : Nat) : Int)) (by omega) (by omega) (by omega)
    have e5 := sorted_ints (h := h4 ++ [.lst [.int ((LL z y : Nat) : Int), .int ((LL z v : Nat) : Int), .int ((LL y v : Nat) : Int)]]) (n := h4.length) (is := [((LL z y : Nat) : Int), ((LL z v : Nat) : Int), ((LL y v : Nat) : Int)]) last_get (by rw [ex]; simp)
    rw [ex] at e5
    refine ⟨some (.int (w : Int)), some (.ref (h4 ++ [Cell.lst [.int ((LL z y : Nat) : Int), .int ((LL z v : Nat) : Int), .int ((LL y v : Nat) : Int)]]).length), (h4 ++ [Cell.lst [.int ((LL z y : Nat) : Int), .int ((LL z v : Nat) : Int), .int ((LL y v : Nat) : Int)]]) ++ [.lst [.int x, .int x, .int x3]], ?_, (((((l1.trans Le.app).trans l3).trans l4).trans Le.app).trans Le.app)⟩
    have q1 : (h1 ++ [Cell.lst ((w :: r).map fun m : Nat => D.int (m : Int))])[h1.length]? = some (.lst ((w :: r).map fun m : Nat => D.int (m : Int))) := last_get
    have hn := newL_ok' (h := h4) (xs := [D.int ((LL z y : Nat) : Int), .int ((LL z v : Nat) : Int), .int ((LL y v : Nat) : Int)]) (by simp)
    have q2 := last_get (h := h4 ++ [Cell.lst [.int ((LL z y : Nat) : Int), .int ((LL z v : Nat) : Int), .int ((LL y v : Nat) : Int)]]) (c := .lst [.int x, .int x, .int x3])
    simp only [List.map_cons, List.map_nil] at e1 e3 e5 q1
    simp only [fIfS_ap, fBo_ap, fOp_ap, fVar_ap, fC_ap, bind_ok, ofR_ok, List.getElem?_cons_succ, List.getElem?_cons_zero, cmpI, show decide ((2 : Int) < (zs.length : Int)) = true from decide_eq_true (by omega), if_true, fSeq_ap, fSet_ap, fLc_ap, fItR1_ap, itR1_nat hb, wipeD, List.set_cons_succ, List.set_cons_zero, List.map_cons, e1, ixR, asSeq_of q1, atI_c0, fCl_ap, fCons_ap, fNil_ap, fLst_ap, fCall_ap, List.length_cons, List.length_nil, e3, e4, hn, e5, asSeq_of q2, atI_c1, neI]
    simp
  · refine ⟨none, none, h, ?_, Le.refl⟩
    simp [show ¬ ((2 : Int) < (zs.length : Int)) by omega]
end
theorem plain (ns : List Int) (hl : ns.length ≤ 63) : ∃ h', m_law [.scr ns] [] = .ok (.bl true) h' := by
  have c0 := cell_ok (h := []) (ns := ns) (k := 0)
  simp only [show ((0 : Nat) : Int) = 0 from rfl] at c0
  obtain ⟨v, e1, _, _⟩ := seed_ok (h := []) (s := cellv ns 0) (k := 0)
  obtain ⟨zs, b, k, h1, e2, l1, S⟩ := setting_ok (h := []) (s := v)
  obtain ⟨i, j, e3, hi, hj, hij⟩ := pair_ok (h := h1) (ns := ns) (at_ := 1) S
  simp only [show ((1 : Nat) : Int) = 1 from rfl] at e3
  obtain ⟨z, hz⟩ : ∃ z, zs[i]? = some z := ⟨_, List.getElem?_eq_getElem hi⟩
  obtain ⟨y, hy⟩ : ∃ y, zs[j]? = some y := ⟨_, List.getElem?_eq_getElem hj⟩
  have hzc := S.cd z (List.mem_of_getElem? hz)
  have hyc := S.cd y (List.mem_of_getElem? hy)
  have hne : z ≠ y := apart_ne S.nd hz hy hij
  obtain ⟨h2, e4, l2⟩ := apart_ok (h := h1) S hz hy hij
  have hL1 := LL_pos hzc hyc hne
  have hL2 := LL_le hzc hyc hne
  -- the pair in order
  obtain ⟨p, q, zp, yq, hpq, hor, hzp, hyq, hsort, hLL⟩ : ∃ (p q : Nat) (zp yq : Str), p < q ∧ ((p = i ∧ q = j) ∨ (p = j ∧ q = i)) ∧ zs[p]? = some zp ∧ zs[q]? = some yq ∧ sortO (fun a b => decide (a < b)) [(i : Int), (j : Int)] = [(p : Int), (q : Int)] ∧ LL zp yq = LL z y := by
    by_cases hlt : i < j
    · exact ⟨i, j, z, y, hlt, .inl ⟨rfl, rfl⟩, hz, hy, by rw [sort_two, if_neg (by omega)], rfl⟩
    · exact ⟨j, i, y, z, by omega, .inr ⟨rfl, rfl⟩, hy, hz, by rw [sort_two, if_pos (by omega)], LL_comm⟩
  have n3 := newL_ok' (h := h2) (xs := [D.int (i : Int), .int (j : Int)]) (by simp)
  have e5 := sorted_ints (h := h2 ++ [.lst [.int (i : Int), .int (j : Int)]]) (n := h2.length) (is := [(i : Int), (j : Int)]) last_get (by rw [hsort]; simp)
  rw [hsort] at e5
  obtain ⟨h3, hh3⟩ : ∃ h3, h3 = (h2 ++ [Cell.lst [.int (i : Int), .int (j : Int)]]) ++ [.lst [.int (p : Int), .int (q : Int)]] := ⟨_, rfl⟩
  have q3 : h3[(h2 ++ [Cell.lst [D.int (i : Int), .int (j : Int)]]).length]? = some (.lst [.int (p : Int), .int (q : Int)]) := by rw [hh3]; exact last_get
  simp only [List.map_cons, List.map_nil] at e5
  rw [← hh3] at e5
  have e6 : bTuple [.ref (h2 ++ [Cell.lst [D.int (i : Int), .int (j : Int)]]).length] h3 = .ok (pD ((p : Int), (q : Int))) h3 := by
    simp only [bTuple, asSeq_of q3]
    exact mkT_ok' (by simp)
  obtain ⟨h4, e7, l4⟩ := apart_ok (h := h3) S hy hz (Ne.symm hij)
  rw [show cnt (CA y z) 400 0 = LL z y from LL_comm] at e7
  obtain ⟨d5, h5, e8, l5, e9, _⟩ := mistaken_in (h := h4) (n := LL z y) S hL2 hzp hyq hpq
  obtain ⟨d6, h6, e10, l6, _, e11⟩ := mistaken_in (h := h5) (n := LL z y - 1) S (by omega) hzp hyq hpq
  rw [show ((LL z y - 1 : Nat) : Int) = ((LL z y : Nat) : Int) - 1 by omega] at e10
  obtain ⟨d7, h7, e12, l7, q7⟩ := mistaken_ok (h := h6) (n := 0) S (by decide)
  simp only [show ((0 : Nat) : Int) = 0 from rfl] at e12
  have e13 : bLen [d7] h7 = .ok (.int ((zs.length : Int) * ((zs.length : Int) - 1) / 2)) h7 := by
    obtain ⟨n7, rfl, q7⟩ := q7
    rw [← mk_zero S.lo S.hi]
    simp [asSeq_of q7]
  have c3 := cell_ok (h := h7) (ns := ns) (k := 3)
  simp only [show ((3 : Nat) : Int) = 3 from rfl] at c3
  have m3 := mod_bnd (i := cellv ns 3) (p := 40) (by omega)
  obtain ⟨t, ht⟩ : ∃ t : Nat, cellv ns 3 % 40 = (t : Int) := ⟨(cellv ns 3 % 40).toNat, by omega⟩
  have htl : t ≤ 39 := by omega
  obtain ⟨d8, h8, e14, l8, n8, rfl, q8⟩ := mistaken_ok (h := h7) (n := t + 1) S (by omega)
  rw [show ((t + 1 : Nat) : Int) = (t : Int) + 1 by omega] at e14
  obtain ⟨h9, e15, l9⟩ := lcLoop_fn pD (G := [(n8, .lst ((mk (zs.map (rg · (t + 1)))).map pD))]) (g := gN 13) (c := fBo (fOp opNotIn (fVar 13) (fCall 2 m_mistaken (fCons (fVar 1) (fCons (fVar 7) fNil))))) (a := fVar 13)
    (s := [some (.scr ns), some (setD zs b k), some (.int (zs.length : Int)), some (.int (i : Int)), some (.int (j : Int)), some (.int (LL z y : Nat)), some (pD ((p : Int), (q : Int))), some (.int (t : Int)), none, none, none, none, none, none, none]) (h0 := h8)
    (fun x => !decide (x ∈ mk (zs.map (rg · t)))) pD (fun h l => by simp [chk, l.get q8]) (mk (zs.map (rg · (t + 1)))) h8 Le.refl (by
      have h1 := P2_len8 (bss := zs.map (rg · (t + 1))) (by simpa using S.hi) (List.range zs.length)
      have h2 := S.hi
      have h3 : (mk (zs.map (rg · (t + 1)))).length ≤ 8 * zs.length := by simpa [mk] using h1
      simp only [BIG]
      omega)
    (fun x hx h l => by
      obtain ⟨d, h', e, l', y⟩ := mistaken_ok (h := h) (n := t) S (by omega)
      refine ⟨_, h', rfl, ?_, l', fun _ => ⟨h', by simp, Le.refl⟩⟩
      simp only [fBo_ap, fOp_ap, fCall_ap, fCons_ap, fNil_ap, fVar_ap, bind_ok, List.getElem?_cons_succ, List.getElem?_cons_zero, List.set_cons_succ, List.set_cons_zero, List.length_cons, List.length_nil, if_true, e, notIn_LP y])
  have hnil : (mk (zs.map (rg · (t + 1)))).filter (fun x => !decide (x ∈ mk (zs.map (rg · t)))) = [] := by
    rw [List.filter_eq_nil_iff]
    intro x hx
    simp [mk_sub (by omega) hx]
  rw [hnil, List.map_nil] at e15
  have n9 := newL_ok' (h := h9 ++ [Cell.lst []]) (xs := []) (by simp)
  have e16 := neLP (h := (h9 ++ [Cell.lst []]) ++ [.lst []]) (d := .ref h9.length) (e := .ref (h9 ++ [Cell.lst []]).length) (as := []) (bs := []) ⟨_, rfl, Le.app.get last_get⟩ ⟨_, rfl, last_get⟩
  obtain ⟨h10, hh10⟩ : ∃ h10, h10 = (h9 ++ [Cell.lst []]) ++ [Cell.lst []] := ⟨_, rfl⟩
  rw [← hh10] at n9 e16
  obtain ⟨d11, h11, e17, l11, e18, _⟩ := mistaken_in (h := h10) (n := t) S (by omega) hzp hyq hpq
  rw [hLL] at e9 e11 e18
  obtain ⟨t8, t9, h12, e19, l12⟩ := three_step (ns := ns) (T := .int (t : Int)) (h := h11) S hz hy hij hor
  obtain ⟨s13, h13, e20, ⟨t10, t11, rfl⟩, l13⟩ := forLoop_inv (fun m : Nat => D.int (m : Int)) (G := []) (g := gN 10) (body := (fSeq (fSet 11 (fLc (fItR1 (fVar 2)) [14] (gN 14) (fBo (fOp opNe (fVar 14) (fVar 10))) (fCall 3 m_apart_behind (fCons (fVar 1) (fCons (fVar 10) (fCons (fVar 14) fNil))))))
    (fIfS (fBo (fOp opNe (fCall 2 m_sure_behind (fCons (fVar 1) (fCons (fVar 10) fNil))) (fCl bMax (fCons (fVar 11) fNil)))) (fRet (fC (.bl false))) fNx)))
    (fun l s h' => (∃ t10 t11, s = [some (.scr ns), some (setD zs b k), some (.int (zs.length : Int)), some (.int (i : Int)), some (.int (j : Int)), some (.int (LL z y : Nat)), some (pD ((p : Int), (q : Int))), some (.int (t : Int)), t8, t9, t10, t11, none, none, none]) ∧ Le h12 h') (fun _ _ _ _ => rfl) (List.range zs.length) []
    [some (.scr ns), some (setD zs b k), some (.int (zs.length : Int)), some (.int (i : Int)), some (.int (j : Int)), some (.int (LL z y : Nat)), some (pD ((p : Int), (q : Int))), some (.int (t : Int)), t8, t9, none, none, none, none, none] h12 ⟨⟨_, _, rfl⟩, Le.refl⟩
    (fun l c s h' hp ⟨⟨t10, t11, hs⟩, le⟩ => by
      subst hs
      have hc : c < zs.length := by
        have := hp.subset (show c ∈ l ++ [c] by simp)
        simpa using this
      obtain ⟨t11', h'', e, l⟩ := house_step (ns := ns) (A := .int (i : Int)) (B := .int (j : Int)) (C := .int (LL z y : Nat)) (P := pD ((p : Int), (q : Int))) (T := .int (t : Int)) (t8 := t8) (t9 := t9) (t11 := t11) (h := h') S (List.getElem?_eq_getElem hc)
      exact ⟨_, _, _, rfl, e, ⟨_, _, rfl⟩, le.trans l⟩)
  obtain ⟨h14, e21, l14⟩ := all_sure_ok (h := h13) S
  obtain ⟨n, hn, n1, n2, n3', n4⟩ := last_ok S
  rw [hn] at e21
  obtain ⟨d15, h15, e22, l15, q15⟩ := mistaken_ok (h := h14) (n := n) S n2
  rw [n3'] at q15
  have n15 := newL_ok' (h := h15) (xs := []) (by simp)
  have e23 := eqLP (q15.mono (Le.app (e := [Cell.lst []]))) (e := .ref h15.length) (bs := []) ⟨_, rfl, last_get⟩
  obtain ⟨d16, h16, e24, l16, q16⟩ := mistaken_ok (h := h15 ++ [.lst []]) (n := n - 1) S (by omega)
  rw [show ((n - 1 : Nat) : Int) = (n : Int) - 1 by omega] at e24
  have n16 := newL_ok' (h := h16) (xs := []) (by simp)
  have e25 := neLP (q16.mono (Le.app (e := [Cell.lst []]))) (e := .ref h16.length) (bs := []) ⟨_, rfl, last_get⟩
  have hb : zs.length ≤ BIG := Nat.le_trans S.hi (by decide)
  have hmul : mulOk (zs.length : Int) ((zs.length : Int) - 1) = true := mulOk_l (by have := S.hi; omega) (by have := S.hi; omega)
  refine ⟨h16 ++ [.lst []], ?_⟩
  have hs : (List.map some [D.scr ns] ++ List.replicate (15 - [D.scr ns].length) none : SD) = [some (.scr ns), none, none, none, none, none, none, none, none, none, none, none, none, none, none] := rfl
  have hx : ∀ h, opIx (setD zs b k) (.int 0) h = .ok (.tup (zs.map D.str)) h := fun h => by simp [setD]
  simp only [m_law, fnRun]
  rw [hs]
  simp only [decide_eq_false (Nat.lt_irrefl _)] at e9
  have hd6 : decide (LL z y - 1 < LL z y) = true := decide_eq_true (by omega)
  simp only [hd6, Bool.not_true] at e11
  have hmem : (!decide (mk (zs.map (rg · (n - 1))) = [])) = true := by simp [n4]
  rw [hmem] at e25
  simp only [decide_true, Bool.not_true] at e16 e23
  have hle : decide (decide (t < LL z y) = decide ((t : Int) < ((LL z y : Nat) : Int))) = true := by simp
  generalize hN : (h2 ++ [Cell.lst [D.int (i : Int), .int (j : Int)]]).length = N at e5 e6
  generalize hN9 : (h9 ++ [Cell.lst []]).length = N9 at n9 e16
  generalize hF : (fIfS (fBo (fOp opGt (fVar 2) (fC (.int 2)))) (fSeq (fSet 8 (fOp opIx (fLc (fItR1 (fVar 2)) [10] (gN 10) (fBo (fOp opNotIn (fVar 10) (fVar 6))) (fVar 10)) (fC (.int 0))))
    (fSeq (fSet 9 (fCl bSorted (fCons (fLst (fCons (fVar 5) (fCons (fCall 3 m_apart_behind (fCons (fVar 1) (fCons (fVar 3) (fCons (fVar 8) fNil)))) (fCons (fCall 3 m_apart_behind (fCons (fVar 1) (fCons (fVar 4) (fCons (fVar 8) fNil)))) fNil)))) fNil)))
    (fIfS (fBo (fOp opNe (fOp opIx (fVar 9) (fC (.int 0))) (fOp opIx (fVar 9) (fC (.int 1))))) (fRet (fC (.bl false))) fNx))) fNx) = F3 at e19 ⊢
  simp [-lenR, -newL_ok', c0, e1, e2, hx, e3, e4, n3, e5, e6, e7, e8, e9, e10, e11, e12, e13, hmul, c3, ht, e14, q8, wipeD, e15, n9, e16, e17, e18, neB, e19, hb, e20, e21, e22, n15, e23, e24, n16, e25]
end G9


set_option Elab.async false
set_option linter.all false
set_option maxRecDepth 100000
set_option maxHeartbeats 0
namespace G9
open PySem PySem.Spec PyProof.Rows L2

def topS (i : Nat) : Stmt := PySem.Challenge.pw_ringhouses_k14_whole_apart.main.body.getD i (.Pass ⟨0, 0, 0, 0⟩)
abbrev s_is_within : Stmt := topS 10
abbrev nm_is_within : List Str := ["thing", "low", "high"]
abbrev s_is_code : Stmt := topS 11
abbrev nm_is_code : List Str := ["thing", "sign"]
abbrev s_is_setting : Stmt := topS 12
abbrev nm_is_setting : List Str := ["thing", "code"]
abbrev s_look : Stmt := topS 13
abbrev nm_look : List Str := ["setting"]
abbrev s_look_house : Stmt := topS 14
abbrev nm_look_house : List Str := ["setting", "house"]
abbrev s_beats : Stmt := topS 15
abbrev nm_beats : List Str := ["code", "found", "sign"]
abbrev s_ring : Stmt := topS 16
abbrev nm_ring : List Str := ["code", "ticks", "one", "tick"]
abbrev s_meant : Stmt := topS 17
abbrev nm_meant : List Str := ["setting", "row", "one", "house", "code"]
abbrev s_sure_behind : Stmt := topS 18
abbrev nm_sure_behind : List Str := ["setting", "house", "row", "ticks"]
abbrev s_apart_behind : Stmt := topS 21
abbrev nm_apart_behind : List Str := ["setting", "one", "other", "mine", "theirs", "ticks"]
abbrev s_mistaken : Stmt := topS 22
abbrev nm_mistaken : List Str := ["setting", "ticks", "rows", "found", "other", "code", "one"]
abbrev s_all_sure_behind : Stmt := topS 23
abbrev nm_all_sure_behind : List Str := ["setting", "house"]
abbrev s_law_cell : Stmt := topS 25
abbrev nm_law_cell : List Str := ["script", "k"]
abbrev s_law_mix : Stmt := topS 26
abbrev nm_law_mix : List Str := ["cell", "prime", "many"]
abbrev s_law_seed : Stmt := topS 27
abbrev nm_law_seed : List Str := ["seed", "k"]
abbrev s_law_pick : Stmt := topS 28
abbrev nm_law_pick : List Str := ["seed", "many"]
abbrev s_law_code : Stmt := topS 29
abbrev nm_law_code : List Str := ["seed", "k"]
abbrev s_law_setting : Stmt := topS 30
abbrev nm_law_setting : List Str := ["seed", "codes", "k", "code"]
abbrev s_law_pair : Stmt := topS 31
abbrev nm_law_pair : List Str := ["setting", "script", "at", "many", "one", "other"]
abbrev s_law : Stmt := topS 32
abbrev nm_law : List Str := ["script", "setting", "many", "one", "other", "behind", "pair", "ticks", "third", "three", "house", "numbers", "last", "two", "more"]
/-- what the top has written -/
structure Ctx (K : PySem.W.Frag) (mg : Str → Option Value) : Prop where
  b_bool : mg "bool" = none
  b_enumerate : mg "enumerate" = none
  b_int : mg "int" = none
  b_isinstance : mg "isinstance" = none
  b_len : mg "len" = none
  b_list : mg "list" = none
  b_max : mg "max" = none
  b_range : mg "range" = none
  b_set : mg "set" = none
  b_sorted : mg "sorted" = none
  b_str : mg "str" = none
  b_tuple : mg "tuple" = none
  c_LONG : ∃ t, mg "LONG" = some (.int 3 t)
  c_MOST_SIGNS : ∃ t, mg "MOST_SIGNS" = some (.int 4 t)
  c_MOST_TICKS : ∃ t, mg "MOST_TICKS" = some (.int 400 t)
  c_REST : ∃ t, mg "REST" = some (.int 4 t)
  e_NoCode : ExF K mg "NoCode"
  e_NoCount : ExF K mg "NoCount"
  e_NoHouse : ExF K mg "NoHouse"
  e_NoSetting : ExF K mg "NoSetting"
  g_is_within : mg "is_within" = some (.ref (He.ga K "is_within"))
  g_is_code : mg "is_code" = some (.ref (He.ga K "is_code"))
  g_is_setting : mg "is_setting" = some (.ref (He.ga K "is_setting"))
  g_look : mg "look" = some (.ref (He.ga K "look"))
  g_look_house : mg "look_house" = some (.ref (He.ga K "look_house"))
  g_beats : mg "beats" = some (.ref (He.ga K "beats"))
  g_ring : mg "ring" = some (.ref (He.ga K "ring"))
  g_meant : mg "meant" = some (.ref (He.ga K "meant"))
  g_sure_behind : mg "sure_behind" = some (.ref (He.ga K "sure_behind"))
  g_apart_behind : mg "apart_behind" = some (.ref (He.ga K "apart_behind"))
  g_mistaken : mg "mistaken" = some (.ref (He.ga K "mistaken"))
  g_all_sure_behind : mg "all_sure_behind" = some (.ref (He.ga K "all_sure_behind"))
  g_law_cell : mg "_law_cell" = some (.ref (He.ga K "_law_cell"))
  g_law_mix : mg "_law_mix" = some (.ref (He.ga K "_law_mix"))
  g_law_seed : mg "_law_seed" = some (.ref (He.ga K "_law_seed"))
  g_law_pick : mg "_law_pick" = some (.ref (He.ga K "_law_pick"))
  g_law_code : mg "_law_code" = some (.ref (He.ga K "_law_code"))
  g_law_setting : mg "_law_setting" = some (.ref (He.ga K "_law_setting"))
  g_law_pair : mg "_law_pair" = some (.ref (He.ga K "_law_pair"))
  g_law : mg "law" = some (.ref (He.ga K "law"))
  f_is_within : ∃ fd, FunD K "is_within" "is_within" (defArgs s_is_within) (defBody s_is_within) (defScope s_is_within) [] [] (He.ga K "is_within") fd
  f_is_code : ∃ fd, FunD K "is_code" "is_code" (defArgs s_is_code) (defBody s_is_code) (defScope s_is_code) [] [] (He.ga K "is_code") fd
  f_is_setting : ∃ fd, FunD K "is_setting" "is_setting" (defArgs s_is_setting) (defBody s_is_setting) (defScope s_is_setting) [] [] (He.ga K "is_setting") fd
  f_look : ∃ fd, FunD K "look" "look" (defArgs s_look) (defBody s_look) (defScope s_look) [] [] (He.ga K "look") fd
  f_look_house : ∃ fd, FunD K "look_house" "look_house" (defArgs s_look_house) (defBody s_look_house) (defScope s_look_house) [] [] (He.ga K "look_house") fd
  f_beats : ∃ fd, FunD K "beats" "beats" (defArgs s_beats) (defBody s_beats) (defScope s_beats) [] [] (He.ga K "beats") fd
  f_ring : ∃ fd, FunD K "ring" "ring" (defArgs s_ring) (defBody s_ring) (defScope s_ring) [] [] (He.ga K "ring") fd
  f_meant : ∃ fd, FunD K "meant" "meant" (defArgs s_meant) (defBody s_meant) (defScope s_meant) [] [] (He.ga K "meant") fd
  f_sure_behind : ∃ fd, FunD K "sure_behind" "sure_behind" (defArgs s_sure_behind) (defBody s_sure_behind) (defScope s_sure_behind) [] [] (He.ga K "sure_behind") fd
  f_apart_behind : ∃ fd, FunD K "apart_behind" "apart_behind" (defArgs s_apart_behind) (defBody s_apart_behind) (defScope s_apart_behind) [] [] (He.ga K "apart_behind") fd
  f_mistaken : ∃ fd, FunD K "mistaken" "mistaken" (defArgs s_mistaken) (defBody s_mistaken) (defScope s_mistaken) [] [] (He.ga K "mistaken") fd
  f_all_sure_behind : ∃ fd, FunD K "all_sure_behind" "all_sure_behind" (defArgs s_all_sure_behind) (defBody s_all_sure_behind) (defScope s_all_sure_behind) [] [] (He.ga K "all_sure_behind") fd
  f_law_cell : ∃ fd, FunD K "_law_cell" "_law_cell" (defArgs s_law_cell) (defBody s_law_cell) (defScope s_law_cell) [] [] (He.ga K "_law_cell") fd
  f_law_mix : ∃ fd, FunD K "_law_mix" "_law_mix" (defArgs s_law_mix) (defBody s_law_mix) (defScope s_law_mix) [] [] (He.ga K "_law_mix") fd
  f_law_seed : ∃ fd, FunD K "_law_seed" "_law_seed" (defArgs s_law_seed) (defBody s_law_seed) (defScope s_law_seed) [] [] (He.ga K "_law_seed") fd
  f_law_pick : ∃ fd, FunD K "_law_pick" "_law_pick" (defArgs s_law_pick) (defBody s_law_pick) (defScope s_law_pick) [] [] (He.ga K "_law_pick") fd
  f_law_code : ∃ fd, FunD K "_law_code" "_law_code" (defArgs s_law_code) (defBody s_law_code) (defScope s_law_code) [] [] (He.ga K "_law_code") fd
  f_law_setting : ∃ fd, FunD K "_law_setting" "_law_setting" (defArgs s_law_setting) (defBody s_law_setting) (defScope s_law_setting) [] [] (He.ga K "_law_setting") fd
  f_law_pair : ∃ fd, FunD K "_law_pair" "_law_pair" (defArgs s_law_pair) (defBody s_law_pair) (defScope s_law_pair) [] [] (He.ga K "_law_pair") fd
  f_law : ∃ fd, FunD K "law" "law" (defArgs s_law) (defBody s_law) (defScope s_law) [] [] (He.ga K "law") fd
def d_is_within : He.DefD := ⟨("is_within", none), "is_within", "is_within", defArgs s_is_within, defBody s_is_within, defScope s_is_within, [], []⟩
def d_is_code : He.DefD := ⟨("is_code", none), "is_code", "is_code", defArgs s_is_code, defBody s_is_code, defScope s_is_code, [], []⟩
def d_is_setting : He.DefD := ⟨("is_setting", none), "is_setting", "is_setting", defArgs s_is_setting, defBody s_is_setting, defScope s_is_setting, [], []⟩
def d_look : He.DefD := ⟨("look", none), "look", "look", defArgs s_look, defBody s_look, defScope s_look, [], []⟩
def d_look_house : He.DefD := ⟨("look_house", none), "look_house", "look_house", defArgs s_look_house, defBody s_look_house, defScope s_look_house, [], []⟩
def d_beats : He.DefD := ⟨("beats", none), "beats", "beats", defArgs s_beats, defBody s_beats, defScope s_beats, [], []⟩
def d_ring : He.DefD := ⟨("ring", none), "ring", "ring", defArgs s_ring, defBody s_ring, defScope s_ring, [], []⟩
def d_meant : He.DefD := ⟨("meant", none), "meant", "meant", defArgs s_meant, defBody s_meant, defScope s_meant, [], []⟩
def d_sure_behind : He.DefD := ⟨("sure_behind", none), "sure_behind", "sure_behind", defArgs s_sure_behind, defBody s_sure_behind, defScope s_sure_behind, [], []⟩
def d_apart_behind : He.DefD := ⟨("apart_behind", none), "apart_behind", "apart_behind", defArgs s_apart_behind, defBody s_apart_behind, defScope s_apart_behind, [], []⟩
def d_mistaken : He.DefD := ⟨("mistaken", none), "mistaken", "mistaken", defArgs s_mistaken, defBody s_mistaken, defScope s_mistaken, [], []⟩
def d_all_sure_behind : He.DefD := ⟨("all_sure_behind", none), "all_sure_behind", "all_sure_behind", defArgs s_all_sure_behind, defBody s_all_sure_behind, defScope s_all_sure_behind, [], []⟩
def d_law_cell : He.DefD := ⟨("_law_cell", none), "_law_cell", "_law_cell", defArgs s_law_cell, defBody s_law_cell, defScope s_law_cell, [], []⟩
def d_law_mix : He.DefD := ⟨("_law_mix", none), "_law_mix", "_law_mix", defArgs s_law_mix, defBody s_law_mix, defScope s_law_mix, [], []⟩
def d_law_seed : He.DefD := ⟨("_law_seed", none), "_law_seed", "_law_seed", defArgs s_law_seed, defBody s_law_seed, defScope s_law_seed, [], []⟩
def d_law_pick : He.DefD := ⟨("_law_pick", none), "_law_pick", "_law_pick", defArgs s_law_pick, defBody s_law_pick, defScope s_law_pick, [], []⟩
def d_law_code : He.DefD := ⟨("_law_code", none), "_law_code", "_law_code", defArgs s_law_code, defBody s_law_code, defScope s_law_code, [], []⟩
def d_law_setting : He.DefD := ⟨("_law_setting", none), "_law_setting", "_law_setting", defArgs s_law_setting, defBody s_law_setting, defScope s_law_setting, [], []⟩
def d_law_pair : He.DefD := ⟨("_law_pair", none), "_law_pair", "_law_pair", defArgs s_law_pair, defBody s_law_pair, defScope s_law_pair, [], []⟩
def d_law : He.DefD := ⟨("law", none), "law", "law", defArgs s_law, defBody s_law, defScope s_law, [], []⟩
def fns : List He.DefD := [d_is_within, d_is_code, d_is_setting, d_look, d_look_house, d_beats, d_ring, d_meant, d_sure_behind, d_apart_behind, d_mistaken, d_all_sure_behind, d_law_cell, d_law_mix, d_law_seed, d_law_pick, d_law_code, d_law_setting, d_law_pair, d_law]
def fas : List He.Fa := [.free "bool", .free "enumerate", .free "int", .free "isinstance", .free "len", .free "list", .free "max", .free "range", .free "set", .free "sorted", .free "str", .free "tuple", .int "LONG" 3, .int "MOST_SIGNS" 4, .int "MOST_TICKS" 400, .int "REST" 4, .glo "NoCode", .exc "NoCode", .glo "NoCount", .exc "NoCount", .glo "NoHouse", .exc "NoHouse", .glo "NoSetting", .exc "NoSetting", .glo "is_within", .glo "is_code", .glo "is_setting", .glo "look", .glo "look_house", .glo "beats", .glo "ring", .glo "meant", .glo "sure_behind", .glo "apart_behind", .glo "mistaken", .glo "all_sure_behind", .glo "_law_cell", .glo "_law_mix", .glo "_law_seed", .glo "_law_pick", .glo "_law_code", .glo "_law_setting", .glo "_law_pair", .glo "law"]
theorem ctx_of {K : PySem.W.Frag} {h : Heap} {mg : Str → Option Value} (X : K.In h) (G : h.Ns mainGlobals mg) (c : He.SaysD fas fns K) : Ctx K mg :=
  ⟨He.free_ok X G (c.fact 0 (f := .free "bool") rfl),
   He.free_ok X G (c.fact 1 (f := .free "enumerate") rfl),
   He.free_ok X G (c.fact 2 (f := .free "int") rfl),
   He.free_ok X G (c.fact 3 (f := .free "isinstance") rfl),
   He.free_ok X G (c.fact 4 (f := .free "len") rfl),
   He.free_ok X G (c.fact 5 (f := .free "list") rfl),
   He.free_ok X G (c.fact 6 (f := .free "max") rfl),
   He.free_ok X G (c.fact 7 (f := .free "range") rfl),
   He.free_ok X G (c.fact 8 (f := .free "set") rfl),
   He.free_ok X G (c.fact 9 (f := .free "sorted") rfl),
   He.free_ok X G (c.fact 10 (f := .free "str") rfl),
   He.free_ok X G (c.fact 11 (f := .free "tuple") rfl),
   He.int_ok X G (c.fact 12 (f := .int "LONG" 3) rfl),
   He.int_ok X G (c.fact 13 (f := .int "MOST_SIGNS" 4) rfl),
   He.int_ok X G (c.fact 14 (f := .int "MOST_TICKS" 400) rfl),
   He.int_ok X G (c.fact 15 (f := .int "REST" 4) rfl),
   exf_of X G (c.fact 16 (f := .glo "NoCode") rfl) (c.fact 17 (f := .exc "NoCode") rfl),
   exf_of X G (c.fact 18 (f := .glo "NoCount") rfl) (c.fact 19 (f := .exc "NoCount") rfl),
   exf_of X G (c.fact 20 (f := .glo "NoHouse") rfl) (c.fact 21 (f := .exc "NoHouse") rfl),
   exf_of X G (c.fact 22 (f := .glo "NoSetting") rfl) (c.fact 23 (f := .exc "NoSetting") rfl),
   He.glo_ok X G (c.fact 24 (f := .glo "is_within") rfl),
   He.glo_ok X G (c.fact 25 (f := .glo "is_code") rfl),
   He.glo_ok X G (c.fact 26 (f := .glo "is_setting") rfl),
   He.glo_ok X G (c.fact 27 (f := .glo "look") rfl),
   He.glo_ok X G (c.fact 28 (f := .glo "look_house") rfl),
   He.glo_ok X G (c.fact 29 (f := .glo "beats") rfl),
   He.glo_ok X G (c.fact 30 (f := .glo "ring") rfl),
   He.glo_ok X G (c.fact 31 (f := .glo "meant") rfl),
   He.glo_ok X G (c.fact 32 (f := .glo "sure_behind") rfl),
   He.glo_ok X G (c.fact 33 (f := .glo "apart_behind") rfl),
   He.glo_ok X G (c.fact 34 (f := .glo "mistaken") rfl),
   He.glo_ok X G (c.fact 35 (f := .glo "all_sure_behind") rfl),
   He.glo_ok X G (c.fact 36 (f := .glo "_law_cell") rfl),
   He.glo_ok X G (c.fact 37 (f := .glo "_law_mix") rfl),
   He.glo_ok X G (c.fact 38 (f := .glo "_law_seed") rfl),
   He.glo_ok X G (c.fact 39 (f := .glo "_law_pick") rfl),
   He.glo_ok X G (c.fact 40 (f := .glo "_law_code") rfl),
   He.glo_ok X G (c.fact 41 (f := .glo "_law_setting") rfl),
   He.glo_ok X G (c.fact 42 (f := .glo "_law_pair") rfl),
   He.glo_ok X G (c.fact 43 (f := .glo "law") rfl),
   c.def_ 0 (d := d_is_within) rfl,
   c.def_ 1 (d := d_is_code) rfl,
   c.def_ 2 (d := d_is_setting) rfl,
   c.def_ 3 (d := d_look) rfl,
   c.def_ 4 (d := d_look_house) rfl,
   c.def_ 5 (d := d_beats) rfl,
   c.def_ 6 (d := d_ring) rfl,
   c.def_ 7 (d := d_meant) rfl,
   c.def_ 8 (d := d_sure_behind) rfl,
   c.def_ 9 (d := d_apart_behind) rfl,
   c.def_ 10 (d := d_mistaken) rfl,
   c.def_ 11 (d := d_all_sure_behind) rfl,
   c.def_ 12 (d := d_law_cell) rfl,
   c.def_ 13 (d := d_law_mix) rfl,
   c.def_ 14 (d := d_law_seed) rfl,
   c.def_ 15 (d := d_law_pick) rfl,
   c.def_ 16 (d := d_law_code) rfl,
   c.def_ 17 (d := d_law_setting) rfl,
   c.def_ 18 (d := d_law_pair) rfl,
   c.def_ 19 (d := d_law) rfl⟩
theorem sc_is_within : FnScope nm_is_within ["thing", "low", "high"] (defScope s_is_within) := ⟨rfl, rfl, rfl, by decide +kernel, rfl, by decide +kernel, by decide +kernel⟩
theorem sc_is_code : FnScope nm_is_code ["thing"] (defScope s_is_code) := ⟨rfl, rfl, rfl, by decide +kernel, rfl, by decide +kernel, by decide +kernel⟩
theorem sc_is_setting : FnScope nm_is_setting ["thing"] (defScope s_is_setting) := ⟨rfl, rfl, rfl, by decide +kernel, rfl, by decide +kernel, by decide +kernel⟩
theorem sc_look : FnScope nm_look ["setting"] (defScope s_look) := ⟨rfl, rfl, rfl, by decide +kernel, rfl, by decide +kernel, by decide +kernel⟩
theorem sc_look_house : FnScope nm_look_house ["setting", "house"] (defScope s_look_house) := ⟨rfl, rfl, rfl, by decide +kernel, rfl, by decide +kernel, by decide +kernel⟩
theorem sc_beats : FnScope nm_beats ["code"] (defScope s_beats) := ⟨rfl, rfl, rfl, by decide +kernel, rfl, by decide +kernel, by decide +kernel⟩
theorem sc_ring : FnScope nm_ring ["code", "ticks"] (defScope s_ring) := ⟨rfl, rfl, rfl, by decide +kernel, rfl, by decide +kernel, by decide +kernel⟩
theorem sc_meant : FnScope nm_meant ["setting", "row"] (defScope s_meant) := ⟨rfl, rfl, rfl, by decide +kernel, rfl, by decide +kernel, by decide +kernel⟩
theorem sc_sure_behind : FnScope nm_sure_behind ["setting", "house"] (defScope s_sure_behind) := ⟨rfl, rfl, rfl, by decide +kernel, rfl, by decide +kernel, by decide +kernel⟩
theorem sc_apart_behind : FnScope nm_apart_behind ["setting", "one", "other"] (defScope s_apart_behind) := ⟨rfl, rfl, rfl, by decide +kernel, rfl, by decide +kernel, by decide +kernel⟩
theorem sc_mistaken : FnScope nm_mistaken ["setting", "ticks"] (defScope s_mistaken) := ⟨rfl, rfl, rfl, by decide +kernel, rfl, by decide +kernel, by decide +kernel⟩
theorem sc_all_sure_behind : FnScope nm_all_sure_behind ["setting"] (defScope s_all_sure_behind) := ⟨rfl, rfl, rfl, by decide +kernel, rfl, by decide +kernel, by decide +kernel⟩
theorem sc_law_cell : FnScope nm_law_cell ["script", "k"] (defScope s_law_cell) := ⟨rfl, rfl, rfl, by decide +kernel, rfl, by decide +kernel, by decide +kernel⟩
theorem sc_law_mix : FnScope nm_law_mix ["cell", "prime", "many"] (defScope s_law_mix) := ⟨rfl, rfl, rfl, by decide +kernel, rfl, by decide +kernel, by decide +kernel⟩
theorem sc_law_seed : FnScope nm_law_seed ["seed", "k"] (defScope s_law_seed) := ⟨rfl, rfl, rfl, by decide +kernel, rfl, by decide +kernel, by decide +kernel⟩
theorem sc_law_pick : FnScope nm_law_pick ["seed", "many"] (defScope s_law_pick) := ⟨rfl, rfl, rfl, by decide +kernel, rfl, by decide +kernel, by decide +kernel⟩
theorem sc_law_code : FnScope nm_law_code ["seed"] (defScope s_law_code) := ⟨rfl, rfl, rfl, by decide +kernel, rfl, by decide +kernel, by decide +kernel⟩
theorem sc_law_setting : FnScope nm_law_setting ["seed"] (defScope s_law_setting) := ⟨rfl, rfl, rfl, by decide +kernel, rfl, by decide +kernel, by decide +kernel⟩
theorem sc_law_pair : FnScope nm_law_pair ["setting", "script", "at"] (defScope s_law_pair) := ⟨rfl, rfl, rfl, by decide +kernel, rfl, by decide +kernel, by decide +kernel⟩
theorem sc_law : FnScope nm_law ["script"] (defScope s_law) := ⟨rfl, rfl, rfl, by decide +kernel, rfl, by decide +kernel, by decide +kernel⟩
section
variable {P : Program} {w : World} {K : PySem.W.Frag} {mg : Str → Option Value} {base : Heap}
theorem ok_is_within (T : Ctx K mg) : Fn P w K mg base "is_within" 1 3 m_is_within := by
  obtain ⟨fd, F⟩ := T.f_is_within
  refine ⟨_, fd, ["thing", "low", "high"], fn_ok (k := 0) (N := nm_is_within) F sc_is_within (fun cdv A outer s H E hr => ?_), T.g_is_within, F.kp, F.bindsN fun _ _ _ _ _ _ us hl => match us, hl with | [_, _, _], _ => rfl⟩
  exact (ss_one (ss_ret (se_andV (se_isi T.b_isinstance T.b_int bt_int (sv 0)) (se_andV (se_notV (se_isi T.b_isinstance T.b_bool bt_bool (sv 0))) (se_one (xc2 c_le c_le (sv 1) (sv 0) (sv 2)))))))
theorem ok_is_code (T : Ctx K mg) : Fn P w K mg base "is_code" 1 1 m_is_code := by
  obtain ⟨fd, F⟩ := T.f_is_code
  refine ⟨_, fd, ["thing"], fn_ok (k := 0) (N := nm_is_code) F sc_is_code (fun cdv A outer s H E hr => ?_), T.g_is_code, F.kp, F.bindsN fun _ _ _ _ _ _ us hl => match us, hl with | [_], _ => rfl⟩
  exact (ss_cons (ss_if (PW.pt (sw_or (st_not (st_tru (se_isi T.b_isinstance T.b_str bt_str (sv 0)))) (sw_or1 (st_not (tc2 c_le c_le se_int (xlen T.b_len (sa_cons (sv 0) sa_nil)) (se_gint T.c_MOST_SIGNS)))))) (ss_one (ss_ret se_bl)) ss_nil)
    (ss_one (ss_ret (se_notV (se_lc (own := [("sign", 1)]) rfl sc_is_code.nd (blkOk_by (N := nm_is_code) (sc := defScope s_is_code) (by decide +kernel)) (si_str (sv 0)) (fun _ _ _ _ _ => (sg_name sc_is_code.nd)) (fun _ _ _ _ _ => (sts_one (tc (c_notIn hr) (sv 1) se_str))) (fun _ _ _ _ _ => (sv 1)))))))
theorem ok_is_setting (T : Ctx K mg) : Fn P w K mg base "is_setting" 2 1 m_is_setting := by
  obtain ⟨fd, F⟩ := T.f_is_setting
  refine ⟨_, fd, ["thing"], fn_ok (k := 1) (N := nm_is_setting) F sc_is_setting (fun cdv A outer s H E hr => ?_), T.g_is_setting, F.kp, F.bindsN fun _ _ _ _ _ _ us hl => match us, hl with | [_], _ => rfl⟩
  exact (ss_cons (ss_if (PW.pt (sw_or (st_not (st_tru (se_isi T.b_isinstance T.b_tuple bt_tuple (sv 0)))) (sw_or (tc (c_ne hr) (xlen T.b_len (sa_cons (sv 0) sa_nil)) se_int) (sw_or1 (st_not (st_tru (se_isi T.b_isinstance T.b_tuple bt_tuple (se_ix (sv 0) se_int)))))))) (ss_one (ss_ret se_bl)) ss_nil)
    (ss_cons (ss_if (PW.pt (sw_or (st_not (tc2 c_le c_le se_int (xlen T.b_len (sa_cons (se_ix (sv 0) se_int) sa_nil)) se_int)) (sw_or1 (st_tru (se_lc (own := [("code", 1)]) rfl sc_is_setting.nd (blkOk_by (N := nm_is_setting) (sc := defScope s_is_setting) (by decide +kernel)) (si_tup (se_ix (sv 0) se_int)) (fun _ _ _ _ _ => (sg_name sc_is_setting.nd)) (fun _ _ _ _ _ => (sts_one (st_not (st_tru (se_call (ok_is_code T) (hr.mono (by decide)) takes0 (sa_cons (sv 1) sa_nil)))))) (fun _ _ _ _ _ => (sv 1))))))) (ss_one (ss_ret se_bl)) ss_nil)
    (ss_cons (ss_if (tc (c_ne hr) (se_lenSet rfl T.b_len T.b_set (se_ix (sv 0) se_int)) (xlen T.b_len (sa_cons (se_ix (sv 0) se_int) sa_nil))) (ss_one (ss_ret se_bl)) ss_nil)
    (ss_one (ss_ret (se_andV (se_isi T.b_isinstance T.b_bool bt_bool (se_ix (sv 0) se_int)) (se_one (se_call (ok_is_within T) (hr.mono (by decide)) (takes_of rfl rfl rfl rfl) (sa_cons (se_ix (sv 0) se_int) (sa_cons se_int (sa_cons se_int sa_nil)))))))))))
theorem ok_look (T : Ctx K mg) : Fn P w K mg base "look" 3 1 m_look := by
  obtain ⟨fd, F⟩ := T.f_look
  refine ⟨_, fd, ["setting"], fn_ok (k := 2) (N := nm_look) F sc_look (fun cdv A outer s H E hr => ?_), T.g_look, F.kp, F.bindsN fun _ _ _ _ _ _ us hl => match us, hl with | [_], _ => rfl⟩
  exact (ss_one (ss_if (st_not (st_tru (se_call (ok_is_setting T) (hr.mono (by decide)) (takes_of rfl rfl rfl rfl) (sa_cons (sv 0) sa_nil)))) (ss_one (ss_raise T.e_NoSetting rfl (takes_of rfl rfl rfl rfl))) ss_nil))
theorem ok_look_house (T : Ctx K mg) : Fn P w K mg base "look_house" 2 2 m_look_house := by
  obtain ⟨fd, F⟩ := T.f_look_house
  refine ⟨_, fd, ["setting", "house"], fn_ok (k := 1) (N := nm_look_house) F sc_look_house (fun cdv A outer s H E hr => ?_), T.g_look_house, F.kp, F.bindsN fun _ _ _ _ _ _ us hl => match us, hl with | [_, _], _ => rfl⟩
  exact (ss_one (ss_if (st_not (st_tru (se_call (ok_is_within T) (hr.mono (by decide)) (takes_of rfl rfl rfl rfl) (sa_cons (sv 1) (sa_cons se_int (sa_cons (xsub (xlen T.b_len (sa_cons (se_ix (sv 0) se_int) sa_nil)) se_int) sa_nil)))))) (ss_one (ss_raise T.e_NoHouse rfl (takes_of rfl rfl rfl rfl))) ss_nil))
theorem ok_beats (T : Ctx K mg) : Fn P w K mg base "beats" 1 1 m_beats := by
  obtain ⟨fd, F⟩ := T.f_beats
  refine ⟨_, fd, ["code"], fn_ok (k := 0) (N := nm_beats) F sc_beats (fun cdv A outer s H E hr => ?_), T.g_beats, F.kp, F.bindsN fun _ _ _ _ _ _ us hl => match us, hl with | [_], _ => rfl⟩
  exact (ss_cons (ss_set sc_beats.nd (se_lst sa_nil))
    (ss_cons (ss_for (vs := [2]) (passes_of rfl) rfl (si_str (sv 0)) (sg_name sc_beats.nd) (ss_one (ss_expr (se_mt PySem.F.plainAttrs_list PySem.F.slot_list_extend PySem.F.type_list_extend mt_extend ms_extend (sv 1) (sa_cons (xadd (xmul (se_lst (sa_cons se_bl sa_nil)) (se_if (tc (c_eq hr) (sv 2) se_str) (se_gint T.c_LONG) se_int)) (se_lst (sa_cons se_bl sa_nil))) sa_nil)))))
    (ss_one (ss_ret (xadd (sv 1) (xmul (se_lst (sa_cons se_bl sa_nil)) (xsub (se_gint T.c_REST) se_int)))))))
theorem ok_ring (T : Ctx K mg) : Fn P w K mg base "ring" 2 2 m_ring := by
  obtain ⟨fd, F⟩ := T.f_ring
  refine ⟨_, fd, ["code", "ticks"], fn_ok (k := 1) (N := nm_ring) F sc_ring (fun cdv A outer s H E hr => ?_), T.g_ring, F.kp, F.bindsN fun _ _ _ _ _ _ us hl => match us, hl with | [_, _], _ => rfl⟩
  exact (ss_cons (ss_if (st_not (st_tru (se_call (ok_is_code T) (hr.mono (by decide)) (takes_of rfl rfl rfl rfl) (sa_cons (sv 0) sa_nil)))) (ss_one (ss_raise T.e_NoCode rfl (takes_of rfl rfl rfl rfl))) ss_nil)
    (ss_cons (ss_if (st_not (st_tru (se_call (ok_is_within T) (hr.mono (by decide)) (takes_of rfl rfl rfl rfl) (sa_cons (sv 1) (sa_cons se_int (sa_cons se_int sa_nil)))))) (ss_one (ss_raise T.e_NoCount rfl (takes_of rfl rfl rfl rfl))) ss_nil)
    (ss_cons (ss_set sc_ring.nd (se_call (ok_beats T) (hr.mono (by decide)) (takes_of rfl rfl rfl rfl) (sa_cons (sv 0) sa_nil)))
    (ss_one (ss_ret (se_lc (own := [("tick", 3)]) rfl sc_ring.nd (blkOk_by (N := nm_ring) (sc := defScope s_ring) (by decide +kernel)) (si_range1 T.b_range (sv 1)) (fun _ _ _ _ _ => (sg_name sc_ring.nd)) (fun _ _ _ _ _ => sts_nil) (fun _ _ _ _ _ => (se_ix (sv 2) (xmod (sv 3) (xlen T.b_len (sa_cons (sv 2) sa_nil)))))))))))
theorem ok_meant (T : Ctx K mg) : Fn P w K mg base "meant" 4 2 m_meant := by
  obtain ⟨fd, F⟩ := T.f_meant
  refine ⟨_, fd, ["setting", "row"], fn_ok (k := 3) (N := nm_meant) F sc_meant (fun cdv A outer s H E hr => ?_), T.g_meant, F.kp, F.bindsN fun _ _ _ _ _ _ us hl => match us, hl with | [_, _], _ => rfl⟩
  exact (ss_cons (ss_expr (se_call (ok_look T) (hr.mono (by decide)) (takes_of rfl rfl rfl rfl) (sa_cons (sv 0) sa_nil)))
    (ss_cons (ss_if (PW.pt (sw_or (st_not (st_tru (se_isi T.b_isinstance T.b_list bt_list (sv 1)))) (sw_or (tc c_gt (xlen T.b_len (sa_cons (sv 1) sa_nil)) se_int) (sw_or1 (st_tru (se_lc (own := [("one", 2)]) rfl sc_meant.nd (blkOk_by (N := nm_meant) (sc := defScope s_meant) (by decide +kernel)) (si_list (sv 1)) (fun _ _ _ _ _ => (sg_name sc_meant.nd)) (fun _ _ _ _ _ => (sts_one (st_not (st_tru (se_isi T.b_isinstance T.b_bool bt_bool (sv 2)))))) (fun _ _ _ _ _ => (sv 2)))))))) (ss_one (ss_raise T.e_NoCode rfl (takes_of rfl rfl rfl rfl))) ss_nil)
    (ss_one (ss_ret (se_lc (own := [("house", 3), ("code", 4)]) rfl sc_meant.nd (blkOk_by (N := nm_meant) (sc := defScope s_meant) (by decide +kernel)) (si_enumT T.b_enumerate (se_ix (sv 0) se_int)) (fun _ _ _ _ _ => (sg_tup rfl (sgs_cons (sg_name sc_meant.nd) (sgs_cons (sg_name sc_meant.nd) sgs_nil)) (gl_cons (gl_cons gl_nil)))) (fun _ _ _ _ _ => (sts_one (tc (c_eq hr) (se_call (ok_ring T) (hr.mono (by decide)) takes0 (sa_cons (sv 4) (sa_cons (xlen T.b_len (sa_cons (sv 1) sa_nil)) sa_nil))) (sv 1)))) (fun _ _ _ _ _ => (sv 3)))))))
theorem ok_sure_behind (T : Ctx K mg) : Fn P w K mg base "sure_behind" 5 2 m_sure_behind := by
  obtain ⟨fd, F⟩ := T.f_sure_behind
  refine ⟨_, fd, ["setting", "house"], fn_ok (k := 4) (N := nm_sure_behind) F sc_sure_behind (fun cdv A outer s H E hr => ?_), T.g_sure_behind, F.kp, F.bindsN fun _ _ _ _ _ _ us hl => match us, hl with | [_, _], _ => rfl⟩
  exact (ss_cons (ss_expr (se_call (ok_look T) (hr.mono (by decide)) (takes_of rfl rfl rfl rfl) (sa_cons (sv 0) sa_nil)))
    (ss_cons (ss_expr (se_call (ok_look_house T) (hr.mono (by decide)) (takes_of rfl rfl rfl rfl) (sa_cons (sv 0) (sa_cons (sv 1) sa_nil))))
    (ss_cons (ss_set sc_sure_behind.nd (se_call (ok_ring T) (hr.mono (by decide)) (takes_of rfl rfl rfl rfl) (sa_cons (se_ix (se_ix (sv 0) se_int) (sv 1)) (sa_cons se_int sa_nil))))
    (ss_cons (ss_set sc_sure_behind.nd se_int)
    (ss_cons (ss_while 1000 (passes_of rfl) (tc (c_ne hr) (se_call (ok_meant T) (hr.mono (by decide)) (takes_of rfl rfl rfl rfl) (sa_cons (sv 0) (sa_cons (se_sl (sv 2) so_none (so_some (sv 3))) sa_nil))) (se_lst (sa_cons (sv 1) sa_nil))) (ss_one (ss_augAdd sc_sure_behind.nd se_int)))
    (ss_one (ss_ret (sv 3))))))))
theorem ok_apart_behind (T : Ctx K mg) : Fn P w K mg base "apart_behind" 4 3 m_apart_behind := by
  obtain ⟨fd, F⟩ := T.f_apart_behind
  refine ⟨_, fd, ["setting", "one", "other"], fn_ok (k := 3) (N := nm_apart_behind) F sc_apart_behind (fun cdv A outer s H E hr => ?_), T.g_apart_behind, F.kp, F.bindsN fun _ _ _ _ _ _ us hl => match us, hl with | [_, _, _], _ => rfl⟩
  exact (ss_cons (ss_expr (se_call (ok_look T) (hr.mono (by decide)) (takes_of rfl rfl rfl rfl) (sa_cons (sv 0) sa_nil)))
    (ss_cons (ss_expr (se_call (ok_look_house T) (hr.mono (by decide)) (takes_of rfl rfl rfl rfl) (sa_cons (sv 0) (sa_cons (sv 1) sa_nil))))
    (ss_cons (ss_expr (se_call (ok_look_house T) (hr.mono (by decide)) (takes_of rfl rfl rfl rfl) (sa_cons (sv 0) (sa_cons (sv 2) sa_nil))))
    (ss_cons (ss_if (tc (c_eq hr) (sv 1) (sv 2)) (ss_one (ss_raise T.e_NoHouse rfl (takes_of rfl rfl rfl rfl))) ss_nil)
    (ss_cons (ss_set sc_apart_behind.nd (se_call (ok_ring T) (hr.mono (by decide)) (takes_of rfl rfl rfl rfl) (sa_cons (se_ix (se_ix (sv 0) se_int) (sv 1)) (sa_cons (se_gint T.c_MOST_TICKS) sa_nil))))
    (ss_cons (ss_set sc_apart_behind.nd (se_call (ok_ring T) (hr.mono (by decide)) (takes_of rfl rfl rfl rfl) (sa_cons (se_ix (se_ix (sv 0) se_int) (sv 2)) (sa_cons (se_gint T.c_MOST_TICKS) sa_nil))))
    (ss_cons (ss_set sc_apart_behind.nd se_int)
    (ss_cons (ss_while 1000 (passes_of rfl) (tc (c_eq hr) (se_sl (sv 3) so_none (so_some (sv 5))) (se_sl (sv 4) so_none (so_some (sv 5)))) (ss_one (ss_augAdd sc_apart_behind.nd se_int)))
    (ss_one (ss_ret (sv 5)))))))))))
theorem ok_mistaken (T : Ctx K mg) : Fn P w K mg base "mistaken" 4 2 m_mistaken := by
  obtain ⟨fd, F⟩ := T.f_mistaken
  refine ⟨_, fd, ["setting", "ticks"], fn_ok (k := 3) (N := nm_mistaken) F sc_mistaken (fun cdv A outer s H E hr => ?_), T.g_mistaken, F.kp, F.bindsN fun _ _ _ _ _ _ us hl => match us, hl with | [_, _], _ => rfl⟩
  exact (ss_cons (ss_expr (se_call (ok_look T) (hr.mono (by decide)) (takes_of rfl rfl rfl rfl) (sa_cons (sv 0) sa_nil)))
    (ss_cons (ss_if (st_not (st_tru (se_call (ok_is_within T) (hr.mono (by decide)) (takes_of rfl rfl rfl rfl) (sa_cons (sv 1) (sa_cons se_int (sa_cons (se_gint T.c_MOST_TICKS) sa_nil)))))) (ss_one (ss_raise T.e_NoCount rfl (takes_of rfl rfl rfl rfl))) ss_nil)
    (ss_cons (ss_set sc_mistaken.nd (se_lc (own := [("code", 5)]) rfl sc_mistaken.nd (blkOk_by (N := nm_mistaken) (sc := defScope s_mistaken) (by decide +kernel)) (si_tup (se_ix (sv 0) se_int)) (fun _ _ _ _ _ => (sg_name sc_mistaken.nd)) (fun _ _ _ _ _ => sts_nil) (fun _ _ _ _ _ => (se_call (ok_ring T) (hr.mono (by decide)) takes0 (sa_cons (sv 5) (sa_cons (sv 1) sa_nil))))))
    (ss_cons (ss_set sc_mistaken.nd (se_lst sa_nil))
    (ss_cons (ss_for (vs := [4]) (passes_of rfl) rfl (si_range1 T.b_range (xlen T.b_len (sa_cons (sv 2) sa_nil))) (sg_name sc_mistaken.nd) (ss_one (ss_expr (se_mt PySem.F.plainAttrs_list PySem.F.slot_list_extend PySem.F.type_list_extend mt_extend ms_extend (sv 3) (sa_cons (se_lc (own := [("one", 6)]) rfl sc_mistaken.nd (blkOk_by (N := nm_mistaken) (sc := defScope s_mistaken) (by decide +kernel)) (si_range1 T.b_range (sv 4)) (fun _ _ _ _ _ => (sg_name sc_mistaken.nd)) (fun _ _ _ _ _ => (sts_one (tc (c_eq hr) (se_ix (sv 2) (sv 6)) (se_ix (sv 2) (sv 4))))) (fun _ _ _ _ _ => (se_tup (sa_cons (sv 6) (sa_cons (sv 4) sa_nil))))) sa_nil)))))
    (ss_one (ss_ret (xsorted T.b_sorted (sa_cons (sv 3) sa_nil)))))))))
theorem ok_all_sure_behind (T : Ctx K mg) : Fn P w K mg base "all_sure_behind" 6 1 m_all_sure_behind := by
  obtain ⟨fd, F⟩ := T.f_all_sure_behind
  refine ⟨_, fd, ["setting"], fn_ok (k := 5) (N := nm_all_sure_behind) F sc_all_sure_behind (fun cdv A outer s H E hr => ?_), T.g_all_sure_behind, F.kp, F.bindsN fun _ _ _ _ _ _ us hl => match us, hl with | [_], _ => rfl⟩
  exact (ss_cons (ss_expr (se_call (ok_look T) (hr.mono (by decide)) (takes_of rfl rfl rfl rfl) (sa_cons (sv 0) sa_nil)))
    (ss_one (ss_ret (xmax rfl T.b_max (sa_cons (se_lc (own := [("house", 1)]) rfl sc_all_sure_behind.nd (blkOk_by (N := nm_all_sure_behind) (sc := defScope s_all_sure_behind) (by decide +kernel)) (si_range1 T.b_range (xlen T.b_len (sa_cons (se_ix (sv 0) se_int) sa_nil))) (fun _ _ _ _ _ => (sg_name sc_all_sure_behind.nd)) (fun _ _ _ _ _ => sts_nil) (fun _ _ _ _ _ => (se_call (ok_sure_behind T) (hr.mono (by decide)) takes0 (sa_cons (sv 0) (sa_cons (sv 1) sa_nil))))) sa_nil)))))
theorem ok_law_cell (T : Ctx K mg) : Fn P w K mg base "_law_cell" 1 2 m_law_cell := by
  obtain ⟨fd, F⟩ := T.f_law_cell
  refine ⟨_, fd, ["script", "k"], fn_ok (k := 0) (N := nm_law_cell) F sc_law_cell (fun cdv A outer s H E hr => ?_), T.g_law_cell, F.kp, F.bindsN fun _ _ _ _ _ _ us hl => match us, hl with | [_, _], _ => rfl⟩
  exact (ss_cons (ss_if (tc c_lt (sv 1) (xlen T.b_len (sa_cons (sv 0) sa_nil))) (ss_one (ss_ret (se_ix (sv 0) (sv 1)))) ss_nil)
    (ss_one (ss_ret se_int)))
theorem ok_law_mix (T : Ctx K mg) : Fn P w K mg base "_law_mix" 1 3 m_law_mix := by
  obtain ⟨fd, F⟩ := T.f_law_mix
  refine ⟨_, fd, ["cell", "prime", "many"], fn_ok (k := 0) (N := nm_law_mix) F sc_law_mix (fun cdv A outer s H E hr => ?_), T.g_law_mix, F.kp, F.bindsN fun _ _ _ _ _ _ us hl => match us, hl with | [_, _, _], _ => rfl⟩
  exact (ss_one (ss_ret (xmod (xmod (xpow (xmod (xmul (sv 0) se_int) (sv 1)) se_int) (sv 1)) (sv 2))))
theorem ok_law_seed (T : Ctx K mg) : Fn P w K mg base "_law_seed" 1 2 m_law_seed := by
  obtain ⟨fd, F⟩ := T.f_law_seed
  refine ⟨_, fd, ["seed", "k"], fn_ok (k := 0) (N := nm_law_seed) F sc_law_seed (fun cdv A outer s H E hr => ?_), T.g_law_seed, F.kp, F.bindsN fun _ _ _ _ _ _ us hl => match us, hl with | [_, _], _ => rfl⟩
  exact (ss_one (ss_ret (xmod (xpow (xmod (xadd (xadd (xmul (sv 0) se_int) (xmul se_int (sv 1))) se_int) se_int) se_int) se_int)))
theorem ok_law_pick (T : Ctx K mg) : Fn P w K mg base "_law_pick" 1 2 m_law_pick := by
  obtain ⟨fd, F⟩ := T.f_law_pick
  refine ⟨_, fd, ["seed", "many"], fn_ok (k := 0) (N := nm_law_pick) F sc_law_pick (fun cdv A outer s H E hr => ?_), T.g_law_pick, F.kp, F.bindsN fun _ _ _ _ _ _ us hl => match us, hl with | [_, _], _ => rfl⟩
  exact (ss_one (ss_ret (xmod (xdiv (sv 0) se_int) (sv 1))))
theorem ok_law_code (T : Ctx K mg) : Fn P w K mg base "_law_code" 2 1 m_law_code := by
  obtain ⟨fd, F⟩ := T.f_law_code
  refine ⟨_, fd, ["seed"], fn_ok (k := 1) (N := nm_law_code) F sc_law_code (fun cdv A outer s H E hr => ?_), T.g_law_code, F.kp, F.bindsN fun _ _ _ _ _ _ us hl => match us, hl with | [_], _ => rfl⟩
  exact (ss_one (ss_ret (se_mt PySem.F.plainAttrs_str PySem.F.slot_str_join PySem.F.type_str_join mt_join ms_join se_str (sa_cons (se_lc (own := [("k", 1)]) rfl sc_law_code.nd (blkOk_by (N := nm_law_code) (sc := defScope s_law_code) (by decide +kernel)) (si_range1 T.b_range (xadd se_int (xmod (xdiv (sv 0) se_int) se_int))) (fun _ _ _ _ _ => (sg_name sc_law_code.nd)) (fun _ _ _ _ _ => sts_nil) (fun _ _ _ _ _ => (se_ix se_str (se_call (ok_law_pick T) (hr.mono (by decide)) takes0 (sa_cons (se_call (ok_law_seed T) (hr.mono (by decide)) takes0 (sa_cons (sv 0) (sa_cons (sv 1) sa_nil))) (sa_cons se_int sa_nil)))))) sa_nil))))
theorem ok_law_setting (T : Ctx K mg) : Fn P w K mg base "_law_setting" 3 1 m_law_setting := by
  obtain ⟨fd, F⟩ := T.f_law_setting
  refine ⟨_, fd, ["seed"], fn_ok (k := 2) (N := nm_law_setting) F sc_law_setting (fun cdv A outer s H E hr => ?_), T.g_law_setting, F.kp, F.bindsN fun _ _ _ _ _ _ us hl => match us, hl with | [_], _ => rfl⟩
  exact (ss_cons (ss_set sc_law_setting.nd (se_lst sa_nil))
    (ss_cons (ss_for (vs := [2]) (passes_of rfl) rfl (si_range1 T.b_range (xadd se_int (xmod (xdiv (sv 0) se_int) se_int))) (sg_name sc_law_setting.nd) (ss_cons (ss_set sc_law_setting.nd (se_call (ok_law_code T) (hr.mono (by decide)) (takes_of rfl rfl rfl rfl) (sa_cons (se_call (ok_law_seed T) (hr.mono (by decide)) (takes_of rfl rfl rfl rfl) (sa_cons (sv 0) (sa_cons (xadd se_int (sv 2)) sa_nil))) sa_nil)))
    (ss_one (ss_if (tc (c_notIn hr) (sv 3) (sv 1)) (ss_one (ss_expr (se_mt PySem.F.plainAttrs_list PySem.F.slot_list_append PySem.F.type_list_append mt_append ms_append (sv 1) (sa_cons (sv 3) sa_nil)))) ss_nil))))
    (ss_cons (ss_if (tc c_lt (xlen T.b_len (sa_cons (sv 1) sa_nil)) se_int) (ss_one (ss_set sc_law_setting.nd (xadd (sv 1) (se_sl (se_lc (own := [("code", 3)]) rfl sc_law_setting.nd (blkOk_by (N := nm_law_setting) (sc := defScope s_law_setting) (by decide +kernel)) (si_tup (se_tup (sa_cons se_str (sa_cons se_str sa_nil)))) (fun _ _ _ _ _ => (sg_name sc_law_setting.nd)) (fun _ _ _ _ _ => (sts_one (tc (c_notIn hr) (sv 3) (sv 1)))) (fun _ _ _ _ _ => (sv 3))) so_none (so_some se_int))))) ss_nil)
    (ss_one (ss_ret (se_tup (sa_cons (xtuple T.b_tuple (sa_cons (sv 1) sa_nil)) (sa_cons (xc (c_eq hr) (xmod (xdiv (sv 0) se_int) se_int) se_int) (sa_cons (xadd se_int (se_call (ok_law_pick T) (hr.mono (by decide)) (takes_of rfl rfl rfl rfl) (sa_cons (se_call (ok_law_seed T) (hr.mono (by decide)) (takes_of rfl rfl rfl rfl) (sa_cons (sv 0) (sa_cons se_int sa_nil))) (sa_cons (se_ix (se_lst (sa_cons se_int (sa_cons se_int sa_nil))) (xmod (xdiv (sv 0) se_int) se_int)) sa_nil)))) sa_nil)))))))))
theorem ok_law_pair (T : Ctx K mg) : Fn P w K mg base "_law_pair" 2 3 m_law_pair := by
  obtain ⟨fd, F⟩ := T.f_law_pair
  refine ⟨_, fd, ["setting", "script", "at"], fn_ok (k := 1) (N := nm_law_pair) F sc_law_pair (fun cdv A outer s H E hr => ?_), T.g_law_pair, F.kp, F.bindsN fun _ _ _ _ _ _ us hl => match us, hl with | [_, _, _], _ => rfl⟩
  exact (ss_cons (ss_set sc_law_pair.nd (xlen T.b_len (sa_cons (se_ix (sv 0) se_int) sa_nil)))
    (ss_cons (ss_set sc_law_pair.nd (xmod (se_call (ok_law_cell T) (hr.mono (by decide)) (takes_of rfl rfl rfl rfl) (sa_cons (sv 1) (sa_cons (sv 2) sa_nil))) (sv 3)))
    (ss_cons (ss_set sc_law_pair.nd (xmod (xadd (xadd (sv 4) se_int) (se_call (ok_law_mix T) (hr.mono (by decide)) (takes_of rfl rfl rfl rfl) (sa_cons (se_call (ok_law_cell T) (hr.mono (by decide)) (takes_of rfl rfl rfl rfl) (sa_cons (sv 1) (sa_cons (xadd (sv 2) se_int) sa_nil))) (sa_cons se_int (sa_cons (xsub (sv 3) se_int) sa_nil))))) (sv 3)))
    (ss_one (ss_ret (se_tup (sa_cons (sv 4) (sa_cons (sv 5) sa_nil))))))))
theorem okf_law (T : Ctx K mg) {fd : FuncData} (F : FunD K "law" "law" (defArgs s_law) (defBody s_law) (defScope s_law) [] [] (He.ga K "law") fd) : FnOk P w K mg base (L2.CX P w) 7 (He.ga K "law") fd ["script"] (spF K m_law 1) := by
  refine fn_ok (k := 6) (N := nm_law) F sc_law (fun cdv A outer s H E hr => ?_)
  exact (ss_cons (ss_set sc_law.nd (se_call (ok_law_setting T) (hr.mono (by decide)) (takes_of rfl rfl rfl rfl) (sa_cons (se_call (ok_law_seed T) (hr.mono (by decide)) (takes_of rfl rfl rfl rfl) (sa_cons (se_call (ok_law_cell T) (hr.mono (by decide)) (takes_of rfl rfl rfl rfl) (sa_cons (sv 0) (sa_cons se_int sa_nil))) (sa_cons se_int sa_nil))) sa_nil)))
    (ss_cons (ss_set sc_law.nd (xlen T.b_len (sa_cons (se_ix (sv 1) se_int) sa_nil)))
    (ss_cons (ss_asg (vs := [3, 4]) (se_call (ok_law_pair T) (hr.mono (by decide)) (takes_of rfl rfl rfl rfl) (sa_cons (sv 1) (sa_cons (sv 0) (sa_cons se_int sa_nil)))) (sg_tup rfl (sgs_cons (sg_name sc_law.nd) (sgs_cons (sg_name sc_law.nd) sgs_nil)) (gl_cons (gl_cons gl_nil))))
    (ss_cons (ss_set sc_law.nd (se_call (ok_apart_behind T) (hr.mono (by decide)) (takes_of rfl rfl rfl rfl) (sa_cons (sv 1) (sa_cons (sv 3) (sa_cons (sv 4) sa_nil)))))
    (ss_cons (ss_set sc_law.nd (xtuple T.b_tuple (sa_cons (xsorted T.b_sorted (sa_cons (se_lst (sa_cons (sv 3) (sa_cons (sv 4) sa_nil))) sa_nil)) sa_nil)))
    (ss_cons (ss_if (PW.pt (sw_or (tc (c_ne hr) (se_call (ok_apart_behind T) (hr.mono (by decide)) (takes_of rfl rfl rfl rfl) (sa_cons (sv 1) (sa_cons (sv 4) (sa_cons (sv 3) sa_nil)))) (sv 5)) (sw_or1 (tc (c_in hr) (sv 6) (se_call (ok_mistaken T) (hr.mono (by decide)) (takes_of rfl rfl rfl rfl) (sa_cons (sv 1) (sa_cons (sv 5) sa_nil))))))) (ss_one (ss_ret se_bl)) ss_nil)
    (ss_cons (ss_if (PW.pt (sw_or (tc (c_notIn hr) (sv 6) (se_call (ok_mistaken T) (hr.mono (by decide)) (takes_of rfl rfl rfl rfl) (sa_cons (sv 1) (sa_cons (xsub (sv 5) se_int) sa_nil)))) (sw_or1 (tc (c_ne hr) (xlen T.b_len (sa_cons (se_call (ok_mistaken T) (hr.mono (by decide)) (takes_of rfl rfl rfl rfl) (sa_cons (sv 1) (sa_cons se_int sa_nil))) sa_nil)) (xdiv (xmul (sv 2) (xsub (sv 2) se_int)) se_int))))) (ss_one (ss_ret se_bl)) ss_nil)
    (ss_cons (ss_set sc_law.nd (xmod (se_call (ok_law_cell T) (hr.mono (by decide)) (takes_of rfl rfl rfl rfl) (sa_cons (sv 0) (sa_cons se_int sa_nil))) se_int))
    (ss_cons (ss_if (tc (c_ne hr) (se_lc (own := [("two", 13)]) rfl sc_law.nd (blkOk_by (N := nm_law) (sc := defScope s_law) (by decide +kernel)) (si_list (se_call (ok_mistaken T) (hr.mono (by decide)) (takes_of rfl rfl rfl rfl) (sa_cons (sv 1) (sa_cons (xadd (sv 7) se_int) sa_nil)))) (fun _ _ _ _ _ => (sg_name sc_law.nd)) (fun _ _ _ _ _ => (sts_one (tc (c_notIn hr) (sv 13) (se_call (ok_mistaken T) (hr.mono (by decide)) takes0 (sa_cons (sv 1) (sa_cons (sv 7) sa_nil)))))) (fun _ _ _ _ _ => (sv 13))) (se_lst sa_nil)) (ss_one (ss_ret se_bl)) ss_nil)
    (ss_cons (ss_if (tc (c_ne hr) (xc (c_in hr) (sv 6) (se_call (ok_mistaken T) (hr.mono (by decide)) (takes_of rfl rfl rfl rfl) (sa_cons (sv 1) (sa_cons (sv 7) sa_nil)))) (xc c_lt (sv 7) (sv 5))) (ss_one (ss_ret se_bl)) ss_nil)
    (ss_cons (ss_if (tc c_gt (sv 2) se_int) (ss_cons (ss_set sc_law.nd (se_ix (se_lc (own := [("house", 10)]) rfl sc_law.nd (blkOk_by (N := nm_law) (sc := defScope s_law) (by decide +kernel)) (si_range1 T.b_range (sv 2)) (fun _ _ _ _ _ => (sg_name sc_law.nd)) (fun _ _ _ _ _ => (sts_one (tc (c_notIn hr) (sv 10) (sv 6)))) (fun _ _ _ _ _ => (sv 10))) se_int))
    (ss_cons (ss_set sc_law.nd (xsorted T.b_sorted (sa_cons (se_lst (sa_cons (sv 5) (sa_cons (se_call (ok_apart_behind T) (hr.mono (by decide)) (takes_of rfl rfl rfl rfl) (sa_cons (sv 1) (sa_cons (sv 3) (sa_cons (sv 8) sa_nil)))) (sa_cons (se_call (ok_apart_behind T) (hr.mono (by decide)) (takes_of rfl rfl rfl rfl) (sa_cons (sv 1) (sa_cons (sv 4) (sa_cons (sv 8) sa_nil)))) sa_nil)))) sa_nil)))
    (ss_one (ss_if (tc (c_ne hr) (se_ix (sv 9) se_int) (se_ix (sv 9) se_int)) (ss_one (ss_ret se_bl)) ss_nil)))) ss_nil)
    (ss_cons (ss_for (vs := [10]) (passes_of rfl) rfl (si_range1 T.b_range (sv 2)) (sg_name sc_law.nd) (ss_cons (ss_setLc (own := [("more", 14)]) rfl sc_law.nd (blkOk_by (N := nm_law) (sc := defScope s_law) (by decide +kernel)) (sw_true rfl rfl rfl (by decide +kernel)) (si_range1 T.b_range (sv 2)) (fun _ _ _ _ _ => (sg_name sc_law.nd)) (fun _ _ _ _ _ => (sts_one (tc (c_ne hr) (sv 14) (sv 10)))) (fun _ _ _ _ _ => (se_call (ok_apart_behind T) (hr.mono (by decide)) takes0 (sa_cons (sv 1) (sa_cons (sv 10) (sa_cons (sv 14) sa_nil))))))
    (ss_one (ss_if (tc (c_ne hr) (se_call (ok_sure_behind T) (hr.mono (by decide)) (takes_of rfl rfl rfl rfl) (sa_cons (sv 1) (sa_cons (sv 10) sa_nil))) (xmax rfl T.b_max (sa_cons (sv 11) sa_nil))) (ss_one (ss_ret se_bl)) ss_nil))))
    (ss_cons (ss_set sc_law.nd (se_call (ok_all_sure_behind T) (hr.mono (by decide)) (takes_of rfl rfl rfl rfl) (sa_cons (sv 1) sa_nil)))
    (ss_one (ss_ret (se_andV (xc (c_eq hr) (se_call (ok_mistaken T) (hr.mono (by decide)) (takes_of rfl rfl rfl rfl) (sa_cons (sv 1) (sa_cons (sv 12) sa_nil))) (se_lst sa_nil)) (se_one (xc (c_ne hr) (se_call (ok_mistaken T) (hr.mono (by decide)) (takes_of rfl rfl rfl rfl) (sa_cons (sv 1) (sa_cons (xsub (sv 12) se_int) sa_nil))) (se_lst sa_nil)))))))))))))))))))
end
end G9

set_option Elab.async false
set_option linter.all false
set_option maxRecDepth 100000
set_option maxHeartbeats 0
namespace G9
open PySem PySem.Spec PyProof.Rows L2
abbrev R : PySem.W.OpenRow := PySem.W.OpenLaw.row PySem.Challenge.rw_ringhouses_k14_whole_apart
abbrev hk : PySem.W.Hook := He.hookD 4 fas fns
def ob (s : PySem.W.SharedT) : He.AlD := He.obsDG 4 fas fns (HandSHeadRun.getT s)
theorem ob_eq (s : PySem.W.SharedT) : ob s = hk.obs s.abs := He.obsDG_eq (HandSHeadRun.getT_eq s)
def loose : List Str := (["LineError", "NoSetting", "NoCode", "NoHouse", "NoCount", "REST", "LONG", "MOST_SIGNS", "is_within", "is_code", "is_setting", "look", "look_house", "beats", "ring", "meant", "sure_behind", "MOST_TICKS", "apart_behind", "mistaken", "all_sure_behind", "_law_cell", "_law_mix", "_law_seed", "_law_pick", "_law_code", "_law_setting", "_law_pair"] : List Str)
theorem run (w : World) : HandSHeadRun.RunEq R (PySem.W.view R.prog [32]) hk ob 20000 loose w := by
  intro os
  kernel_rfl
end G9

set_option Elab.async false
set_option linter.all false
set_option maxRecDepth 100000
set_option maxHeartbeats 0
open PySem PySem.W PySem.Calls PyProof.Rows in
set_option maxRecDepth 100000 in
set_option maxHeartbeats 0 in
theorem PySem.Challenge.cw_ringhouses_k14_whole_apart_holds : PySem.Challenge.rw_ringhouses_k14_whole_apart.Holds := by
  w_on; o_law
  refine HandSHeadRun.head_any (r := OpenLaw.row PySem.Challenge.rw_ringhouses_k14_whole_apart) (q := view (OpenLaw.row PySem.Challenge.rw_ringhouses_k14_whole_apart).prog [32]) (H := G9.hk) (ob := G9.ob) (M := 20000) (loose := G9.loose) (d := HandSHeadRun.topDef (OpenLaw.row PySem.Challenge.rw_ringhouses_k14_whole_apart).prog 32) (kwd := []) G9.ob_eq
    (by kernel_rfl) (fun s => by kernel_rfl) G9.run (by kernel_rfl) (by kernel_rfl) (by kernel_rfl) (by rfl) (by first | assumption | decide +kernel) (by decide +kernel) ⟨rfl, rfl, rfl, rfl, rfl, by decide +kernel⟩ ?hw ?hc
  case hw => w_witness2
  case hc =>
    refine L2.walk_ofE (l := PySem.Challenge.rw_ringhouses_k14_whole_apart) (n := 63) (k := 7) (x := "script") (CX := L2.CX0) rfl (by decide) (by kernel_rfl) ⟨rfl, by decide, by decide⟩ ?F (fun _ _ _ _ z => z)
    intro w mg fa h Y G hmg0
    obtain ⟨K, KX, c⟩ := Y
    have hmg : mg ("law" : PySem.Str) = some (.ref fa) := by
      have e : (HandSHeadRun.topDef (OpenLaw.row PySem.Challenge.rw_ringhouses_k14_whole_apart).prog 32).name = ("law" : PySem.Str) := by kernel_rfl
      rw [← e]
      exact hmg0
    have T := G9.ctx_of KX G c
    obtain ⟨fd, F⟩ := T.f_law
    have e := hmg.symm.trans T.g_law
    cases e
    have b := L2.FunD.bindsA (ps := ["script"]) F fun _ _ _ _ _ _ us hl => match us, hl with | [_], _ => rfl
    exact ⟨K, fd, G9.spLaw K G9.m_law, KX, fun s v => b s [v] rfl, fun H a ns hl hO hS => G9.law_sp hO hS (G9.plain ns hl), fun base _ _ => G9.law_ok (G9.okf_law T F)⟩

