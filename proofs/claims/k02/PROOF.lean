import PyProof.Rows.All
import Wide.All
import OpenK.AllK
import Wide.FinOn
import HandS.ForMost
import HandS.ForExc
import HandS.Walk
import HandS.TryMany
import HandS.CallSlots
import HandS.IsInst
import HandS.Flow
import HandS.Strs
import HandS.HeadHook2
import HandS.TupAny
import HandS.TupMul
import HandS.Deep
import HandS.Steps
import HandS.Zip
import KE.GoesEnum
import HandS.SortRule
import HandS.SortInts
import KE.KSortedM
import KE.KStateDown
import HandS.WordsExc
import HandS.Defaults
import HandS.Head0
import HandS.Head1
import HandS.Head2
import HandS.HeadEnd
import HandS.HeadHook1
import KE.SortData
import HandS.Conv
import HandS.TupLe
import HandS.Text
import HandS.Small
import HandS.SetFor
import HandS.StrMore
import PySem.Challenge.RW_ringhouses_k02_codes
set_option Elab.async false
set_option linter.all false
set_option maxRecDepth 100000
set_option maxHeartbeats 2000000
namespace G9
open PySem PySem.Spec PyProof.Rows L2

inductive D where
  | non
  | bl (b : Bool)
  | int (i : Int)
  | str (s : Str)
  | tup (xs : List D)
  | ref (n : Nat)
  | scr (ns : List Int)

mutual
def beqD : D → D → Bool
  | .non, .non => true
  | .bl a, .bl b => a == b
  | .int a, .int b => decide (a = b)
  | .str a, .str b => decide (a = b)
  | .tup a, .tup b => beqDs a b
  | .ref a, .ref b => decide (a = b)
  | .scr a, .scr b => decide (a = b)
  | _, _ => false
def beqDs : List D → List D → Bool
  | [], [] => true
  | a :: as, b :: bs => beqD a b && beqDs as bs
  | _, _ => false
end
mutual
theorem beqD_ok : ∀ a b : D, beqD a b = true → a = b
  | .non, b, h => by cases b <;> simp_all [beqD]
  | .bl x, b, h => by cases b <;> simp_all [beqD]
  | .int x, b, h => by cases b <;> simp_all [beqD]
  | .str x, b, h => by cases b <;> simp_all [beqD]
  | .tup x, b, h => by
    cases b with
    | tup y => exact congrArg D.tup (beqDs_ok x y (by simpa [beqD] using h))
    | _ => simp [beqD] at h
  | .ref x, b, h => by cases b <;> simp_all [beqD]
  | .scr x, b, h => by cases b <;> simp_all [beqD]
theorem beqDs_ok : ∀ a b : List D, beqDs a b = true → a = b
  | [], b, h => by cases b <;> simp_all [beqDs]
  | x :: xs, b, h => by
    cases b with
    | nil => simp [beqDs] at h
    | cons y ys =>
      have h2 : (beqD x y && beqDs xs ys) = true := by simpa [beqDs] using h
      obtain ⟨h3, h4⟩ := Bool.and_eq_true_iff.mp h2
      rw [beqD_ok x y h3, beqDs_ok xs ys h4]
end
mutual
theorem beqD_refl : ∀ a : D, beqD a a = true
  | .non => rfl
  | .bl x => by simp [beqD]
  | .int x => by simp [beqD]
  | .str x => by simp [beqD]
  | .tup x => by
    have h := beqDs_refl x
    simpa [beqD] using h
  | .ref x => by simp [beqD]
  | .scr x => by simp [beqD]
theorem beqDs_refl : ∀ a : List D, beqDs a a = true
  | [] => rfl
  | x :: xs => by
    have h1 := beqD_refl x
    have h2 := beqDs_refl xs
    simp [beqDs, h1, h2]
end
instance : DecidableEq D := fun a b => decidable_of_iff (beqD a b = true) ⟨beqD_ok a b, fun h => h ▸ beqD_refl a⟩

inductive Cell where
  | lst (xs : List D)
  | dk (kvs : List (Key × D))
  | dt (kvs : List (List Key × D))
  | ins (c : Str) (fs : List (Str × D))
  deriving DecidableEq

abbrev HC := List Cell
abbrev SD := List (Option D)

inductive Res (α : Type) where
  | ok (a : α) (h : HC)
  | exc (c : Str) (h : HC)
  | bad
def Res.bind {α β : Type} (r : Res α) (f : α → HC → Res β) : Res β := match r with
  | .ok a h => f a h
  | .exc c h => .exc c h
  | .bad => .bad

/-- the cells' addresses; the script: where it stands, its ints -/
structure Mp where
  ad : List Addr
  scr : Addr
  ns : List Int
def Mp.snoc (m : Mp) (p : Addr) : Mp := { m with ad := m.ad ++ [p] }
theorem Mp.last {m : Mp} {p : Addr} : (m.snoc p).ad[m.ad.length]? = some p := by simp [Mp.snoc]
mutual
def RelD (m : Mp) (H : Hp) : D → V → Prop
  | .non, v => v = .non
  | .bl b, v => v = .bl b
  | .int i, v => v = .int i
  | .str s, v => v = .str s
  | .tup ds, v => ∃ p vs, v = .ref p ∧ H p = some (.tup vs) ∧ RelDs m H ds vs
  | .ref n, v => ∃ a, m.ad[n]? = some a ∧ v = .ref a
  | .scr ns, v => v = .ref m.scr ∧ m.ns = ns
def RelDs (m : Mp) (H : Hp) : List D → List V → Prop
  | [], vs => vs = []
  | d :: ds, vs => ∃ v vs', vs = v :: vs' ∧ RelD m H d v ∧ RelDs m H ds vs'
end

/-- the cells by their addresses; nothing else of the tracked heap changes -/
structure Ext (m m' : Mp) (H H' : Hp) : Prop where
  le : ∀ (n : Nat) (a : Addr), m.ad[n]? = some a → m'.ad[n]? = some a
  sc : m'.scr = m.scr ∧ m'.ns = m.ns
  fr : ∀ (p : Addr) (o : HO), p ∉ m.ad → H p = some o → p ∉ m'.ad ∧ H' p = some o
theorem Ext.refl {m : Mp} {H : Hp} : Ext m m H H := ⟨fun _ _ h => h, ⟨rfl, rfl⟩, fun _ _ h e => ⟨h, e⟩⟩
theorem Ext.trans {m m1 m2 : Mp} {H H1 H2 : Hp} (a : Ext m m1 H H1) (b : Ext m1 m2 H1 H2) : Ext m m2 H H2 :=
  ⟨fun n x h => b.le n x (a.le n x h), ⟨b.sc.1.trans a.sc.1, b.sc.2.trans a.sc.2⟩, fun p o h e => b.fr p o (a.fr p o h e).1 (a.fr p o h e).2⟩

def RelK {κ : Type} (m : Mp) (H : Hp) : List (κ × D) → List (κ × V) → Prop
  | [], vs => vs = []
  | d :: ds, vs => ∃ v vs', vs = v :: vs' ∧ d.1 = v.1 ∧ RelD m H d.2 v.2 ∧ RelK m H ds vs'

def CellAtD (K : PySem.W.Frag) (m : Mp) (H : Hp) (a : Addr) : Cell → Prop
  | .lst xs => ∃ vs, H a = some (.lst vs) ∧ RelDs m H xs vs
  | .dk kvs => ∃ vs, H a = some (.dK vs) ∧ RelK m H kvs vs
  | .dt kvs => ∃ vs, H a = some (.dT vs) ∧ RelK m H kvs vs
  | .ins c fs => ∃ dx vs, H a = some (.ins (He.ga K c) dx vs) ∧ RelK m H fs vs

/-- the script: a list that nobody writes -/
def ScrOk (K : PySem.W.Frag) (H : Hp) (a : Addr) (ns : List Int) : Prop :=
  (∀ H' : Hp, SqL K H' a (ns.map V.int)) ∨ ∃ o, H a = some (.frz o (.lst (ns.map V.int)))
theorem ScrOk.sq {K : PySem.W.Frag} {H : Hp} {a : Addr} {ns : List Int} (x : ScrOk K H a ns) : SqL K H a (ns.map V.int) := by
  rcases x with x | ⟨o, x⟩
  · exact x H
  · exact .inl (.inr ⟨o, x⟩)
theorem ScrOk.of {K : PySem.W.Frag} {H : Hp} {a : Addr} {ns : List Int} (x : SqL K H a (ns.map V.int)) (hO : ∀ b, H b = none ∨ ∃ o xs, H b = some (.frz o (.lst xs))) : ScrOk K H a ns := by
  rcases x with (x | ⟨o, x⟩) | x
  · rcases hO a with e | ⟨o, xs, e⟩
    · rw [e] at x; cases x
    · rw [e] at x; cases x
  · exact .inr ⟨o, x⟩
  · exact .inl fun _ => .inr x
theorem ScrOk.upd {K : PySem.W.Frag} {H : Hp} {a p : Addr} {ns : List Int} {u : HO} (x : ScrOk K H a ns) (hp : ∀ o w, H p ≠ some (.frz o w)) : ScrOk K (L2.upd H p u) a ns := by
  rcases x with x | ⟨o, x⟩
  · exact .inl x
  · refine .inr ⟨o, ?_⟩
    rw [upd_ne (fun z => hp o _ (z ▸ x))]
    exact x
theorem nf_none {H : Hp} {p : Addr} (h : H p = none) : ∀ o w, H p ≠ some (.frz o w) := fun o w e => by rw [h] at e; cases e
structure Sm (K : PySem.W.Frag) (m : Mp) (h : HC) (H : Hp) : Prop where
  len : h.length = m.ad.length
  nd : m.ad.Nodup
  scr : ScrOk K H m.scr m.ns
  cell : ∀ (i : Nat) (c : Cell) (a : Addr), h[i]? = some c → m.ad[i]? = some a → CellAtD K m H a c

def Rs (m : Mp) (H : Hp) (s : SD) (σ : L2.St) : Prop :=
  s.length = σ.length ∧ ∀ (i : Nat) (d : D), s[i]? = some (some d) → ∃ v, σ[i]? = some (some v) ∧ RelD m H d v

section
variable {K : PySem.W.Frag} {m m' m1 m2 : Mp} {h h' : HC} {H H' H1 H2 : Hp}

theorem CellAtD.nt {a : Addr} {c : Cell} (x : CellAtD K m H a c) : ∀ vs, H a ≠ some (.tup vs) := by
  intro vs e
  cases c with
  | lst xs => obtain ⟨vs', e', _⟩ := x; rw [e] at e'; cases e'
  | dk xs => obtain ⟨vs', e', _⟩ := x; rw [e] at e'; cases e'
  | dt xs => obtain ⟨vs', e', _⟩ := x; rw [e] at e'; cases e'
  | ins c xs => obtain ⟨dx, vs', e', _⟩ := x; rw [e] at e'; cases e'
theorem CellAtD.nf {a : Addr} {c : Cell} (x : CellAtD K m H a c) : ∀ o w, H a ≠ some (.frz o w) := by
  intro o w e
  cases c with
  | lst xs => obtain ⟨vs', e', _⟩ := x; rw [e] at e'; cases e'
  | dk xs => obtain ⟨vs', e', _⟩ := x; rw [e] at e'; cases e'
  | dt xs => obtain ⟨vs', e', _⟩ := x; rw [e] at e'; cases e'
  | ins c xs => obtain ⟨dx, vs', e', _⟩ := x; rw [e] at e'; cases e'
theorem CellAtD.some_ {a : Addr} {c : Cell} (x : CellAtD K m H a c) : H a ≠ none := by
  intro e
  cases c with
  | lst xs => obtain ⟨vs', e', _⟩ := x; rw [e] at e'; cases e'
  | dk xs => obtain ⟨vs', e', _⟩ := x; rw [e] at e'; cases e'
  | dt xs => obtain ⟨vs', e', _⟩ := x; rw [e] at e'; cases e'
  | ins c xs => obtain ⟨dx, vs', e', _⟩ := x; rw [e] at e'; cases e'
theorem Sm.at_ (S : Sm K m h H) {i : Nat} {a : Addr} (e : m.ad[i]? = some a) : ∃ c, h[i]? = some c ∧ CellAtD K m H a c := by
  have hi : i < h.length := by rw [S.len]; exact (List.getElem?_eq_some_iff.mp e).1
  exact ⟨h[i], by simp [hi], S.cell i _ a (by simp [hi]) e⟩
theorem Sm.addr (S : Sm K m h H) {i : Nat} {c : Cell} (e : h[i]? = some c) : ∃ a, m.ad[i]? = some a ∧ CellAtD K m H a c := by
  have hi : i < m.ad.length := by rw [← S.len]; exact (List.getElem?_eq_some_iff.mp e).1
  exact ⟨m.ad[i], by simp [hi], S.cell i c _ e (by simp [hi])⟩
theorem Sm.tupOut (S : Sm K m h H) {p : Addr} {vs : List V} (e : H p = some (.tup vs)) : p ∉ m.ad := by
  intro hp
  obtain ⟨i, hi⟩ := List.mem_iff_getElem?.mp hp
  obtain ⟨c, _, hc⟩ := S.at_ hi
  exact hc.nt vs e
theorem Sm.freshOut (S : Sm K m h H) {p : Addr} (e : H p = none) : p ∉ m.ad := by
  intro hp
  obtain ⟨i, hi⟩ := List.mem_iff_getElem?.mp hp
  obtain ⟨c, _, hc⟩ := S.at_ hi
  exact hc.some_ e
mutual
theorem RelD.mono_ (hle : ∀ (n : Nat) (a : Addr), m.ad[n]? = some a → m'.ad[n]? = some a) (hsc : m'.scr = m.scr ∧ m'.ns = m.ns) (ht : ∀ p vs, H p = some (.tup vs) → H' p = some (.tup vs)) : ∀ (d : D) (v : V), RelD m H d v → RelD m' H' d v
  | .non, v, r => by simpa [RelD] using r
  | .bl b, v, r => by simpa [RelD] using r
  | .int i, v, r => by simpa [RelD] using r
  | .str s, v, r => by simpa [RelD] using r
  | .tup ds, v, r => by
    simp only [RelD] at r ⊢
    obtain ⟨p, vs, e, hp, hr⟩ := r
    exact ⟨p, vs, e, ht p vs hp, RelDs.mono_ hle hsc ht ds vs hr⟩
  | .ref n, v, r => by
    simp only [RelD] at r ⊢
    obtain ⟨a, ha, e⟩ := r
    exact ⟨a, hle n a ha, e⟩
  | .scr ns, v, r => by
    simp only [RelD] at r ⊢
    rw [hsc.1, hsc.2]
    exact r
theorem RelDs.mono_ (hle : ∀ (n : Nat) (a : Addr), m.ad[n]? = some a → m'.ad[n]? = some a) (hsc : m'.scr = m.scr ∧ m'.ns = m.ns) (ht : ∀ p vs, H p = some (.tup vs) → H' p = some (.tup vs)) : ∀ (ds : List D) (vs : List V), RelDs m H ds vs → RelDs m' H' ds vs
  | [], vs, r => by simpa [RelDs] using r
  | d :: ds, vs, r => by
    simp only [RelDs] at r ⊢
    obtain ⟨v, vs', e, h1, h2⟩ := r
    exact ⟨v, vs', e, RelD.mono_ hle hsc ht d v h1, RelDs.mono_ hle hsc ht ds vs' h2⟩
end
theorem RelK.mono_ {κ : Type} (hle : ∀ (n : Nat) (a : Addr), m.ad[n]? = some a → m'.ad[n]? = some a) (hsc : m'.scr = m.scr ∧ m'.ns = m.ns) (ht : ∀ p vs, H p = some (.tup vs) → H' p = some (.tup vs)) : ∀ (ds : List (κ × D)) (vs : List (κ × V)), RelK m H ds vs → RelK m' H' ds vs
  | [], vs, r => by simpa [RelK] using r
  | d :: ds, vs, r => by
    simp only [RelK] at r ⊢
    obtain ⟨v, vs', e, k, h1, h2⟩ := r
    exact ⟨v, vs', e, k, RelD.mono_ hle hsc ht _ _ h1, RelK.mono_ hle hsc ht ds vs' h2⟩
theorem Sm.kept (S : Sm K m h H) (E : Ext m m' H H') : ∀ p vs, H p = some (.tup vs) → H' p = some (.tup vs) := fun p vs e => (E.fr p _ (S.tupOut e) e).2
theorem RelD.mono {d : D} {v : V} (r : RelD m H d v) (S : Sm K m h H) (E : Ext m m' H H') : RelD m' H' d v := RelD.mono_ E.le E.sc (S.kept E) d v r
theorem RelDs.mono {d : List D} {v : List V} (r : RelDs m H d v) (S : Sm K m h H) (E : Ext m m' H H') : RelDs m' H' d v := RelDs.mono_ E.le E.sc (S.kept E) d v r
theorem Rs.mono {s : SD} {σ : L2.St} (r : Rs m H s σ) (S : Sm K m h H) (E : Ext m m' H H') : Rs m' H' s σ := ⟨r.1, fun i d e => by
  obtain ⟨v, hv, hr⟩ := r.2 i d e
  exact ⟨v, hv, hr.mono S E⟩⟩
theorem CellAtD.mono_ {a : Addr} {c : Cell} (hle : ∀ (n : Nat) (a : Addr), m.ad[n]? = some a → m'.ad[n]? = some a) (hsc : m'.scr = m.scr ∧ m'.ns = m.ns) (ht : ∀ p vs, H p = some (.tup vs) → H' p = some (.tup vs)) (hs : H' a = H a) (x : CellAtD K m H a c) : CellAtD K m' H' a c := by
  cases c with
  | lst xs => obtain ⟨vs', e', r⟩ := x; exact ⟨vs', hs.trans e', RelDs.mono_ hle hsc ht _ _ r⟩
  | dk xs => obtain ⟨vs', e', r⟩ := x; exact ⟨vs', hs.trans e', RelK.mono_ hle hsc ht _ _ r⟩
  | dt xs => obtain ⟨vs', e', r⟩ := x; exact ⟨vs', hs.trans e', RelK.mono_ hle hsc ht _ _ r⟩
  | ins c xs => obtain ⟨dx, vs', e', r⟩ := x; exact ⟨dx, vs', hs.trans e', RelK.mono_ hle hsc ht _ _ r⟩

/-- a tuple (or any other thing that is no cell) is laid at a new address -/
theorem Sm.newT (S : Sm K m h H) {p : Addr} {o : HO} (hp : H p = none) : Sm K m h (upd H p o) ∧ Ext m m H (upd H p o) := by
  have hn : p ∉ m.ad := S.freshOut hp
  have E : Ext m m H (upd H p o) := ⟨fun _ _ e => e, ⟨rfl, rfl⟩, fun q u hq e => ⟨hq, by rw [upd_ne (ne_of_none e hp)]; exact e⟩⟩
  refine ⟨⟨S.len, S.nd, S.scr.upd (nf_none hp), fun i c a hc ha => ?_⟩, E⟩
  refine (S.cell i c a hc ha).mono_ (fun _ _ e => e) ⟨rfl, rfl⟩ (S.kept E) (upd_ne ?_)
  rintro rfl
  exact hn (List.mem_of_getElem? ha)
/-- an address that is no cell yet becomes the next cell -/
theorem Sm.adopt (S : Sm K m h H) {p : Addr} {c : Cell} (hp : p ∉ m.ad) (hc : CellAtD K m H p c) (hle : ∀ o, H p = some o → True) : Sm K (m.snoc p) (h ++ [c]) H := by
  have hle' : ∀ (n : Nat) (a : Addr), m.ad[n]? = some a → (m.snoc p).ad[n]? = some a := fun n a e => by
    show (m.ad ++ [p])[n]? = some a
    rw [List.getElem?_append_left (List.getElem?_eq_some_iff.mp e).1]
    exact e
  refine ⟨by simp [S.len, Mp.snoc], ?_, S.scr, fun i c' a h1 h2 => ?_⟩
  · show (m.ad ++ [p]).Nodup
    rw [List.nodup_append]
    refine ⟨S.nd, by simp, fun x hx y hy e => ?_⟩
    have : y = p := by simpa using hy
    subst this
    subst e
    exact hp hx
  · replace h2 : (m.ad ++ [p])[i]? = some a := h2
    by_cases hi : i < h.length
    · rw [List.getElem?_append_left hi] at h1
      rw [List.getElem?_append_left (by rw [← S.len]; exact hi)] at h2
      exact (S.cell i c' a h1 h2).mono_ hle' ⟨rfl, rfl⟩ (fun _ _ e => e) rfl
    · have hi2 : i = h.length := by
        have := (List.getElem?_eq_some_iff.mp h1).1
        simp at this
        omega
      subst hi2
      rw [List.getElem?_append_right (Nat.le_refl _)] at h1
      rw [S.len, List.getElem?_append_right (Nat.le_refl _)] at h2
      simp at h1 h2
      subst h1
      subst h2
      exact hc.mono_ hle' ⟨rfl, rfl⟩ (fun _ _ e => e) rfl
/-- a new cell is laid -/
theorem Sm.newC (S : Sm K m h H) {p : Addr} {o : HO} {c : Cell} (hp : H p = none) (hc : CellAtD K m (upd H p o) p c) : Sm K (m.snoc p) (h ++ [c]) (upd H p o) ∧ Ext m (m.snoc p) H (upd H p o) := by
  have hn : p ∉ m.ad := S.freshOut hp
  obtain ⟨S1, E1⟩ := S.newT (o := o) hp
  refine ⟨S1.adopt hn hc (fun _ _ => trivial), ⟨fun n a e => ?_, ⟨rfl, rfl⟩, fun q u hq e => ?_⟩⟩
  · show (m.ad ++ [p])[n]? = some a
    rw [List.getElem?_append_left (List.getElem?_eq_some_iff.mp e).1]
    exact e
  · have hqp : q ≠ p := ne_of_none e hp
    exact ⟨by simp [hq, hqp, Mp.snoc], by rw [upd_ne hqp]; exact e⟩
/-- a cell is changed -/
theorem Sm.setC (S : Sm K m h H) {i : Nat} {p : Addr} {o : HO} {c : Cell} (hi : m.ad[i]? = some p) (hc : CellAtD K m (upd H p o) p c) : Sm K m (h.set i c) (upd H p o) ∧ Ext m m H (upd H p o) := by
  have hm : p ∈ m.ad := List.mem_of_getElem? hi
  have E : Ext m m H (upd H p o) := ⟨fun _ _ e => e, ⟨rfl, rfl⟩, fun q u hq e => ⟨hq, by rw [upd_ne (show q ≠ p from fun z => hq (by rw [z]; exact hm))]; exact e⟩⟩
  have hnf : ∀ o w, H p ≠ some (.frz o w) := by
    obtain ⟨c0, _, hc0⟩ := S.at_ hi
    exact hc0.nf
  refine ⟨⟨by simp [S.len], S.nd, S.scr.upd hnf, fun j c' a h1 h2 => ?_⟩, E⟩
  by_cases hj : j = i
  · subst hj
    rw [hi] at h2
    cases h2
    have hlt : j < h.length := by
      have := (List.getElem?_eq_some_iff.mp h1).1
      simpa using this
    rw [List.getElem?_set_self hlt] at h1
    cases h1
    exact hc
  · rw [List.getElem?_set_ne (Ne.symm hj)] at h1
    refine (S.cell j c' a h1 h2).mono_ (fun _ _ e => e) ⟨rfl, rfl⟩ (S.kept E) (upd_ne ?_)
    rintro rfl
    have hl1 := (List.getElem?_eq_some_iff.mp h2).1
    have hl2 := (List.getElem?_eq_some_iff.mp hi).1
    have e1 := (List.getElem?_eq_some_iff.mp h2).2
    have e2 := (List.getElem?_eq_some_iff.mp hi).2
    exact hj ((List.getElem_inj S.nd).mp (e1.trans e2.symm))

/-! ### lists of values -/
theorem RelDs.len : ∀ {ds : List D} {vs : List V}, RelDs m H ds vs → ds.length = vs.length
  | [], vs, r => by simp only [RelDs] at r; subst r; rfl
  | d :: ds, vs, r => by
    simp only [RelDs] at r
    obtain ⟨v, vs', rfl, _, h2⟩ := r
    simp [RelDs.len h2]
theorem RelDs.get : ∀ {ds : List D} {vs : List V} {i : Nat} {d : D}, RelDs m H ds vs → ds[i]? = some d → ∃ v, vs[i]? = some v ∧ RelD m H d v
  | [], vs, i, d, r, e => by simp at e
  | d0 :: ds, vs, 0, d, r, e => by
    simp only [RelDs] at r
    obtain ⟨v, vs', rfl, h1, h2⟩ := r
    simp at e
    subst e
    exact ⟨v, rfl, h1⟩
  | d0 :: ds, vs, i + 1, d, r, e => by
    simp only [RelDs] at r
    obtain ⟨v, vs', rfl, h1, h2⟩ := r
    simp at e
    obtain ⟨w, hw, hr⟩ := RelDs.get h2 e
    exact ⟨w, by simpa using hw, hr⟩
theorem RelDs.get2 : ∀ {ds : List D} {vs : List V} {i : Nat} {v : V}, RelDs m H ds vs → vs[i]? = some v → ∃ d, ds[i]? = some d ∧ RelD m H d v
  | [], vs, i, v, r, e => by simp only [RelDs] at r; subst r; simp at e
  | d0 :: ds, vs, 0, v, r, e => by
    simp only [RelDs] at r
    obtain ⟨v', vs', rfl, h1, h2⟩ := r
    simp at e
    subst e
    exact ⟨d0, rfl, h1⟩
  | d0 :: ds, vs, i + 1, v, r, e => by
    simp only [RelDs] at r
    obtain ⟨v', vs', rfl, h1, h2⟩ := r
    simp at e
    obtain ⟨w, hw, hr⟩ := RelDs.get2 h2 e
    exact ⟨w, by simpa using hw, hr⟩
theorem RelDs.nil : RelDs m H [] [] := by simp [RelDs]
theorem RelDs.cons {d : D} {v : V} {ds : List D} {vs : List V} (a : RelD m H d v) (b : RelDs m H ds vs) : RelDs m H (d :: ds) (v :: vs) := by
  simp only [RelDs]
  exact ⟨v, vs, rfl, a, b⟩
theorem RelDs.append : ∀ {ds es : List D} {vs us : List V}, RelDs m H ds vs → RelDs m H es us → RelDs m H (ds ++ es) (vs ++ us)
  | [], es, vs, us, r, q => by simp only [RelDs] at r; subst r; exact q
  | d :: ds, es, vs, us, r, q => by
    simp only [RelDs] at r
    obtain ⟨v, vs', rfl, h1, h2⟩ := r
    exact RelDs.cons h1 (RelDs.append h2 q)
theorem RelDs.take : ∀ {ds : List D} {vs : List V} (n : Nat), RelDs m H ds vs → RelDs m H (ds.take n) (vs.take n)
  | ds, vs, 0, r => by simp [RelDs]
  | [], vs, n + 1, r => by simp only [RelDs] at r; subst r; simp [RelDs]
  | d :: ds, vs, n + 1, r => by
    simp only [RelDs] at r
    obtain ⟨v, vs', rfl, h1, h2⟩ := r
    exact RelDs.cons h1 (RelDs.take n h2)
theorem RelDs.drop : ∀ {ds : List D} {vs : List V} (n : Nat), RelDs m H ds vs → RelDs m H (ds.drop n) (vs.drop n)
  | ds, vs, 0, r => by simpa using r
  | [], vs, n + 1, r => by simp only [RelDs] at r; subst r; simp [RelDs]
  | d :: ds, vs, n + 1, r => by
    simp only [RelDs] at r
    obtain ⟨v, vs', rfl, h1, h2⟩ := r
    simpa using RelDs.drop n h2
theorem RelDs.set : ∀ {ds : List D} {vs : List V} (n : Nat) {d : D} {v : V}, RelDs m H ds vs → RelD m H d v → RelDs m H (ds.set n d) (vs.set n v)
  | [], vs, n, d, v, r, q => by simp only [RelDs] at r; subst r; simp [RelDs]
  | d0 :: ds, vs, 0, d, v, r, q => by
    simp only [RelDs] at r
    obtain ⟨v', vs', rfl, h1, h2⟩ := r
    exact RelDs.cons q h2
  | d0 :: ds, vs, n + 1, d, v, r, q => by
    simp only [RelDs] at r
    obtain ⟨v', vs', rfl, h1, h2⟩ := r
    exact RelDs.cons h1 (RelDs.set n h2 q)
theorem RelDs.erase : ∀ {ds : List D} {vs : List V} (n : Nat), RelDs m H ds vs → RelDs m H (ds.eraseIdx n) (vs.eraseIdx n)
  | [], vs, n, r => by simp only [RelDs] at r; subst r; simp [RelDs]
  | d0 :: ds, vs, 0, r => by
    simp only [RelDs] at r
    obtain ⟨v', vs', rfl, h1, h2⟩ := r
    simpa using h2
  | d0 :: ds, vs, n + 1, r => by
    simp only [RelDs] at r
    obtain ⟨v', vs', rfl, h1, h2⟩ := r
    exact RelDs.cons h1 (RelDs.erase n h2)
theorem RelDs.replicate {d : D} {v : V} (q : RelD m H d v) : ∀ n : Nat, RelDs m H (List.replicate n d) (List.replicate n v)
  | 0 => RelDs.nil
  | n + 1 => RelDs.cons q (RelDs.replicate q n)
theorem RelDs.rep {ds : List D} {vs : List V} (q : RelDs m H ds vs) : ∀ n : Nat, RelDs m H (List.replicate n ds).flatten (List.replicate n vs).flatten
  | 0 => RelDs.nil
  | n + 1 => by
    rw [List.replicate_succ, List.flatten_cons, List.replicate_succ, List.flatten_cons]
    exact q.append (RelDs.rep q n)
theorem RelDs.ints : ∀ {ns : List Int} , RelDs m H (ns.map D.int) (ns.map V.int)
  | [] => RelDs.nil
  | n :: ns => RelDs.cons (by simp [RelD]) RelDs.ints
end

end G9

set_option Elab.async false
set_option linter.all false
set_option maxRecDepth 100000
set_option maxHeartbeats 2000000
namespace G9
open PySem PySem.Spec PyProof.Rows L2

/-! ### readings -/
def post {α β : Type} (R : Mp → Hp → α → β → Prop) (K : PySem.W.Frag) (W : WX) (σ : L2.St) (m : Mp) (H : Hp) (Q : β → Hp → Prop) : Res α → Prop
  | .ok a h' => ∀ m' H' b, Ext m m' H H' → Sm K m' h' H' → R m' H' a b → Q b H'
  | .exc c h' => ∀ m' H', Ext m m' H H' → Sm K m' h' H' → W (.ref (He.ga K c)) none σ H'
  | .bad => False
def rd {α β : Type} (R : Mp → Hp → α → β → Prop) (K : PySem.W.Frag) (W : WX) (f : SD → HC → Res α) : L2.St → Hp → (β → Hp → Prop) → Prop := fun σ H Q =>
  ∃ m s h, Sm K m h H ∧ Rs m H s σ ∧ post R K W σ m H Q (f s h)
def RelB (_ : Mp) (_ : Hp) (a b : Bool) : Prop := a = b
abbrev rE (K : PySem.W.Frag) (W : WX) (f : SD → HC → Res D) : TE := rd RelD K W f
abbrev rT (K : PySem.W.Frag) (W : WX) (f : SD → HC → Res Bool) : TT := rd RelB K W f
abbrev rA (K : PySem.W.Frag) (W : WX) (f : SD → HC → Res (List D)) : TA := rd RelDs K W f
abbrev EE := SD → HC → Res D
abbrev ET := SD → HC → Res Bool
abbrev EA := SD → HC → Res (List D)

section
variable {α β γ δ : Type} {R : Mp → Hp → α → β → Prop} {R' : Mp → Hp → γ → δ → Prop} {K : PySem.W.Frag} {W : WX} {σ : L2.St} {m m1 : Mp} {H H1 : Hp}
theorem post_ext {Q : β → Hp → Prop} {r : Res α} (p : post R K W σ m H Q r) (E : Ext m m1 H H1) : post R K W σ m1 H1 Q r := by
  cases r with
  | ok a h => exact fun m' H' b e S q => p m' H' b (E.trans e) S q
  | exc c h => exact fun m' H' e S => p m' H' (E.trans e) S
  | bad => exact p
theorem post_mono {Q Q' : β → Hp → Prop} {r : Res α} (p : post R K W σ m H Q r) (hq : ∀ b H', Q b H' → Q' b H') : post R K W σ m H Q' r := by
  cases r with
  | ok a h => exact fun m' H' b e S q => hq _ _ (p m' H' b e S q)
  | exc c h => exact p
  | bad => exact p
theorem rd_mono {Q Q' : β → Hp → Prop} {f : SD → HC → Res α} (p : rd R K W f σ H Q) (hq : ∀ b H', Q b H' → Q' b H') : rd R K W f σ H Q' := by
  obtain ⟨m, s, h, S, r, p⟩ := p
  exact ⟨m, s, h, S, r, post_mono p hq⟩
/-- the same, with what is known behind it -/
theorem rd_know {Q : β → Hp → Prop} {f : SD → HC → Res α} {m : Mp} {s : SD} {h : HC} (S : Sm K m h H) (r : Rs m H s σ)
    (p : post R K W σ m H Q (f s h)) : rd R K W f σ H Q := ⟨m, s, h, S, r, p⟩
theorem rd_bind {Q : δ → Hp → Prop} {f : SD → HC → Res α} {g : α → SD → HC → Res γ} (p : rd R' K W (fun s h => (f s h).bind fun a h1 => g a s h1) σ H Q) :
    rd R K W f σ H (fun b H1 => ∃ m1 s h1 a, Sm K m1 h1 H1 ∧ Rs m1 H1 s σ ∧ R m1 H1 a b ∧ post R' K W σ m1 H1 Q (g a s h1)) := by
  obtain ⟨m, s, h, S, r, p⟩ := p
  refine ⟨m, s, h, S, r, ?_⟩
  dsimp only at p
  cases e : f s h with
  | ok a h1 =>
    rw [e] at p
    exact fun m' H' b E S' q => ⟨m', s, h1, a, S', r.mono S E, q, post_ext p E⟩
  | exc c h1 =>
    rw [e] at p
    exact p
  | bad =>
    rw [e] at p
    exact p
end

section
variable {X : Cx} {W : WX} {e : Expr}
theorem PEw {t t' : TE} (h : PE X e t) (w : ∀ σ H Q, t' σ H Q → t σ H Q) : PE X e t' := ⟨fun pins s σ H Q I q => h.run pins s σ H Q I (w _ _ _ q)⟩
theorem PTw {t t' : TT} (h : PT X e t) (w : ∀ σ H Q, t' σ H Q → t σ H Q) : PT X e t' := ⟨fun pins s σ H Q I q => h.run pins s σ H Q I (w _ _ _ q)⟩
theorem PWw {t t' : TT} (h : PW X e t) (w : ∀ σ H Q, t' σ H Q → t σ H Q) : PW X e t' := ⟨fun wh pins s σ H Q I q => h.run wh pins s σ H Q I (w _ _ _ q)⟩
theorem PAw {es : List Expr} {t t' : TA} (h : PA X es t) (w : ∀ σ H Q, t' σ H Q → t σ H Q) : PA X es t' := ⟨fun pos pins s σ H Q I q => h.run pos pins s σ H Q I (w _ _ _ q)⟩
theorem PSw {st : Stmt} {t t' : TS} (h : PS X st t) (w : ∀ D σ H, t' D σ H → t D σ H) : PS X st t' := ⟨fun pins s σ H D I q => h.run pins s σ H D I (w _ _ _ q)⟩
theorem PSsw {st : List Stmt} {t t' : TS} (h : PSs X st t) (w : ∀ D σ H, t' D σ H → t D σ H) : PSs X st t' := ⟨fun pins s σ H D I q => h.run pins s σ H D I (w _ _ _ q)⟩
end

/-! ### names and constants -/
def fVar (i : Nat) : EE := fun s h => match s[i]? with
  | some (some d) => .ok d h
  | _ => .bad
def fC (d : D) : EE := fun _ h => .ok d h
section
variable {X : Cx} {W : WX} {e : Expr}
theorem se_of_var {i : Nat} (h : PE X e (tVar i)) : PE X e (rE X.K W (fVar i)) := PEw h fun σ H Q q => by
  obtain ⟨m, s, h, S, r, p⟩ := q
  unfold fVar at p
  cases e1 : s[i]? with
  | none => rw [e1] at p; exact p.elim
  | some o =>
    cases o with
    | none => rw [e1] at p; exact p.elim
    | some d =>
      rw [e1] at p
      obtain ⟨v, hv, hr⟩ := r.2 i d e1
      exact ⟨v, hv, p m H v Ext.refl S hr⟩
theorem sv (i : Nat) {x : Str} {pos : Pos} (hN : X.N[i]? = some x := by rfl) (hv : Vis X.env.scope x := by first | exact Or.inl rfl | exact Or.inr (Or.inl rfl) | exact Or.inr (Or.inr rfl)) (hd : (x == ("__debug__" : Str)) = false := by decide)
    (hcd : (x == ("__classdict__" : Str)) = false := by decide) : PE X (.Name x pos) (rE X.K W (fVar i)) := se_of_var (pe_var hN hv hd hcd)
theorem se_of_c {v : V} {d : D} (h : PE X e (tC v)) (hr : ∀ m H, RelD m H d v) : PE X e (rE X.K W (fC d)) := PEw h fun σ H Q q => by
  obtain ⟨m, s, h, S, r, p⟩ := q
  exact p m H v Ext.refl S (hr m H)
theorem se_int {i j pos} : PE X (.Constant (.int i) j pos) (rE X.K W (fC (.int i))) := se_of_c pe_int fun _ _ => by simp [RelD]
theorem se_bl {b j pos} : PE X (.Constant (.bool b) j pos) (rE X.K W (fC (.bl b))) := se_of_c pe_bl fun _ _ => by simp [RelD]
theorem se_non {j pos} : PE X (.Constant .none j pos) (rE X.K W (fC .non)) := se_of_c pe_non fun _ _ => by simp [RelD]
theorem se_str {x j pos} : PE X (.Constant (.str x) j pos) (rE X.K W (fC (.str x))) := se_of_c pe_str fun _ _ => by simp [RelD]
/-- a constant of the module -/
theorem se_gint {x : Str} {i : Int} {pos : Pos} (hm : ∃ t, X.mg x = some (.int i t)) (hg : Gl X x := by rfl) (hd : (x == ("__debug__" : Str)) = false := by decide) : PE X (.Name x pos) (rE X.K W (fC (.int i))) := by
  obtain ⟨t, hm⟩ := hm
  exact se_of_c (pe_glob hg hm (v := .int i) ⟨t, rfl⟩ hd) fun _ _ => by simp [RelD]
end

/-! ### operators by values -/
def OpS (K : PySem.W.Frag) (r : R2) (op : D → D → HC → Res D) : Prop :=
  ∀ (W : WX) (σ : L2.St) (m : Mp) (h : HC) (H : Hp) (d1 d2 : D) (v1 v2 : V) (Q : VK), Sm K m h H → RelD m H d1 v1 → RelD m H d2 v2 → post RelD K W σ m H Q (op d1 d2 h) → r v1 v2 H Q
def fOp (op : D → D → HC → Res D) (a b : EE) : EE := fun s h => (a s h).bind fun x h1 => (b s h1).bind fun y h2 => op x y h2
section
variable {X : Cx} {W : WX} {a b c : Expr} {fa fb fc : EE} {pos : Pos} {r r' : R2} {op op' : D → D → HC → Res D}
theorem tOp_of {K : PySem.W.Frag} (hs : OpS K r op) (σ : L2.St) (H : Hp) (Q : VK) (q : rE K W (fOp op fa fb) σ H Q) : tOp r (rE K W fa) (rE K W fb) σ H Q := by
  refine rd_mono (rd_bind (R := RelD) (f := fa) (g := fun x s h1 => (fb s h1).bind fun y h2 => op x y h2) q) fun x H1 ⟨m1, s, h1, d1, S1, r1, q1, p1⟩ => ?_
  refine ⟨m1, s, h1, S1, r1, ?_⟩
  cases e : fb s h1 with
  | ok d2 h2 =>
    rw [e] at p1
    exact fun m2 H2 y E2 S2 q2 => hs W σ m2 h2 H2 d1 d2 x y Q S2 (q1.mono S1 E2) q2 (post_ext p1 E2)
  | exc c h2 =>
    rw [e] at p1
    exact p1
  | bad =>
    rw [e] at p1
    exact p1
theorem se_op {o : Operator} (ho : OpR X (binaryOp o) r) (hs : OpS X.K r op) (ha : PE X a (rE X.K W fa)) (hb : PE X b (rE X.K W fb)) : PE X (.BinOp a o b pos) (rE X.K W (fOp op fa fb)) :=
  PEw (pe_op ho ha hb) (tOp_of hs)
theorem se_cmp {o : CmpOp} (ho : OpR X (compareOp o) r) (hs : OpS X.K r op) (ha : PE X a (rE X.K W fa)) (hb : PE X b (rE X.K W fb)) (hm : behindInMarks o b = false := by first | exact nomark _ | rfl) : PE X (.Compare a [o] [b] pos) (rE X.K W (fOp op fa fb)) :=
  PEw (pe_cmpR ho ha hb hm) (tOp_of hs)
theorem OpS.or {K : PySem.W.Frag} (h : ∀ d1 d2 h, op' d1 d2 h = .bad ∨ op' d1 d2 h = op d1 d2 h) (hs : OpS K r op) : OpS K r op' := fun W σ m hh H d1 d2 v1 v2 Q S r1 r2 p => by
  rcases h d1 d2 hh with e | e
  · rw [e] at p; exact p.elim
  · rw [e] at p; exact hs W σ m hh H d1 d2 v1 v2 Q S r1 r2 p
end

/-! ### arithmetic, texts, lists, tuples -/
def BIG : Nat := 100000
theorem big_le : BIG ≤ sizeLine := by rw [sizeLine_eq]; decide
def newL (xs : List D) (h : HC) : Res D := if xs.length ≤ BIG then .ok (.ref h.length) (h ++ [.lst xs]) else .bad
def mkT (xs : List D) (h : HC) : Res D := if xs.length ≤ BIG then .ok (.tup xs) h else .bad
def opAdd : D → D → HC → Res D
  | .int a, .int b, h => .ok (.int (a + b)) h
  | .str a, .str b, h => if a.length + b.length ≤ BIG then .ok (.str (a ++ b)) h else .bad
  | .tup a, .tup b, h => mkT (a ++ b) h
  | .ref a, .ref b, h => (match h[a]?, h[b]? with
    | some (.lst xs), some (.lst ys) => newL (xs ++ ys) h
    | _, _ => .bad)
  | _, _, _ => .bad
def opSub : D → D → HC → Res D
  | .int a, .int b, h => .ok (.int (a - b)) h
  | _, _, _ => .bad
def mulOk (i j : Int) : Bool := (decide (-(2 ^ 64) < i) && decide (i < 2 ^ 64)) || (decide (-(2 ^ 64) < j) && decide (j < 2 ^ 64))
def opMul : D → D → HC → Res D
  | .int a, .int b, h => if mulOk a b then .ok (.int (a * b)) h else .bad
  | .ref a, .int k, h => (match h[a]? with
    | some (.lst xs) => if -(2 ^ 63) ≤ k ∧ k < 2 ^ 63 then newL (List.replicate k.toNat xs).flatten h else .bad
    | _ => .bad)
  | .tup xs, .int k, h => if xs ≠ [] ∧ 2 ≤ k ∧ k ≤ 1000 ∧ xs.length ≤ 1000 then .ok (.tup (List.replicate k.toNat xs).flatten) h else .bad
  | _, _, _ => .bad
def opMod : D → D → HC → Res D
  | .int a, .int b, h => if 0 < b then .ok (.int (a % b)) h else .bad
  | _, _, _ => .bad
def opDiv : D → D → HC → Res D
  | .int a, .int b, h => if 0 < b ∧ b < 1073741824 then .ok (.int (a / b)) h else .bad
  | _, _, _ => .bad
def opPow : D → D → HC → Res D
  | .int a, .int b, h => if 0 ≤ b ∧ b ≤ 1000000 ∧ a.natAbs < 2 ^ 64 then .ok (.int (a ^ b.toNat)) h else .bad
  | _, _, _ => .bad
def opI (g : Int → Int → Bool) : D → D → HC → Res D
  | .int a, .int b, h => .ok (.bl (g a b)) h
  | _, _, _ => .bad
abbrev opLt := opI fun i j => decide (i < j)
abbrev opLe := opI fun i j => decide (i ≤ j)
abbrev opGt := opI fun i j => decide (j < i)
abbrev opGe := opI fun i j => decide (j ≤ i)

section
variable {K : PySem.W.Frag}
theorem newL_ok {W : WX} {σ : L2.St} {m : Mp} {h : HC} {H : Hp} {xs : List D} {vs : List V} {Q : VK} {R : Prop} (S : Sm K m h H) (r : RelDs m H xs vs) (p : post RelD K W σ m H Q (newL xs h))
    (k : vs.length ≤ sizeLine → (∀ p, H p = none → Q (.ref p) (upd H p (.lst vs))) → R) : R := by
  unfold newL at p
  split at p
  · rename_i hl
    refine k (by rw [← r.len]; exact Nat.le_trans hl big_le) fun q hq => ?_
    obtain ⟨S1, E1⟩ := S.newC (o := .lst vs) (c := .lst xs) hq ⟨vs, upd_same, r.mono S (S.newT (o := .lst vs) hq).2⟩
    refine p _ _ _ E1 S1 ?_
    simp only [RelD]
    exact ⟨q, by rw [S.len]; exact Mp.last, rfl⟩
  · exact p.elim
theorem mkT_ok {W : WX} {σ : L2.St} {m : Mp} {h : HC} {H : Hp} {xs : List D} {vs : List V} {Q : VK} {R : Prop} (S : Sm K m h H) (r : RelDs m H xs vs) (p : post RelD K W σ m H Q (mkT xs h))
    (k : vs.length ≤ sizeLine → (∀ p, H p = none → Q (.ref p) (upd H p (.tup vs))) → (∀ p, H p = some (.tup vs) → Q (.ref p) H) → R) : R := by
  unfold mkT at p
  split at p
  · rename_i hl
    refine k (by rw [← r.len]; exact Nat.le_trans hl big_le) (fun q hq => ?_) (fun q hq => ?_)
    · obtain ⟨S1, E1⟩ := S.newT (o := .tup vs) hq
      refine p _ _ _ E1 S1 ?_
      simp only [RelD]
      exact ⟨q, vs, rfl, upd_same, r.mono S E1⟩
    · refine p _ _ _ Ext.refl S ?_
      simp only [RelD]
      exact ⟨q, vs, rfl, hq, r⟩
  · exact p.elim
theorem Sm.lst (S : Sm K m h H) {n : Nat} {v : V} {xs : List D} (r : RelD m H (.ref n) v) (e : h[n]? = some (.lst xs)) : ∃ a vs, v = .ref a ∧ m.ad[n]? = some a ∧ H a = some (.lst vs) ∧ RelDs m H xs vs := by
  simp only [RelD] at r
  obtain ⟨a, ha, rfl⟩ := r
  obtain ⟨vs, hv, hr⟩ := S.cell n _ a e ha
  exact ⟨a, vs, rfl, ha, hv, hr⟩
theorem RelDs.nil_iff {ds : List D} {vs : List V} (r : RelDs m H ds vs) : ds = [] ↔ vs = [] := by
  have := r.len
  cases ds <;> cases vs <;> simp_all

def rAddAll (K : PySem.W.Frag) : R2 := fun x y H Q => (rI0 fun i j => .int (i + j)) x y H Q ∨ ((fun x y H Q => ∃ i j, x = .str i ∧ y = .str j ∧ i.length + j.length ≤ sizeLine ∧ Q (.str (i ++ j)) H) : R2) x y H Q ∨ rCatA K x y H Q ∨ rCat x y H Q
theorem op_addAll {X : Cx} : OpR X (binaryOp .Add) (rAddAll X.K) := op_add.or (op_add_str.or (op_catA.or op_cat))
theorem os_add : OpS K (rAddAll K) opAdd := by
  intro W σ m h H d1 d2 v1 v2 Q S r1 r2 p
  unfold opAdd at p
  split at p
  · simp only [RelD] at r1 r2
    exact .inl ⟨_, _, r1, r2, p _ _ _ Ext.refl S (by simp [RelD])⟩
  · simp only [RelD] at r1 r2
    split at p
    · rename_i hl
      exact .inr (.inl ⟨_, _, r1, r2, Nat.le_trans hl big_le, p _ _ _ Ext.refl S (by simp [RelD])⟩)
    · exact p.elim
  · rename_i a b
    simp only [RelD] at r1 r2
    obtain ⟨p1, vs1, rfl, h1, q1⟩ := r1
    obtain ⟨p2, vs2, rfl, h2, q2⟩ := r2
    refine mkT_ok S (q1.append q2) p fun hl k1 k2 => .inr (.inr (.inl ⟨p1, p2, vs1, vs2, rfl, rfl, SqT.of h1, SqT.of h2, by simpa using hl, fun e => ?_, fun _ e => ?_, fun _ _ => k1⟩))
    · subst e
      exact k2 p2 (by simpa using h2)
    · subst e
      exact k2 p1 (by simpa using h1)
  · split at p
    · rename_i xs ys e1 e2
      obtain ⟨a1, vs1, rfl, _, h1, q1⟩ := S.lst r1 e1
      obtain ⟨a2, vs2, rfl, _, h2, q2⟩ := S.lst r2 e2
      exact newL_ok S (q1.append q2) p fun hl k => .inr (.inr (.inr ⟨a1, a2, vs1, vs2, rfl, rfl, h1, h2, by simpa using hl, k⟩))
    · exact p.elim
  · exact p.elim
theorem os_sub : OpS K (rI0 fun i j => .int (i - j)) opSub := by
  intro W σ m h H d1 d2 v1 v2 Q S r1 r2 p
  unfold opSub at p
  split at p
  · simp only [RelD] at r1 r2
    exact ⟨_, _, r1, r2, p _ _ _ Ext.refl S (by simp [RelD])⟩
  · exact p.elim
theorem mulOk_ok {i j : Int} (h : mulOk i j = true) : CMul i j := by
  unfold mulOk at h
  rcases Bool.or_eq_true_iff.mp h with h | h
  · obtain ⟨h1, h2⟩ := Bool.and_eq_true_iff.mp h
    exact .inl ⟨of_decide_eq_true h1, of_decide_eq_true h2⟩
  · obtain ⟨h1, h2⟩ := Bool.and_eq_true_iff.mp h
    exact .inr ⟨of_decide_eq_true h1, of_decide_eq_true h2⟩
def rMulAll (K : PySem.W.Frag) : R2 := fun x y H Q => (rI CMul fun i j => .int (i * j)) x y H Q ∨ rRep x y H Q ∨ rRepT K x y H Q
theorem op_mulAll {X : Cx} : OpR X (binaryOp .Mult) (rMulAll X.K) := op_mul.or (op_rep.or op_repT)
theorem os_mul : OpS K (rMulAll K) opMul := by
  intro W σ m h H d1 d2 v1 v2 Q S r1 r2 p
  unfold opMul at p
  split at p
  · simp only [RelD] at r1 r2
    split at p
    · rename_i hc
      exact .inl ⟨_, _, r1, r2, mulOk_ok hc, p _ _ _ Ext.refl S (by simp [RelD])⟩
    · exact p.elim
  · split at p
    · rename_i xs e1
      split at p
      · rename_i hk
        obtain ⟨a1, vs1, rfl, _, h1, q1⟩ := S.lst r1 e1
        simp only [RelD] at r2
        refine newL_ok S (q1.rep _) p fun hl k => .inr (.inl ⟨a1, _, vs1, rfl, r2, h1, hk.1, hk.2, ?_, k⟩)
        simpa [Nat.mul_comm] using hl
      · exact p.elim
    · exact p.elim
  · split at p
    · rename_i xs k hk
      simp only [RelD] at r1 r2
      obtain ⟨p1, vs1, rfl, h1, q1⟩ := r1
      refine .inr (.inr ⟨p1, k, vs1, rfl, r2, SqT.of h1, fun z => hk.1 (q1.nil_iff.mpr z), hk.2.1, hk.2.2.1, by rw [← q1.len]; exact hk.2.2.2, fun q hq => ?_⟩)
      obtain ⟨S1, E1⟩ := S.newT (o := .tup (List.replicate k.toNat vs1).flatten) hq
      refine p _ _ _ E1 S1 ?_
      simp only [RelD]
      exact ⟨q, _, rfl, upd_same, (q1.rep _).mono S E1⟩
    · exact p.elim
  · exact p.elim
theorem os_mod : OpS K (rI (fun _ j => 0 < j) fun i j => .int (i % j)) opMod := by
  intro W σ m h H d1 d2 v1 v2 Q S r1 r2 p
  unfold opMod at p
  split at p
  · simp only [RelD] at r1 r2
    split at p
    · rename_i hc
      exact ⟨_, _, r1, r2, hc, p _ _ _ Ext.refl S (by simp [RelD])⟩
    · exact p.elim
  · exact p.elim
theorem os_div : OpS K (rI CDiv fun i j => .int (i / j)) opDiv := by
  intro W σ m h H d1 d2 v1 v2 Q S r1 r2 p
  unfold opDiv at p
  split at p
  · simp only [RelD] at r1 r2
    split at p
    · rename_i hc
      exact ⟨_, _, r1, r2, hc, p _ _ _ Ext.refl S (by simp [RelD])⟩
    · exact p.elim
  · exact p.elim
theorem os_pow : OpS K (rI CPow fun i j => .int (i ^ j.toNat)) opPow := by
  intro W σ m h H d1 d2 v1 v2 Q S r1 r2 p
  unfold opPow at p
  split at p
  · simp only [RelD] at r1 r2
    split at p
    · rename_i hc
      exact ⟨_, _, r1, r2, hc, p _ _ _ Ext.refl S (by simp [RelD])⟩
    · exact p.elim
  · exact p.elim
theorem os_I {g : Int → Int → Bool} : OpS K (rI0 fun i j => .bl (g i j)) (opI g) := by
  intro W σ m h H d1 d2 v1 v2 Q S r1 r2 p
  unfold opI at p
  split at p
  · simp only [RelD] at r1 r2
    exact ⟨_, _, r1, r2, p _ _ _ Ext.refl S (by simp [RelD])⟩
  · exact p.elim
end

end G9

set_option Elab.async false
set_option linter.all false
set_option maxRecDepth 100000
set_option maxHeartbeats 2000000
namespace G9
open PySem PySem.Spec PyProof.Rows L2

/-! ### data as a whole -/
def optAll {α : Type} : List (Option α) → Option (List α)
  | [] => some []
  | some a :: r => (optAll r).map (a :: ·)
  | none :: _ => none
def toPy (h : HC) : Nat → D → Option PyData
  | 0, _ => none
  | n + 1, d => match d with
    | .non => some .none
    | .bl b => some (.bool b)
    | .int i => some (.int i)
    | .str s => if PyData.strOk s = true then some (.str s) else none
    | .tup xs => (optAll (xs.map (toPy h n))).map .tuple
    | .ref a => match h[a]? with
      | some (.lst xs) => (optAll (xs.map (toPy h n))).map .list
      | _ => none
    | .scr _ => none
section
variable {K : PySem.W.Frag} {m : Mp} {h : HC} {H : Hp}
theorem optAll_dp {n : Nat} (ih : ∀ (d : D) (v : V) (p : PyData), RelD m H d v → toPy h n d = some p → Dp K H v p) : ∀ (ds : List D) (vs : List V) (ps : List PyData), RelDs m H ds vs → optAll (ds.map (toPy h n)) = some ps → DpAll K H vs ps
  | [], vs, ps, r, e => by
    simp only [RelDs] at r
    subst r
    simp [optAll] at e
    subst e
    exact .nil
  | d :: ds, vs, ps, r, e => by
    simp only [RelDs] at r
    obtain ⟨v, vs', rfl, h1, h2⟩ := r
    cases q : toPy h n d with
    | none => simp [optAll, q] at e
    | some p =>
      cases q2 : optAll (ds.map (toPy h n)) with
      | none => simp [optAll, q, q2] at e
      | some ps' =>
        simp [optAll, q, q2] at e
        subst e
        exact .cons (ih d v p h1 q) (optAll_dp ih ds vs' ps' h2 q2)
theorem toPy_ok (S : Sm K m h H) : ∀ (n : Nat) (d : D) (v : V) (p : PyData), RelD m H d v → toPy h n d = some p → Dp K H v p
  | 0, d, v, p, r, e => by simp [toPy] at e
  | n + 1, d, v, p, r, e => by
    cases d with
    | scr _ => simp [toPy] at e
    | non => simp [toPy] at e; simp only [RelD] at r; subst e r; exact .non
    | bl b => simp [toPy] at e; simp only [RelD] at r; subst e r; exact .bl b
    | int i => simp [toPy] at e; simp only [RelD] at r; subst e r; exact .int i
    | str s =>
      simp only [toPy] at e
      simp only [RelD] at r
      split at e
      · cases e; subst r; exact .str s
      · cases e
    | tup xs =>
      simp only [toPy] at e
      simp only [RelD] at r
      obtain ⟨q, vs, rfl, hq, hr⟩ := r
      cases o : optAll (xs.map (toPy h n)) with
      | none => simp [o] at e
      | some ps =>
        simp [o] at e
        subst e
        exact .tup (SqT.of hq) (optAll_dp (fun d v p => toPy_ok S n d v p) xs vs ps hr o)
    | ref a =>
      simp only [toPy] at e
      split at e
      · rename_i xs he
        obtain ⟨b, vs, rfl, _, hb, hr⟩ := S.lst r he
        cases o : optAll (xs.map (toPy h n)) with
        | none => simp [o] at e
        | some ps =>
          simp [o] at e
          subst e
          exact .lst (SqL.of hb) (optAll_dp (fun d v p => toPy_ok S n d v p) xs vs ps hr o)
      · cases e
theorem optAll_lay {n : Nat} (ih : ∀ (d : D) (p : PyData), toPy h n d = some p → p.canLay0 = true ∧ p.depth ≤ n) : ∀ (ds : List D) (ps : List PyData), optAll (ds.map (toPy h n)) = some ps → PyData.canLayAll0 ps = true ∧ PyData.depthAll ps ≤ n
  | [], ps, e => by
    simp [optAll] at e
    subst e
    exact ⟨rfl, Nat.zero_le _⟩
  | d :: ds, ps, e => by
    cases q : toPy h n d with
    | none => simp [optAll, q] at e
    | some p =>
      cases q2 : optAll (ds.map (toPy h n)) with
      | none => simp [optAll, q, q2] at e
      | some ps' =>
        simp [optAll, q, q2] at e
        subst e
        obtain ⟨a1, a2⟩ := ih d p q
        obtain ⟨b1, b2⟩ := optAll_lay ih ds ps' q2
        refine ⟨by simp [PyData.canLayAll0, a1, b1], ?_⟩
        simp only [PyData.depthAll]
        omega
theorem toPy_lay : ∀ (n : Nat) (d : D) (p : PyData), toPy h n d = some p → p.canLay0 = true ∧ p.depth ≤ n
  | 0, d, p, e => by simp [toPy] at e
  | n + 1, d, p, e => by
    cases d with
    | scr _ => simp [toPy] at e
    | non => simp [toPy] at e; subst e; simp [PyData.canLay0, PyData.depth]
    | bl b => simp [toPy] at e; subst e; simp [PyData.canLay0, PyData.depth]
    | int i => simp [toPy] at e; subst e; simp [PyData.canLay0, PyData.depth]
    | str s =>
      simp only [toPy] at e
      split at e
      · rename_i hs
        cases e
        exact ⟨by simpa [PyData.canLay0] using hs, by simp [PyData.depth]⟩
      · cases e
    | tup xs =>
      simp only [toPy] at e
      cases o : optAll (xs.map (toPy h n)) with
      | none => simp [o] at e
      | some ps =>
        simp [o] at e
        subst e
        obtain ⟨b1, b2⟩ := optAll_lay (fun d p => toPy_lay n d p) xs ps o
        exact ⟨by simpa [PyData.canLay0] using b1, by simp only [PyData.depth]; omega⟩
    | ref a =>
      simp only [toPy] at e
      split at e
      · rename_i xs he
        cases o : optAll (xs.map (toPy h n)) with
        | none => simp [o] at e
        | some ps =>
          simp [o] at e
          subst e
          obtain ⟨b1, b2⟩ := optAll_lay (fun d p => toPy_lay n d p) xs ps o
          exact ⟨by simpa [PyData.canLay0] using b1, by simp only [PyData.depth]; omega⟩
      · cases e
theorem toPy_shaped {n : Nat} {d : D} {p : PyData} (hn : n ≤ 64) (e : toPy h n d = some p) : SeqAt.shaped p = true := by
  obtain ⟨a, b⟩ := toPy_lay n d p e
  unfold SeqAt.shaped
  rw [a, decide_eq_true (Nat.le_trans b hn)]
  rfl
end
def opEq : D → D → HC → Res D := fun x y h => match toPy h 9 x, toPy h 9 y with
  | some a, some b => .ok (.bl (PyData.eqv a b)) h
  | _, _ => .bad
def opNe : D → D → HC → Res D := fun x y h => match toPy h 9 x, toPy h 9 y with
  | some a, some b => .ok (.bl (!PyData.eqv a b)) h
  | _, _ => .bad
/-- flat values -/
def flatD : D → Option V
  | .non => some .non
  | .bl b => some (.bl b)
  | .int i => some (.int i)
  | .str s => some (.str s)
  | _ => none
def opInB (neg : Bool) : D → D → HC → Res D
  | .str a, .str z, h => (match a.cps.toList with
    | [c] => .ok (.bl (if neg then !decide (c ∈ z.cps.toList) else decide (c ∈ z.cps.toList))) h
    | _ => .bad)
  | x, .tup ys, h => (match flatD x, optAll (ys.map flatD) with
    | some v, some vs => .ok (.bl (if neg then !inV v vs else inV v vs)) h
    | _, _ => .bad)
  | x, .ref n, h => (match toPy h 9 x, toPy h 9 (.ref n) with
    | some a, some (.list ds) => .ok (.bl (if neg then !(ds.any fun z => PyData.eqv z a) else ds.any fun z => PyData.eqv z a)) h
    | _, _ => .bad)
  | _, _, _ => .bad
abbrev opIn := opInB false
abbrev opNotIn := opInB true
def opIsN : D → D → HC → Res D
  | x, .non, h => .ok (.bl (decide (x = .non))) h
  | _, _, _ => .bad
def opNotN : D → D → HC → Res D
  | x, .non, h => .ok (.bl (!decide (x = .non))) h
  | _, _, _ => .bad
section
variable {K : PySem.W.Frag} {m : Mp} {h : HC} {H : Hp}
theorem os_eq : OpS K (rEqD K) opEq := by
  intro W σ m h H d1 d2 v1 v2 Q S r1 r2 p
  unfold opEq at p
  split at p
  · rename_i a b e1 e2
    exact ⟨a, b, toPy_ok S _ _ _ _ r1 e1, toPy_ok S _ _ _ _ r2 e2, toPy_shaped (by decide) e1, toPy_shaped (by decide) e2, p _ _ _ Ext.refl S (by simp [RelD])⟩
  · exact p.elim
theorem os_ne : OpS K (rNeD K) opNe := by
  intro W σ m h H d1 d2 v1 v2 Q S r1 r2 p
  unfold opNe at p
  split at p
  · rename_i a b e1 e2
    exact ⟨a, b, toPy_ok S _ _ _ _ r1 e1, toPy_ok S _ _ _ _ r2 e2, toPy_shaped (by decide) e1, toPy_shaped (by decide) e2, p _ _ _ Ext.refl S (by simp [RelD])⟩
  · exact p.elim
theorem flatD_ok {d : D} {v v' : V} (e : flatD d = some v') (r : RelD m H d v) : v = v' ∧ flatV v' = true := by
  cases d <;> simp [flatD] at e <;> subst e <;> simp only [RelD] at r <;> subst r <;> exact ⟨rfl, rfl⟩
theorem flatDs_ok : ∀ {ds : List D} {vs vs' : List V}, optAll (ds.map flatD) = some vs' → RelDs m H ds vs → vs = vs' ∧ vs'.all flatV = true
  | [], vs, vs', e, r => by
    simp only [RelDs] at r
    simp [optAll] at e
    subst e r
    exact ⟨rfl, rfl⟩
  | d :: ds, vs, vs', e, r => by
    simp only [RelDs] at r
    obtain ⟨v, ws, rfl, h1, h2⟩ := r
    cases q : flatD d with
    | none => simp [optAll, q] at e
    | some u =>
      cases q2 : optAll (ds.map flatD) with
      | none => simp [optAll, q, q2] at e
      | some us =>
        simp [optAll, q, q2] at e
        subst e
        obtain ⟨a1, a2⟩ := flatD_ok q h1
        obtain ⟨b1, b2⟩ := flatDs_ok q2 h2
        exact ⟨by rw [a1, b1], by simp [a2]; simpa using b2⟩
def rInAll (K : PySem.W.Frag) : R2 := fun x y H Q => rInS x y H Q ∨ rIn K false x y H Q ∨ rInD K x y H Q
def rNotInAll (K : PySem.W.Frag) : R2 := fun x y H Q => rNotInS x y H Q ∨ rIn K true x y H Q ∨ rNotInD K x y H Q
theorem op_inAll {X : Cx} (hu : X.A.units + 65 < cLine) : OpR X (compareOp .In) (rInAll X.K) := op_inS.or (op_in_seq.or (op_inD hu))
theorem op_notInAll {X : Cx} (hu : X.A.units + 65 < cLine) : OpR X (compareOp .NotIn) (rNotInAll X.K) := op_notInS.or (op_notIn_seq.or (op_notInD hu))
theorem sign_eq {a : Str} {c : Nat} (e : a.cps.toList = [c]) : a = ⟨#[c]⟩ := by
  cases a with
  | mk cps =>
    cases cps with
    | mk l =>
      simp at e
      subst e
      rfl
theorem os_in : OpS K (rInAll K) opIn := by
  intro W σ m h H d1 d2 v1 v2 Q S r1 r2 p
  unfold opIn opInB at p
  split at p
  · split at p
    · rename_i c e
      simp only [RelD] at r1 r2
      rw [sign_eq e] at r1
      exact .inl ⟨c, _, r1, r2, p _ _ _ Ext.refl S (by simp [RelD])⟩
    · exact p.elim
  · split at p
    · rename_i v vs e1 e2
      obtain ⟨rfl, f1⟩ := flatD_ok e1 r1
      simp only [RelD] at r2
      obtain ⟨q, us, rfl, hq, hr⟩ := r2
      obtain ⟨rfl, f2⟩ := flatDs_ok e2 hr
      exact .inr (.inl ⟨q, us, rfl, .inr (SqT.of hq), f1, f2, p _ _ _ Ext.refl S (by simp [RelD])⟩)
    · exact p.elim
  · split at p
    · rename_i a ds e1 e2
      exact .inr (.inr ⟨a, ds, toPy_ok S _ _ _ _ r1 e1, toPy_ok S _ _ _ _ r2 e2, toPy_shaped (by decide) e1, toPy_shaped (by decide) e2, p _ _ _ Ext.refl S (by simp [RelD])⟩)
    · exact p.elim
  · exact p.elim
theorem os_notIn : OpS K (rNotInAll K) opNotIn := by
  intro W σ m h H d1 d2 v1 v2 Q S r1 r2 p
  unfold opNotIn opInB at p
  split at p
  · split at p
    · rename_i c e
      simp only [RelD] at r1 r2
      rw [sign_eq e] at r1
      exact .inl ⟨c, _, r1, r2, p _ _ _ Ext.refl S (by simp [RelD])⟩
    · exact p.elim
  · split at p
    · rename_i v vs e1 e2
      obtain ⟨rfl, f1⟩ := flatD_ok e1 r1
      simp only [RelD] at r2
      obtain ⟨q, us, rfl, hq, hr⟩ := r2
      obtain ⟨rfl, f2⟩ := flatDs_ok e2 hr
      exact .inr (.inl ⟨q, us, rfl, .inr (SqT.of hq), f1, f2, p _ _ _ Ext.refl S (by simp [RelD])⟩)
    · exact p.elim
  · split at p
    · rename_i a ds e1 e2
      exact .inr (.inr ⟨a, ds, toPy_ok S _ _ _ _ r1 e1, toPy_ok S _ _ _ _ r2 e2, toPy_shaped (by decide) e1, toPy_shaped (by decide) e2, p _ _ _ Ext.refl S (by simp [RelD])⟩)
    · exact p.elim
  · exact p.elim
theorem RelD.non_iff {d : D} {v : V} (r : RelD m H d v) : decide (v = .non) = decide (d = .non) := by
  cases d <;> simp only [RelD] at r
  · subst r; simp
  · subst r; simp
  · subst r; simp
  · subst r; simp
  · obtain ⟨p, vs, rfl, _⟩ := r; simp
  · obtain ⟨a, _, rfl⟩ := r; simp
  · obtain ⟨rfl, _⟩ := r; simp
theorem os_isN : OpS K rIsN opIsN := by
  intro W σ m h H d1 d2 v1 v2 Q S r1 r2 p
  unfold opIsN at p
  split at p
  · simp only [RelD] at r2
    exact ⟨r2, by rw [r1.non_iff]; exact p _ _ _ Ext.refl S (by simp [RelD])⟩
  · exact p.elim
theorem os_notN : OpS K rNotN opNotN := by
  intro W σ m h H d1 d2 v1 v2 Q S r1 r2 p
  unfold opNotN at p
  split at p
  · simp only [RelD] at r2
    exact ⟨r2, by rw [r1.non_iff]; exact p _ _ _ Ext.refl S (by simp [RelD])⟩
  · exact p.elim
end

/-! ### truth and tests -/
def truD (h : HC) : D → Option Bool
  | .non => some false
  | .bl b => some b
  | .int i => some (i != 0)
  | .str s => if s.length ≤ BIG then some ((s.length : Int) != 0) else none
  | .tup xs => some (!xs.isEmpty)
  | .ref n => match h[n]? with
    | some (.lst xs) => some (!xs.isEmpty)
    | some (.dk xs) => some (!xs.isEmpty)
    | _ => none
  | .scr _ => none
theorem RelDs.isEmpty {m : Mp} {H : Hp} {ds : List D} {vs : List V} (r : RelDs m H ds vs) : ds.isEmpty = vs.isEmpty := by
  have := r.len
  cases ds <;> cases vs <;> simp_all
theorem RelK.isEmpty {κ : Type} {m : Mp} {H : Hp} {ds : List (κ × D)} {vs : List (κ × V)} (r : RelK m H ds vs) : ds.isEmpty = vs.isEmpty := by
  cases ds with
  | nil => simp only [RelK] at r; subst r; rfl
  | cons d ds =>
    simp only [RelK] at r
    obtain ⟨v, vs', rfl, _⟩ := r
    rfl
theorem truD_ok {K : PySem.W.Frag} {m : Mp} {h : HC} {H : Hp} {d : D} {v : V} {b : Bool} (S : Sm K m h H) (r : RelD m H d v) (e : truD h d = some b) : TruV K v H b := by
  cases d with
  | scr _ => simp [truD] at e
  | non => simp [truD] at e; simp only [RelD] at r; subst e r; rfl
  | bl b => simp [truD] at e; simp only [RelD] at r; subst e r; rfl
  | int i => simp only [truD, Option.some.injEq] at e; simp only [RelD] at r; subst r; exact e.symm
  | str s =>
    simp only [truD] at e
    simp only [RelD] at r
    subst r
    split at e
    · rename_i hl
      cases e
      exact ⟨Nat.le_trans hl big_le, rfl⟩
    · cases e
  | tup xs =>
    simp only [truD, Option.some.injEq] at e
    simp only [RelD] at r
    obtain ⟨p, vs, rfl, hp, hr⟩ := r
    exact .inr (.inl ⟨vs, SqT.of hp, by rw [← e, hr.isEmpty]⟩)
  | ref n =>
    simp only [truD] at e
    simp only [RelD] at r
    obtain ⟨a, ha, rfl⟩ := r
    split at e
    · rename_i xs hx
      obtain ⟨vs, hv, hr⟩ := S.cell n _ a hx ha
      cases e
      exact .inl ⟨vs, SqL.of hv, by rw [hr.isEmpty]⟩
    · rename_i xs hx
      obtain ⟨vs, hv, hr⟩ := S.cell n _ a hx ha
      cases e
      exact .inr (.inr ⟨vs, hv, by rw [hr.isEmpty]⟩)
    · cases e
def fTru (a : EE) : ET := fun s h => (a s h).bind fun x h1 => match truD h1 x with
  | some b => .ok b h1
  | none => .bad
def fNot (a : ET) : ET := fun s h => (a s h).bind fun b h1 => .ok (!b) h1
def fAnd (a b : ET) : ET := fun s h => (a s h).bind fun x h1 => if x = true then b s h1 else .ok false h1
def fOr (a b : ET) : ET := fun s h => (a s h).bind fun x h1 => if x = true then .ok true h1 else b s h1
/-- as values -/
def fNotV (a : EE) : EE := fun s h => (a s h).bind fun x h1 => match truD h1 x with
  | some b => .ok (.bl (!b)) h1
  | none => .bad
def fAndV (a b : EE) : EE := fun s h => (a s h).bind fun x h1 => match truD h1 x with
  | some k => if k = true then b s h1 else .ok x h1
  | none => .bad
def fOrV (a b : EE) : EE := fun s h => (a s h).bind fun x h1 => match truD h1 x with
  | some k => if k = true then .ok x h1 else b s h1
  | none => .bad
def fIf (c : ET) (a b : EE) : EE := fun s h => (c s h).bind fun x h1 => if x = true then a s h1 else b s h1
def fChain (op op' : D → D → HC → Res D) (a b c : EE) : EE := fun s h => (a s h).bind fun x h1 => (b s h1).bind fun y h2 => (op x y h2).bind fun z h3 => match z with
  | .bl true => (c s h3).bind fun w h4 => op' y w h4
  | .bl false => .ok (.bl false) h3
  | _ => .bad
section
variable {X : Cx} {W : WX} {a b c : Expr} {fa fb fc : EE} {ga gb gc : ET} {pos : Pos} {rest : List Expr}
theorem st_tru (ha : PE X a (rE X.K W fa)) (he : ∀ whole, isTrue a X.env whole = (do let v ← whole; standAt a.pos; holding [v] (truthy v)) := by intro _; rfl) : PT X a (rT X.K W (fTru fa)) :=
  PTw (pt_truth ha he) fun σ H Q q => rd_mono (rd_bind (R := RelD) (f := fa) (g := fun x s h1 => match truD h1 x with | some b => .ok b h1 | none => .bad) q) fun x H1 ⟨m1, s, h1, d1, S1, r1, q1, p1⟩ => by
    split at p1
    · rename_i k e
      exact ⟨k, truD_ok S1 q1 e, p1 _ _ _ Ext.refl S1 rfl⟩
    · exact p1.elim
/-- a comparison as a test: its answer is a bool -/
def fBo (a : EE) : ET := fun s h => (a s h).bind fun x h1 => match x with
  | .bl b => .ok b h1
  | _ => .bad
theorem tTest_of {K : PySem.W.Frag} {t : TE} (w : ∀ σ H Q, rE K W fa σ H Q → t σ H Q) (σ : L2.St) (H : Hp) (Q : Bool → Hp → Prop) (q : rT K W (fBo fa) σ H Q) : tTest t σ H Q := by
  refine w σ H _ (rd_mono (rd_bind (R := RelD) (f := fa) (g := fun x s h1 => match x with | .bl b => .ok b h1 | _ => .bad) q) fun x H1 ⟨m1, s, h1, d1, S1, r1, q1, p1⟩ => ?_)
  split at p1
  · simp only [RelD] at q1
    exact ⟨_, q1, p1 _ _ _ Ext.refl S1 rfl⟩
  · exact p1.elim
theorem st_not (ha : PT X a (rT X.K W ga)) : PT X (.UnaryOp .Not a pos) (rT X.K W (fNot ga)) :=
  PTw (pt_not ha) fun σ H Q q => rd_mono (rd_bind (R := RelB) (f := ga) (g := fun b s h1 => .ok (!b) h1) q) fun x H1 ⟨m1, s, h1, d1, S1, r1, q1, p1⟩ => by
    obtain rfl : d1 = x := q1
    exact p1 _ _ _ Ext.refl S1 rfl
theorem sw_and1 (ha : PT X a (rT X.K W ga)) : PW X (.BoolOp .And [a] pos) (rT X.K W ga) := pw_and1 ha
theorem sw_or1 (ha : PT X a (rT X.K W ga)) : PW X (.BoolOp .Or [a] pos) (rT X.K W ga) := pw_or1 ha
theorem sw_and (ha : PT X a (rT X.K W ga)) (hb : PW X (.BoolOp .And (b :: rest) pos) (rT X.K W gb)) : PW X (.BoolOp .And (a :: b :: rest) pos) (rT X.K W (fAnd ga gb)) :=
  PWw (pw_and ha hb) fun σ H Q q => rd_mono (rd_bind (R := RelB) (f := ga) (g := fun x s h1 => if x = true then gb s h1 else .ok false h1) q) fun x H1 ⟨m1, s, h1, d1, S1, r1, q1, p1⟩ => by
    obtain rfl : d1 = x := q1
    cases d1 with
    | true => exact ⟨m1, s, h1, S1, r1, p1⟩
    | false => exact p1 _ _ _ Ext.refl S1 rfl
theorem sw_or (ha : PT X a (rT X.K W ga)) (hb : PW X (.BoolOp .Or (b :: rest) pos) (rT X.K W gb)) : PW X (.BoolOp .Or (a :: b :: rest) pos) (rT X.K W (fOr ga gb)) :=
  PWw (pw_or ha hb) fun σ H Q q => rd_mono (rd_bind (R := RelB) (f := ga) (g := fun x s h1 => if x = true then .ok true h1 else gb s h1) q) fun x H1 ⟨m1, s, h1, d1, S1, r1, q1, p1⟩ => by
    obtain rfl : d1 = x := q1
    cases d1 with
    | false => exact ⟨m1, s, h1, S1, r1, p1⟩
    | true => exact p1 _ _ _ Ext.refl S1 rfl
theorem se_notV (ha : PE X a (rE X.K W fa)) : PE X (.UnaryOp .Not a pos) (rE X.K W (fNotV fa)) :=
  PEw (pe_notT ha) fun σ H Q q => rd_mono (rd_bind (R := RelD) (f := fa) (g := fun x s h1 => match truD h1 x with | some b => .ok (D.bl (!b)) h1 | none => .bad) q) fun x H1 ⟨m1, s, h1, d1, S1, r1, q1, p1⟩ => by
    split at p1
    · rename_i k e
      exact ⟨k, truD_ok S1 q1 e, p1 _ _ _ Ext.refl S1 (by simp [RelD])⟩
    · exact p1.elim
theorem se_one {op} (h : PE X a (rE X.K W fa)) : PE X (.BoolOp op [a] pos) (rE X.K W fa) := pe_one h
theorem se_andV (ha : PE X a (rE X.K W fa)) (hb : PE X (.BoolOp .And (b :: rest) pos) (rE X.K W fb)) : PE X (.BoolOp .And (a :: b :: rest) pos) (rE X.K W (fAndV fa fb)) :=
  PEw (pe_andT ha hb) fun σ H Q q => rd_mono (rd_bind (R := RelD) (f := fa) (g := fun x s h1 => match truD h1 x with | some k => (if k = true then fb s h1 else .ok x h1) | none => .bad) q) fun x H1 ⟨m1, s, h1, d1, S1, r1, q1, p1⟩ => by
    split at p1
    · rename_i k e
      refine ⟨k, truD_ok S1 q1 e, ?_⟩
      cases k with
      | true => exact ⟨m1, s, h1, S1, r1, p1⟩
      | false => exact p1 _ _ _ Ext.refl S1 q1
    · exact p1.elim
theorem se_orV (ha : PE X a (rE X.K W fa)) (hb : PE X (.BoolOp .Or (b :: rest) pos) (rE X.K W fb)) : PE X (.BoolOp .Or (a :: b :: rest) pos) (rE X.K W (fOrV fa fb)) :=
  PEw (pe_orT ha hb) fun σ H Q q => rd_mono (rd_bind (R := RelD) (f := fa) (g := fun x s h1 => match truD h1 x with | some k => (if k = true then .ok x h1 else fb s h1) | none => .bad) q) fun x H1 ⟨m1, s, h1, d1, S1, r1, q1, p1⟩ => by
    split at p1
    · rename_i k e
      refine ⟨k, truD_ok S1 q1 e, ?_⟩
      cases k with
      | false => exact ⟨m1, s, h1, S1, r1, p1⟩
      | true => exact p1 _ _ _ Ext.refl S1 q1
    · exact p1.elim
theorem se_if (hc : PT X c (rT X.K W gc)) (ha : PE X a (rE X.K W fa)) (hb : PE X b (rE X.K W fb)) : PE X (.IfExp c a b pos) (rE X.K W (fIf gc fa fb)) :=
  PEw (pe_ifExp hc ha hb) fun σ H Q q => rd_mono (rd_bind (R := RelB) (f := gc) (g := fun x s h1 => if x = true then fa s h1 else fb s h1) q) fun x H1 ⟨m1, s, h1, d1, S1, r1, q1, p1⟩ => by
    obtain rfl : d1 = x := q1
    cases d1 with
    | true => exact ⟨m1, s, h1, S1, r1, p1⟩
    | false => exact ⟨m1, s, h1, S1, r1, p1⟩
variable {r r' : R2} {op op' : D → D → HC → Res D}
theorem st_cmp {o : CmpOp} (ho : OpR X (compareOp o) r) (hs : OpS X.K r op) (ha : PE X a (rE X.K W fa)) (hb : PE X b (rE X.K W fb)) (hm : behindInMarks o b = false := by first | exact nomark _ | rfl) :
    PT X (.Compare a [o] [b] pos) (rT X.K W (fBo (fOp op fa fb))) :=
  PTw (pt_cmpR ho ha hb hm) fun σ H Q q => tTest_of (tOp_of hs) σ H Q q
theorem tChain_of {K : PySem.W.Frag} (hs : OpS K r op) (hs' : OpS K r' op') (σ : L2.St) (H : Hp) (Q : VK) (q : rE K W (fChain op op' fa fb fc) σ H Q) : tChain r r' (rE K W fa) (rE K W fb) (rE K W fc) σ H Q := by
  refine rd_mono (rd_bind (R := RelD) (f := fa) (g := fun x s h1 => (fb s h1).bind fun y h2 => (op x y h2).bind fun z h3 => match z with
    | .bl true => (fc s h3).bind fun w h4 => op' y w h4
    | .bl false => .ok (.bl false) h3
    | _ => .bad) q) fun x H1 ⟨m1, s, h1, d1, S1, r1, q1, p1⟩ => ?_
  refine ⟨m1, s, h1, S1, r1, ?_⟩
  cases e : fb s h1 with
  | ok d2 h2 =>
    rw [e] at p1
    intro m2 H2 y E2 S2 q2
    have p2 := post_ext p1 E2
    refine hs W σ m2 h2 H2 d1 d2 x y _ S2 (q1.mono S1 E2) q2 ?_
    dsimp only [Res.bind] at p2
    cases e3 : op d1 d2 h2 with
    | ok z h3 =>
      rw [e3] at p2
      intro m3 H3 zv E3 S3 q3
      have p3 := post_ext p2 E3
      dsimp only at p3
      split at p3
      · simp only [RelD] at q3
        refine ⟨true, q3, ?_⟩
        rw [if_pos rfl]
        refine ⟨m3, s, h3, S3, (r1.mono S1 E2).mono S2 E3, ?_⟩
        cases e4 : fc s h3 with
        | ok d4 h4 =>
          rw [e4] at p3
          exact fun m4 H4 w E4 S4 q4 => hs' W σ m4 h4 H4 d2 d4 y w Q S4 ((q2.mono S2 E3).mono S3 E4) q4 (post_ext p3 E4)
        | exc c h4 => rw [e4] at p3; exact p3
        | bad => rw [e4] at p3; exact p3
      · simp only [RelD] at q3
        exact ⟨false, q3, by rw [if_neg Bool.false_ne_true]; exact p3 _ _ _ Ext.refl S3 (by simp [RelD])⟩
      · exact p3.elim
    | exc c h3 => rw [e3] at p2; exact p2
    | bad => rw [e3] at p2; exact p2
  | exc c h2 =>
    rw [e] at p1
    exact p1
  | bad =>
    rw [e] at p1
    exact p1
theorem se_chain {o o' : CmpOp} (ho : OpR X (compareOp o) r) (hs : OpS X.K r op) (ho' : OpR X (compareOp o') r') (hs' : OpS X.K r' op') (ha : PE X a (rE X.K W fa)) (hb : PE X b (rE X.K W fb)) (hc : PE X c (rE X.K W fc))
    (hm : lastMarks [o, o'] [b, c] = false := by with_unfolding_all rfl) : PE X (.Compare a [o, o'] [b, c] pos) (rE X.K W (fChain op op' fa fb fc)) :=
  PEw (pe_chain ho ho' ha hb hc hm) (tChain_of hs hs')
theorem st_chain {o o' : CmpOp} (ho : OpR X (compareOp o) r) (hs : OpS X.K r op) (ho' : OpR X (compareOp o') r') (hs' : OpS X.K r' op') (ha : PE X a (rE X.K W fa)) (hb : PE X b (rE X.K W fb)) (hc : PE X c (rE X.K W fc))
    (hm : lastMarks [o, o'] [b, c] = false := by with_unfolding_all rfl) : PT X (.Compare a [o, o'] [b, c] pos) (rT X.K W (fBo (fChain op op' fa fb fc))) :=
  PTw (pt_chain ho ho' ha hb hc hm) fun σ H Q q => tTest_of (tChain_of hs hs') σ H Q q
end
end G9

set_option Elab.async false
set_option linter.all false
set_option maxRecDepth 100000
set_option maxHeartbeats 2000000
namespace G9
open PySem PySem.Spec PyProof.Rows L2

/-! ### arguments, displays -/
def fNil : EA := fun _ h => .ok [] h
def fCons (a : EE) (as : EA) : EA := fun s h => (a s h).bind fun x h1 => (as s h1).bind fun xs h2 => .ok (x :: xs) h2
def fTup (as : EA) : EE := fun s h => (as s h).bind fun xs h1 => mkT xs h1
def fLst (as : EA) : EE := fun s h => (as s h).bind fun xs h1 => newL xs h1
section
variable {X : Cx} {W : WX} {e : Expr} {es : List Expr} {fa : EE} {as : EA} {pos : Pos}
theorem sa_nil : PA X [] (rA X.K W fNil) := PAw pa_nil fun σ H Q q => by
  obtain ⟨m, s, h, S, r, p⟩ := q
  exact p _ _ _ Ext.refl S RelDs.nil
theorem sa_cons (ha : PE X e (rE X.K W fa)) (hr : PA X es (rA X.K W as)) (hs : starEach (e :: es) X.env = (false, eval e X.env) :: starEach es X.env := by rfl) : PA X (e :: es) (rA X.K W (fCons fa as)) :=
  PAw (pa_cons ha hr hs) fun σ H Q q => rd_mono (rd_bind (R := RelD) (f := fa) (g := fun x s h1 => (as s h1).bind fun xs h2 => .ok (x :: xs) h2) q) fun x H1 ⟨m1, s, h1, d1, S1, r1, q1, p1⟩ => by
    refine ⟨m1, s, h1, S1, r1, ?_⟩
    cases e : as s h1 with
    | ok ds h2 =>
      rw [e] at p1
      exact fun m2 H2 vs E2 S2 q2 => p1 m2 H2 _ E2 S2 (RelDs.cons (q1.mono S1 E2) q2)
    | exc c h2 => rw [e] at p1; exact p1
    | bad => rw [e] at p1; exact p1
theorem se_tup {x1} (h : PA X es (rA X.K W as)) : PE X (.Tuple es x1 pos) (rE X.K W (fTup as)) :=
  PEw (pe_tup h) fun σ H Q q => rd_mono (rd_bind (R := RelDs) (f := as) (g := fun xs s h1 => mkT xs h1) q) fun x H1 ⟨m1, s, h1, d1, S1, r1, q1, p1⟩ =>
    mkT_ok S1 q1 p1 fun a b _ => ⟨a, b⟩
theorem se_lst (h : PA X es (rA X.K W as)) : PE X (.List es pos) (rE X.K W (fLst as)) :=
  PEw (pe_lst h) fun σ H Q q => rd_mono (rd_bind (R := RelDs) (f := as) (g := fun xs s h1 => newL xs h1) q) fun x H1 ⟨m1, s, h1, d1, S1, r1, q1, p1⟩ =>
    newL_ok S1 q1 p1 fun a b => ⟨a, b⟩
end

/-! ### subscripts -/
def asSeq (h : HC) (n : Nat) : Option (List D) := match h[n]? with
  | some (.lst xs) => some xs
  | _ => none
def opIx : D → D → HC → Res D
  | .tup xs, .int i, h => (match atI xs i with
    | some d => .ok d h
    | none => .bad)
  | .ref n, .int i, h => (match asSeq h n with
    | some xs => (match atI xs i with
      | some d => .ok d h
      | none => .bad)
    | none => .bad)
  | .str z, .int i, h => if z.length ≤ BIG then (match atI z.cps.toList i with
    | some c => .ok (.str ⟨#[c]⟩) h
    | none => .bad) else .bad
  | .scr ns, .int i, h => (match atI ns i with
    | some n => .ok (.int n) h
    | none => .bad)
  | _, _, _ => .bad
section
variable {K : PySem.W.Frag} {m : Mp} {h : HC} {H : Hp}
theorem Sm.seq (S : Sm K m h H) {n : Nat} {v : V} {xs : List D} (r : RelD m H (.ref n) v) (e : asSeq h n = some xs) : ∃ a vs, v = .ref a ∧ m.ad[n]? = some a ∧ SqL K H a vs ∧ RelDs m H xs vs := by
  simp only [RelD] at r
  obtain ⟨a, ha, rfl⟩ := r
  unfold asSeq at e
  split at e
  · rename_i ys hy
    cases e
    obtain ⟨vs, hv, hr⟩ := S.cell n _ a hy ha
    exact ⟨a, vs, rfl, ha, SqL.of hv, hr⟩
  · cases e
theorem atI_rel {ds : List D} {vs : List V} {i : Int} {d : D} (r : RelDs m H ds vs) (e : atI ds i = some d) : ∃ v, atI vs i = some v ∧ RelD m H d v := by
  unfold atI at e ⊢
  rw [← r.len]
  cases q : ixN ds.length i with
  | none => rw [q] at e; cases e
  | some j =>
    rw [q] at e
    exact r.get e
theorem os_ix : OpS K (rIx K) opIx := by
  intro W σ m h H d1 d2 v1 v2 Q S r1 r2 p
  unfold opIx at p
  split at p
  · split at p
    · rename_i xs i d e
      simp only [RelD] at r1 r2
      obtain ⟨q, vs, rfl, hq, hr⟩ := r1
      obtain ⟨v, hv, hd⟩ := atI_rel hr e
      exact .inr (.inl ⟨q, vs, _, v, rfl, r2, SqT.of hq, hv, p _ _ _ Ext.refl S hd⟩)
    · exact p.elim
  · split at p
    · rename_i xs hx
      split at p
      · rename_i d e
        obtain ⟨a, vs, rfl, _, hs, hr⟩ := S.seq r1 hx
        obtain ⟨v, hv, hd⟩ := atI_rel hr e
        simp only [RelD] at r2
        exact .inl ⟨a, vs, _, v, rfl, r2, hs, hv, p _ _ _ Ext.refl S hd⟩
      · exact p.elim
    · exact p.elim
  · split at p
    · rename_i hl
      split at p
      · rename_i c e
        simp only [RelD] at r1 r2
        exact .inr (.inr ⟨_, _, c, r1, r2, Nat.le_trans hl big_le, e, p _ _ _ Ext.refl S (by simp [RelD])⟩)
      · exact p.elim
    · exact p.elim
  · split at p
    · rename_i ns i _ n e
      simp only [RelD] at r1 r2
      obtain ⟨rfl, rfl⟩ := r1
      refine .inl ⟨_, _, i, .int n, rfl, r2, S.scr.sq, ?_, p _ _ _ Ext.refl S (by simp [RelD])⟩
      unfold atI at e ⊢
      rw [List.length_map]
      cases q : ixN m.ns.length i with
      | none => rw [q] at e; cases e
      | some j =>
        rw [q] at e
        simp only [Option.bind] at e ⊢
        simp [e]
    · exact p.elim
  · exact p.elim
end
section
variable {X : Cx} {W : WX} {a b c : Expr} {fa fb fc : EE} {pos : Pos}
theorem se_ix (ha : PE X a (rE X.K W fa)) (hb : PE X b (rE X.K W fb)) (hs : PlainIx b := by intro _ _; rfl) : PE X (.Subscript a b pos) (rE X.K W (fOp opIx fa fb)) :=
  PEw (pe_ix ix_seq ha hb hs) (tOp_of os_ix)
end

/-! ### slices -/
def cutD {α : Type} (xs : List α) (lo hi : Option Int) : List α := (xs.drop (HT.sIx xs.length 0 lo)).take (HT.sIx xs.length xs.length hi - HT.sIx xs.length 0 lo)
abbrev EO := SD → HC → Res (Option Int)
def fNoP : EO := fun _ h => .ok none h
def fPart (a : EE) : EO := fun s h => (a s h).bind fun x h1 => match x with
  | .int i => .ok (some i) h1
  | _ => .bad
def opSl (x : D) (lo hi : Option Int) (h : HC) : Res D := match x with
  | .tup xs => mkT (cutD xs lo hi) h
  | .ref n => (match asSeq h n with
    | some xs => newL (cutD xs lo hi) h
    | none => .bad)
  | .str z => if z.length ≤ BIG then .ok (.str (cutS z lo hi)) h else .bad
  | _ => .bad
def fSl (a : EE) (lo hi : EO) : EE := fun s h => (a s h).bind fun x h1 => (lo s h1).bind fun l h2 => (hi s h2).bind fun u h3 => opSl x l u h3
theorem cut_rel {m : Mp} {H : Hp} {ds : List D} {vs : List V} {lo hi : Option Int} (r : RelDs m H ds vs) : RelDs m H (cutD ds lo hi) (cutV vs lo hi) := by
  unfold cutD cutV
  rw [← r.len]
  exact (r.drop _).take _
def rSlAll (K : PySem.W.Frag) : V → Option Int → Option Int → Hp → VK → Prop := fun x lo hi H Q => rSlA K x lo hi H Q ∨ rSlL K x lo hi H Q ∨ rSlS x lo hi H Q
theorem sl_all {X : Cx} : SlR X (rSlAll X.K) := sl_tupA.or (sl_list.or sl_str)
theorem cutV_whole (vs : List V) (lo hi : Option Int) (h : HT.sIx vs.length 0 lo = 0 ∧ HT.sIx vs.length vs.length hi = vs.length) : cutV vs lo hi = vs := by
  unfold cutV
  rw [h.1, h.2]
  simp
section
variable {X : Cx} {W : WX} {e lo hi : Expr} {f : EE} {fl fh : EO} {p2 pos : Pos}
abbrev rO (K : PySem.W.Frag) (W : WX) (f : EO) : L2.St → Hp → (Option Int → Hp → Prop) → Prop := rd (fun _ _ (a b : Option Int) => a = b) K W f
theorem POw {lo : Option Expr} {t t' : TO} (h : PO X lo t) (w : ∀ σ H Q, t' σ H Q → t σ H Q) : PO X lo t' := ⟨fun pins s σ H Q I q => h.run pins s σ H Q I (w _ _ _ q)⟩
theorem so_none : PO X none (rO X.K W fNoP) := POw po_none fun σ H Q q => by
  obtain ⟨m, s, h, S, r, p⟩ := q
  exact p _ _ _ Ext.refl S rfl
theorem so_some (h : PE X e (rE X.K W f)) : PO X (some e) (rO X.K W (fPart f)) := POw (po_some h) fun σ H Q q => by
  refine rd_mono (rd_bind (R := RelD) (f := f) (g := fun x s h1 => match x with | .int i => .ok (some i) h1 | _ => .bad) q) fun x H1 ⟨m1, s, h1, d1, S1, r1, q1, p1⟩ => ?_
  split at p1
  · simp only [RelD] at q1
    exact ⟨_, q1, p1 _ _ _ Ext.refl S1 rfl⟩
  · exact p1.elim
theorem opSl_ok {K : PySem.W.Frag} {σ : L2.St} {m : Mp} {h : HC} {H : Hp} {d : D} {v : V} {lo hi : Option Int} {Q : VK} (S : Sm K m h H) (r : RelD m H d v) (p : post RelD K W σ m H Q (opSl d lo hi h)) : rSlAll K v lo hi H Q := by
  unfold opSl at p
  split at p
  · simp only [RelD] at r
    obtain ⟨a, vs, rfl, ha, hr⟩ := r
    refine mkT_ok S (cut_rel hr) p fun hl k1 k2 => .inl ⟨a, vs, rfl, SqT.of ha, fun hw => ?_, fun _ => k1⟩
    exact k2 a (by rw [cutV_whole vs lo hi hw]; exact ha)
  · split at p
    · rename_i xs hx
      obtain ⟨a, vs, rfl, _, hs, hr⟩ := S.seq r hx
      exact newL_ok S (cut_rel hr) p fun hl k => .inr (.inl ⟨a, vs, rfl, hs, k⟩)
    · exact p.elim
  · split at p
    · rename_i hl
      simp only [RelD] at r
      exact .inr (.inr ⟨_, r, Nat.le_trans hl big_le, p _ _ _ Ext.refl S (by simp [RelD])⟩)
    · exact p.elim
  · exact p.elim
theorem se_sl {lo hi : Option Expr} (he : PE X e (rE X.K W f)) (hl : PO X lo (rO X.K W fl)) (hh : PO X hi (rO X.K W fh)) : PE X (.Subscript e (.Slice lo hi none p2) pos) (rE X.K W (fSl f fl fh)) :=
  PEw (pe_slice sl_all he hl hh) fun σ H Q q => by
    refine rd_mono (rd_bind (R := RelD) (f := f) (g := fun x s h1 => (fl s h1).bind fun l h2 => (fh s h2).bind fun u h3 => opSl x l u h3) q) fun x H1 ⟨m1, s, h1, d1, S1, r1, q1, p1⟩ => ?_
    have p1' : rd RelD X.K W (fun s h1 => (fl s h1).bind fun l h2 => (fh s h2).bind fun u h3 => opSl d1 l u h3) σ H1 Q := ⟨m1, s, h1, S1, r1, p1⟩
    refine ⟨m1, s, h1, S1, r1, ?_⟩
    cases e2 : fl s h1 with
    | ok l h2 =>
      rw [e2] at p1
      intro m2 H2 l' E2 S2 q2
      obtain rfl : l = l' := q2
      have p2 := post_ext p1 E2
      refine ⟨m2, s, h2, S2, r1.mono S1 E2, ?_⟩
      dsimp only [Res.bind] at p2
      cases e3 : fh s h2 with
      | ok u h3 =>
        rw [e3] at p2
        intro m3 H3 u' E3 S3 q3
        obtain rfl : u = u' := q3
        exact opSl_ok S3 ((q1.mono S1 E2).mono S2 E3) (post_ext p2 E3)
      | exc c h3 => rw [e3] at p2; exact p2
      | bad => rw [e3] at p2; exact p2
    | exc c h2 => rw [e2] at p1; exact p1
    | bad => rw [e2] at p1; exact p1
end

/-! ### calls of built-ins by values -/
/-- r: what the layer asks; f: what it gives -/
def ClS (K : PySem.W.Frag) (r : List V → Hp → VK → Prop) (f : List D → HC → Res D) : Prop :=
  ∀ (W : WX) (σ : L2.St) (m : Mp) (h : HC) (H : Hp) (ds : List D) (vs : List V) (Q : VK), Sm K m h H → RelDs m H ds vs → post RelD K W σ m H Q (f ds h) → r vs H Q
def fCl (f : List D → HC → Res D) (as : EA) : EE := fun s h => (as s h).bind fun xs h1 => f xs h1
theorem tCB_of {K : PySem.W.Frag} {W : WX} {r : List V → Hp → VK → Prop} {f : List D → HC → Res D} {as : EA} (hs : ClS K r f) (σ : L2.St) (H : Hp) (Q : VK) (q : rE K W (fCl f as) σ H Q) : tCB r (rA K W as) σ H Q :=
  rd_mono (rd_bind (R := RelDs) (f := as) (g := fun xs s h1 => f xs h1) q) fun x H1 ⟨m1, s, h1, d1, S1, r1, q1, p1⟩ => hs W σ m1 h1 H1 d1 x Q S1 q1 p1
section
variable {X : Cx} {W : WX} {e : Expr} {es : List Expr} {as : EA} {p pos : Pos} {x : Str} {r : List V → Hp → VK → Prop} {f : List D → HC → Res D} {id T : String}
theorem se_clB (hc : CallR X (.builtin id) r) (hs : ClS X.K r f) (hm : X.mg x = none) (hv : bootBuiltins x = some (.builtin id)) (ha : PA X (e :: es) (rA X.K W as)) (hg : Gl X x := by rfl) (hn : x ≠ "__name__" := by decide) (hdb : (x == ("__debug__" : Str)) = false := by decide)
    (he : starEach (e :: es) X.env = (false, eval e X.env) :: starEach es X.env := by rfl) (hpl : (backTo pos (starEach es X.env)).any (·.1) = false := by rfl) : PE X (.Call (.Name x p) (e :: es) [] pos) (rE X.K W (fCl f as)) :=
  PEw (pe_callB hc hg hm hv ha hn hdb he hpl) (tCB_of hs)
theorem se_clT (hc : CallR X (.type T) r) (hs : ClS X.K r f) (hm : X.mg x = none) (hv : bootBuiltins x = some (.type T)) (ha : PA X (e :: es) (rA X.K W as)) (hg : Gl X x := by rfl) (hn : x ≠ "__name__" := by decide) (hdb : (x == ("__debug__" : Str)) = false := by decide)
    (he : starEach (e :: es) X.env = (false, eval e X.env) :: starEach es X.env := by rfl) (hpl : (backTo pos (starEach es X.env)).any (·.1) = false := by rfl) : PE X (.Call (.Name x p) (e :: es) [] pos) (rE X.K W (fCl f as)) :=
  PEw (pe_callTy hc hg hm hv ha hn hdb he hpl) (tCB_of hs)
end
section
variable {X : Cx} {f : Value} {r r' : List V → Hp → VK → Prop}
theorem CallR.or (h : CallR X f r) (h' : CallR X f r') : CallR X f (fun xs H Q => r xs H Q ∨ r' xs H Q) := by
  intro pins s σ H xs us Q I rx q
  rcases q with q | q
  · exact h pins s σ H xs us Q I rx q
  · exact h' pins s σ H xs us Q I rx q
end
theorem RelDs.one {m : Mp} {H : Hp} {d : D} {vs : List V} (r : RelDs m H [d] vs) : ∃ v, vs = [v] ∧ RelD m H d v := by
  simp only [RelDs] at r
  obtain ⟨v, vs', rfl, h1, h2⟩ := r
  subst h2
  exact ⟨v, rfl, h1⟩
theorem RelDs.two {m : Mp} {H : Hp} {d e : D} {vs : List V} (r : RelDs m H [d, e] vs) : ∃ v w, vs = [v, w] ∧ RelD m H d v ∧ RelD m H e w := by
  simp only [RelDs] at r
  obtain ⟨v, vs', rfl, h1, w, ws, rfl, h2, h3⟩ := r
  subst h3
  exact ⟨v, w, rfl, h1, h2⟩

/-- len -/
def bLen : List D → HC → Res D
  | [.str z], h => if z.length ≤ BIG then .ok (.int z.length) h else .bad
  | [.tup xs], h => .ok (.int xs.length) h
  | [.ref n], h => (match asSeq h n with
    | some xs => .ok (.int xs.length) h
    | none => .bad)
  | [.scr ns], h => .ok (.int ns.length) h
  | _, _ => .bad
def rLenAll (K : PySem.W.Frag) : List V → Hp → VK → Prop := fun xs H Q => (∃ p ys, xs = [.ref p] ∧ (SqL K H p ys ∨ SqT K H p ys) ∧ Q (.int ys.length) H) ∨ ∃ z, xs = [.str z] ∧ z.length ≤ sizeLine ∧ Q (.int z.length) H
theorem call_lenAll {X : Cx} : CallR X (.builtin "len") (rLenAll X.K) := CallR.or call_len_seq call_len_str
theorem cs_len {K : PySem.W.Frag} : ClS K (rLenAll K) bLen := by
  intro W σ m h H ds vs Q S r p
  unfold bLen at p
  split at p
  · obtain ⟨v, rfl, rv⟩ := r.one
    simp only [RelD] at rv
    subst rv
    split at p
    · rename_i hl
      exact .inr ⟨_, rfl, Nat.le_trans hl big_le, p _ _ _ Ext.refl S (by simp [RelD])⟩
    · exact p.elim
  · obtain ⟨v, rfl, rv⟩ := r.one
    simp only [RelD] at rv
    obtain ⟨a, us, rfl, ha, hr⟩ := rv
    exact .inl ⟨a, us, rfl, .inr (SqT.of ha), p _ _ _ Ext.refl S (by simp [RelD, hr.len])⟩
  · split at p
    · rename_i xs hx
      obtain ⟨v, rfl, rv⟩ := r.one
      obtain ⟨a, us, rfl, _, hs, hr⟩ := S.seq rv hx
      exact .inl ⟨a, us, rfl, .inl hs, p _ _ _ Ext.refl S (by simp [RelD, hr.len])⟩
    · exact p.elim
  · obtain ⟨v, rfl, rv⟩ := r.one
    simp only [RelD] at rv
    obtain ⟨rfl, rfl⟩ := rv
    exact .inl ⟨_, _, rfl, .inl S.scr.sq, p _ _ _ Ext.refl S (by simp [RelD])⟩
  · exact p.elim

/-- isinstance of a built-in type -/
def tyName (h : HC) : D → Option String
  | .non => some "NoneType"
  | .bl _ => some "bool"
  | .int _ => some "int"
  | .str _ => some "str"
  | .tup _ => some "tuple"
  | .ref n => match h[n]? with
    | some (.lst _) => some "list"
    | some (.dk _) => some "dict"
    | some (.dt _) => some "dict"
    | _ => none
  | .scr _ => none
/-- the answers that are asked for, by name of type and class -/
def isiT (t c : String) : Option Bool :=
  if c = "int" then (if t = "int" ∨ t = "bool" then some true else if t = "NoneType" ∨ t = "str" ∨ t = "tuple" ∨ t = "list" ∨ t = "dict" then some false else none)
  else if c = "bool" ∨ c = "str" ∨ c = "tuple" ∨ c = "list" then (if t = c then some true else if t = "int" ∨ t = "bool" ∨ t = "NoneType" ∨ t = "str" ∨ t = "tuple" ∨ t = "list" ∨ t = "dict" then some false else none)
  else none
theorem isiT_ok {t c : String} {b : Bool} (e : isiT t c = some b) : kitB t c = some b := by
  unfold isiT at e
  split at e
  · rename_i hc
    subst hc
    split at e
    · rename_i ht
      cases e
      rcases ht with rfl | rfl <;> decide +kernel
    · split at e
      · rename_i ht
        cases e
        rcases ht with rfl | rfl | rfl | rfl | rfl <;> decide +kernel
      · cases e
  · split at e
    · rename_i hc
      split at e
      · rename_i ht
        cases e
        subst ht
        rcases hc with rfl | rfl | rfl | rfl <;> decide +kernel
      · rename_i hne
        split at e
        · rename_i ht
          cases e
          rcases hc with rfl | rfl | rfl | rfl <;> rcases ht with rfl | rfl | rfl | rfl | rfl | rfl | rfl <;> first | exact absurd rfl hne | decide +kernel
        · cases e
    · cases e
def fIsi (c : String) (a : EE) : EE := fun s h => (a s h).bind fun x h1 => match tyName h1 x with
  | some t => (match isiT t c with
    | some b => .ok (.bl b) h1
    | none => .bad)
  | none => .bad
theorem tyName_ok {K : PySem.W.Frag} {m : Mp} {h : HC} {H : Hp} {d : D} {v : V} {t : String} (S : Sm K m h H) (r : RelD m H d v) (e : tyName h d = some t) : TyX K H v (.type t) := by
  cases d with
  | scr _ => simp [tyName] at e
  | non => simp [tyName] at e; simp only [RelD] at r; subst e r; exact .base .non
  | bl b => simp [tyName] at e; simp only [RelD] at r; subst e r; exact .base (.bl b)
  | int i => simp [tyName] at e; simp only [RelD] at r; subst e r; exact .base (.int i)
  | str s => simp [tyName] at e; simp only [RelD] at r; subst e r; exact .base (.str s)
  | tup xs =>
    simp [tyName] at e
    simp only [RelD] at r
    obtain ⟨p, vs, rfl, hp, _⟩ := r
    subst e
    exact .base (.tup hp)
  | ref n =>
    simp only [tyName] at e
    simp only [RelD] at r
    obtain ⟨a, ha, rfl⟩ := r
    split at e <;> (try cases e)
    · rename_i xs hx
      obtain ⟨vs, hv, _⟩ := S.cell n _ a hx ha
      exact .base (.lst hv)
    · rename_i xs hx
      obtain ⟨vs, hv, _⟩ := S.cell n _ a hx ha
      exact .base (.dK hv)
    · rename_i xs hx
      obtain ⟨vs, hv, _⟩ := S.cell n _ a hx ha
      exact .base (.dT hv)
section
variable {X : Cx} {W : WX} {e : Expr} {fa : EE} {p p2 pos : Pos} {x : Str} {c : String}
theorem se_isi (hm : X.mg "isinstance" = none) (hx : X.mg x = none) (hv : bootBuiltins x = some (.type c)) (ha : PE X e (rE X.K W fa)) (hg : Gl X "isinstance" := by rfl) (hgx : Gl X x := by rfl) (hn : x ≠ "__name__" := by decide) (hdb : (x == ("__debug__" : Str)) = false := by decide)
    (he : starEach [e, .Name x p2] X.env = (false, eval e X.env) :: starEach [.Name x p2] X.env := by rfl) (he2 : starEach [.Name x p2] X.env = (false, eval (.Name x p2) X.env) :: starEach [] X.env := by rfl) (hpl : (backTo pos (starEach [.Name x p2] X.env)).any (·.1) = false := by rfl) :
    PE X (.Call (.Name "isinstance" p) [e, .Name x p2] [] pos) (rE X.K W (fIsi c fa)) :=
  PEw (pe_callB call_isi hg hm (by decide +kernel) (pa_cons ha (pa_cons (pe_bltn hgx hx hv (v := .ty c) rfl hn hdb) pa_nil he2) he) (by decide) (by decide) he hpl) fun σ H Q q => by
    refine rd_mono (rd_bind (R := RelD) (f := fa) (g := fun x s h1 => match tyName h1 x with | some t => (match isiT t c with | some b => .ok (D.bl b) h1 | none => .bad) | none => .bad) q) fun x H1 ⟨m1, s, h1, d1, S1, r1, q1, p1⟩ => ?_
    split at p1
    · rename_i t ht
      split at p1
      · rename_i b hb
        exact ⟨x, .ty c, _, _, b, rfl, .ty c, tyName_ok S1 q1 ht, kit_ty (isiT_ok hb), p1 _ _ _ Ext.refl S1 (by simp [RelD])⟩
      · exact p1.elim
    · exact p1.elim
end
end G9

set_option Elab.async false
set_option linter.all false
set_option maxRecDepth 100000
set_option maxHeartbeats 2000000
namespace G9
open PySem PySem.Spec PyProof.Rows L2

/-! ### statements -/
inductive RS where
  | nx (s : SD) (h : HC)
  | ret (d : D) (h : HC)
  | bk (s : SD) (h : HC)
  | ct (s : SD) (h : HC)
  | exc (c : Str) (s : SD) (h : HC)
  | bad
abbrev ES := SD → HC → RS
def ofR {α : Type} (s : SD) (r : Res α) (k : α → HC → RS) : RS := match r with
  | .ok a h => k a h
  | .exc c h => .exc c s h
  | .bad => .bad
def postS (K : PySem.W.Frag) (W : WX) (m : Mp) (H : Hp) (En : Ends) : RS → Prop
  | .nx s h => ∀ m' H' σ', Ext m m' H H' → Sm K m' h H' → Rs m' H' s σ' → En.nx σ' H'
  | .ret d h => ∀ m' H' v, Ext m m' H H' → Sm K m' h H' → RelD m' H' d v → En.rt v H'
  | .bk s h => ∀ m' H' σ', Ext m m' H H' → Sm K m' h H' → Rs m' H' s σ' → En.bk σ' H'
  | .ct s h => ∀ m' H' σ', Ext m m' H H' → Sm K m' h H' → Rs m' H' s σ' → En.ct σ' H'
  | .exc c s h => ∀ m' H' σ', Ext m m' H H' → Sm K m' h H' → Rs m' H' s σ' → W (.ref (He.ga K c)) none σ' H'
  | .bad => False
def rS (K : PySem.W.Frag) (W : WX) (f : ES) : TS := fun En σ H => ∃ m s h, Sm K m h H ∧ Rs m H s σ ∧ postS K W m H En (f s h)
section
variable {α β : Type} {R : Mp → Hp → α → β → Prop} {K : PySem.W.Frag} {W : WX} {σ : L2.St} {m m1 : Mp} {H H1 : Hp} {En En' : Ends}
theorem postS_ext {r : RS} (p : postS K W m H En r) (E : Ext m m1 H H1) : postS K W m1 H1 En r := by
  cases r with
  | nx s h => exact fun m' H' b e S q => p m' H' b (E.trans e) S q
  | ret s h => exact fun m' H' b e S q => p m' H' b (E.trans e) S q
  | bk s h => exact fun m' H' b e S q => p m' H' b (E.trans e) S q
  | ct s h => exact fun m' H' b e S q => p m' H' b (E.trans e) S q
  | exc c s h => exact fun m' H' b e S q => p m' H' b (E.trans e) S q
  | bad => exact p
theorem rS_bind {f : SD → HC → Res α} {g : α → SD → HC → RS} (p : rS K W (fun s h => ofR s (f s h) fun a h1 => g a s h1) En σ H) :
    rd R K W f σ H (fun b H1 => ∃ m1 s h1 a, Sm K m1 h1 H1 ∧ Rs m1 H1 s σ ∧ R m1 H1 a b ∧ postS K W m1 H1 En (g a s h1)) := by
  obtain ⟨m, s, h, S, r, p⟩ := p
  refine ⟨m, s, h, S, r, ?_⟩
  dsimp only at p
  cases e : f s h with
  | ok a h1 =>
    rw [e] at p
    exact fun m' H' b E S' q => ⟨m', s, h1, a, S', r.mono S E, q, postS_ext p E⟩
  | exc c h1 =>
    rw [e] at p
    exact fun m' H' E S' => p m' H' σ E S' (r.mono S E)
  | bad =>
    rw [e] at p
    exact p
theorem Rs.set {s : SD} {i : Nat} {d : D} {v : V} (r : Rs m H s σ) (q : RelD m H d v) : Rs m H (s.set i (some d)) (σ.set i (some v)) := by
  refine ⟨by simpa using r.1, fun j d' e => ?_⟩
  by_cases hj : i = j
  · subst hj
    have hl : i < s.length := by
      have := (List.getElem?_eq_some_iff.mp e).1
      simpa using this
    rw [List.getElem?_set_self hl] at e
    cases e
    exact ⟨v, by rw [List.getElem?_set_self (by rw [← r.1]; exact hl)], q⟩
  · rw [List.getElem?_set_ne hj] at e ⊢
    exact r.2 j d' e
end

def fNx : ES := fun s h => .nx s h
def fSeq (f g : ES) : ES := fun s h => match f s h with
  | .nx s1 h1 => g s1 h1
  | r => r
def fExpr (a : EE) : ES := fun s h => ofR s (a s h) fun _ h1 => .nx s h1
def fRet (a : EE) : ES := fun s h => ofR s (a s h) fun d h1 => .ret d h1
def fRetN : ES := fun _ h => .ret .non h
def fIfS (c : ET) (a b : ES) : ES := fun s h => ofR s (c s h) fun x h1 => if x = true then a s h1 else b s h1
def fSet (i : Nat) (a : EE) : ES := fun s h => ofR s (a s h) fun d h1 => .nx (s.set i (some d)) h1
def fRaise (c : Str) : ES := fun s h => .exc c s h
section
variable {X : Cx} {W : WX} {e : Expr} {st : Stmt} {rest : List Stmt} {fa : EE} {f g : ES} {pos : Pos}
theorem ss_nil : PSs X [] (rS X.K W fNx) := PSsw pss_nil fun En σ H q => by
  obtain ⟨m, s, h, S, r, p⟩ := q
  exact p _ _ _ Ext.refl S r
theorem ss_pass : PS X (.Pass pos) (rS X.K W fNx) := PSw ps_pass fun En σ H q => by
  obtain ⟨m, s, h, S, r, p⟩ := q
  exact p _ _ _ Ext.refl S r
theorem ss_cons (h1 : PS X st (rS X.K W f)) (h2 : PSs X rest (rS X.K W g)) : PSs X (st :: rest) (rS X.K W (fSeq f g)) := PSsw (pss_cons h1 h2) fun En σ H q => by
  obtain ⟨m, s, h, S, r, p⟩ := q
  refine ⟨m, s, h, S, r, ?_⟩
  unfold fSeq at p
  cases e : f s h with
  | nx s1 h1 =>
    rw [e] at p
    exact fun m' H' σ' E S' r' => ⟨m', s1, h1, S', r', postS_ext p E⟩
  | ret s1 h1 => rw [e] at p; exact p
  | bk s1 h1 => rw [e] at p; exact p
  | ct s1 h1 => rw [e] at p; exact p
  | exc c s1 h1 => rw [e] at p; exact p
  | bad => rw [e] at p; exact p
theorem ss_one (h1 : PS X st (rS X.K W f)) : PSs X [st] (rS X.K W f) := pss_one h1
theorem ss_expr (he : PE X e (rE X.K W fa)) (hs : swapsWith e none pos.line X.env = pure false := by rfl) : PS X (.Expr e pos) (rS X.K W (fExpr fa)) := PSw (ps_expr he hs) fun En σ H q => by
  refine rd_mono (rS_bind (R := RelD) (f := fa) (g := fun d s h1 => .nx s h1) q) fun x H1 ⟨m1, s, h1, d1, S1, r1, q1, p1⟩ => ?_
  exact p1 _ _ _ Ext.refl S1 r1
theorem ss_ret (he : PE X e (rE X.K W fa)) : PS X (.Return (some e) pos) (rS X.K W (fRet fa)) := PSw (ps_ret he) fun En σ H q => by
  refine rd_mono (rS_bind (R := RelD) (f := fa) (g := fun d s h1 => .ret d h1) q) fun x H1 ⟨m1, s, h1, d1, S1, r1, q1, p1⟩ => ?_
  exact p1 _ _ _ Ext.refl S1 q1
theorem ss_retN : PS X (.Return none pos) (rS X.K W fRetN) := PSw ps_retN fun En σ H q => by
  obtain ⟨m, s, h, S, r, p⟩ := q
  exact p _ _ _ Ext.refl S (by simp [RelD])
theorem ss_if {c : Expr} {a b : List Stmt} {gc : ET} (hc : PT X c (rT X.K W gc)) (ha : PSs X a (rS X.K W f)) (hb : PSs X b (rS X.K W g)) : PS X (.If c a b pos) (rS X.K W (fIfS gc f g)) := PSw (ps_if hc ha hb) fun En σ H q => by
  refine rd_mono (rS_bind (R := RelB) (f := gc) (g := fun x s h1 => if x = true then f s h1 else g s h1) q) fun x H1 ⟨m1, s, h1, d1, S1, r1, q1, p1⟩ => ?_
  obtain rfl : d1 = x := q1
  cases d1 with
  | true => exact ⟨m1, s, h1, S1, r1, p1⟩
  | false => exact ⟨m1, s, h1, S1, r1, p1⟩
theorem ss_set {i : Nat} {x : Str} {pos' : Pos} (hN : X.N.Nodup) (he : PE X e (rE X.K W fa)) (hi : X.N[i]? = some x := by rfl) (hx : Loc X.env.scope x := by first | exact Or.inl rfl | exact Or.inr rfl) (hs : swapsWith e (some (.Name x pos')) pos.line X.env = pure false := by rfl) (hf : X.fn x = true ∨ X.env.scope.names.lookup x = some .local := by first | exact .inl rfl | exact .inr rfl | assumption) :
    PS X (.Assign [.Name x pos'] e pos) (rS X.K W (fSet i fa)) := PSw (ps_set hN hi hx he hs hf) fun En σ H q => by
  refine rd_mono (rS_bind (R := RelD) (f := fa) (g := fun d s h1 => .nx (s.set i (some d)) h1) q) fun x H1 ⟨m1, s, h1, d1, S1, r1, q1, p1⟩ => ?_
  exact p1 _ _ _ Ext.refl S1 (r1.set q1)
end

/-! ### a def -/
def fnRun (n : Nat) (body : ES) (ds : List D) (h : HC) : Res D := match body (ds.map some ++ List.replicate (n - ds.length) none) h with
  | .nx _ h' => .ok .non h'
  | .ret d h' => .ok d h'
  | .exc c _ h' => .exc c h'
  | _ => .bad
def postF (K : PySem.W.Frag) (m : Mp) (H : Hp) (Q : VK) (E : XK) : Res D → Prop
  | .ok d h' => ∀ m' H' v, Ext m m' H H' → Sm K m' h' H' → RelD m' H' d v → Q v H'
  | .exc c h' => ∀ m' H', Ext m m' H H' → Sm K m' h' H' → E (.ref (He.ga K c)) none H'
  | .bad => False
def spF (K : PySem.W.Frag) (fm : List D → HC → Res D) (n : Nat) : Sp := fun vs H Q E => ∃ m h ds, Sm K m h H ∧ RelDs m H ds vs ∧ ds.length = n ∧ postF K m H Q E (fm ds h)
theorem rs_start {m : Mp} {H : Hp} {N : List Str} : ∀ {ds : List D} {vs : List V}, RelDs m H ds vs → Rs m H (ds.map some ++ List.replicate (N.length - ds.length) none) (L2.start N vs) := by
  intro ds vs r
  unfold L2.start
  have hl := r.len
  refine ⟨by simp [hl], fun i d e => ?_⟩
  by_cases hi : i < ds.length
  · rw [List.getElem?_append_left (by simpa using hi), List.getElem?_map] at e
    cases q : ds[i]? with
    | none => rw [q] at e; cases e
    | some d' =>
      rw [q] at e
      simp at e
      subst e
      obtain ⟨v, hv, hr⟩ := r.get q
      refine ⟨v, ?_, hr⟩
      rw [List.getElem?_append_left (by simp; omega), List.getElem?_map, hv]
      rfl
  · rw [List.getElem?_append_right (by simpa using hi)] at e
    have := List.mem_of_getElem? e
    simp at this
section
variable {P : Program} {w : World} {K : PySem.W.Frag} {mg : Str → Option Value} {base : Heap}
theorem fn_ok {x qual : Str} {params : Arguments} {body : List Stmt} {scope : Scope} {dvs : List V} {kws : List (Str × V)} {f : Addr} {fd : FuncData} {N ps : List Str} {k : Nat} {fb : ES} (F : FunD K x qual params body scope dvs kws f fd) (S : FnScope N ps scope)
    (hb : ∀ (cdv : Value) (A : Around) (outer : List Env) (s : Shared) (H : Hp) (E : XK), Room k (A.deeper (envOfC qual scope s.heap.objs.size f cdv)) →
      PSs (cxOf (L2.CX P w) P w K mg base N qual scope f cdv A outer s H E) body (rS K (fun cls d _ H => E cls d H) fb)) :
    FnOk P w K mg base (L2.CX P w) (k + 1) f fd ps (spF K (fnRun N.length fb) ps.length) := by
  refine F.ok S (fun vs H Q E h => ?_) (fun cdv A outer s H vs Q E hr h => ⟨_, hb cdv A outer s H E hr, ?_⟩)
  · obtain ⟨m, h, ds, S, r, l, _⟩ := h
    rw [← r.len, l]
  · obtain ⟨m, h, ds, S, r, l, p⟩ := h
    refine ⟨m, _, h, S, rs_start r, ?_⟩
    unfold fnRun at p
    cases e : fb (ds.map some ++ List.replicate (N.length - ds.length) none) h with
    | nx s1 h1 =>
      rw [e] at p
      exact fun m' H' σ' E S' r' => p m' H' .non E S' (by simp [RelD])
    | ret d h1 =>
      rw [e] at p
      exact fun m' H' v E S' r' => p m' H' v E S' r'
    | bk s1 h1 => rw [e] at p; exact p.elim
    | ct s1 h1 => rw [e] at p; exact p.elim
    | exc c s1 h1 =>
      rw [e] at p
      exact fun m' H' σ' E S' r' => p m' H' E S'
    | bad => rw [e] at p; exact p.elim
/-- a def that may be called by its name -/
structure Fn (P : Program) (w : World) (K : PySem.W.Frag) (mg : Str → Option Value) (base : Heap) (x : Str) (k n : Nat) (fm : List D → HC → Res D) : Prop where
  ex : ∃ (f : Addr) (fd : FuncData) (ps : List Str), FnOk P w K mg base (L2.CX P w) k f fd ps (spF K fm n) ∧ mg x = some (.ref f) ∧ PySem.W.keepIn K (.ref f) = true ∧ Binds K fd ps []
end
def fCall (n : Nat) (fm : List D → HC → Res D) (as : EA) : EE := fun s h => (as s h).bind fun ds h1 => if ds.length = n then fm ds h1 else .bad
section
variable {X : Cx} {W : WX} {e : Expr} {es : List Expr} {as : EA} {x : Str} {k n : Nat} {fm : List D → HC → Res D} {p pos : Pos}
theorem postF_of {K : PySem.W.Frag} {σ : L2.St} {m : Mp} {H : Hp} {Q : VK} {r : Res D} (q : post RelD K W σ m H Q r) : postF K m H Q (WE W σ) r := by
  cases r with
  | ok d h => exact q
  | exc c h => exact q
  | bad => exact q
theorem se_call (F : Fn X.prog X.w X.K X.mg X.base x k n fm) (hr : Room k X.A) (tk : Takes X W) (ha : PA X (e :: es) (rA X.K W as)) (hg : Gl X x := by rfl) (hdb : (x == ("__debug__" : Str)) = false := by decide)
    (he : starEach (e :: es) X.env = (false, eval e X.env) :: starEach es X.env := by rfl) (hpl : (backTo pos (starEach es X.env)).any (·.1) = false := by rfl) : PE X (.Call (.Name x p) (e :: es) [] pos) (rE X.K W (fCall n fm as)) := by
  obtain ⟨f, fd, ps, G, hm, hk, hb⟩ := F.ex
  refine PEw (pe_callS G hr hg hm hk hb (fun σ => passAt tk σ) ha hdb he hpl) fun σ H Q q => ?_
  refine rd_mono (rd_bind (R := RelDs) (f := as) (g := fun ds s h1 => if ds.length = n then fm ds h1 else .bad) q) fun x H1 ⟨m1, s, h1, d1, S1, r1, q1, p1⟩ => ?_
  split at p1
  · rename_i hl
    exact ⟨m1, h1, d1, S1, q1, hl, postF_of p1⟩
  · exact p1.elim
end

/-! ### own errors -/
structure ExF (K : PySem.W.Frag) (mg : Str → Option Value) (c : Str) : Prop where
  q : PySem.W.excIn K (He.ga K c) He.veBase "ValueError.__new__" = true
  g : mg c = some (.ref (He.ga K c))
  k : PySem.W.keepIn K (.ref (He.ga K c)) = true
  b : PySem.W.subIn K (.ref (He.ga K c)) (.type "BaseException") = some true
  t : PySem.W.typeIn K (.ref (He.ga K c)) = some (.type "type")
section
variable {X : Cx} {W : WX} {c m : Str} {j : Nat} {p p2 p3 pos : Pos}
theorem ss_raise (F : ExF X.K X.mg c) (hc : X.calm = true) (tk : Takes X W) (hg : Gl X c := by rfl) (hdb : (c == ("__debug__" : Str)) = false := by decide) :
    PS X (.Raise (some (.Call (.Name c p) [.Constant (.str m) j p2] [] p3)) none pos) (rS X.K W (fRaise c)) :=
  PSw (ps_raise hc tk (pmk_own PySem.F.excBase_ValueError F.q F.g F.k (raises_own F.b F.t) hg hdb)) fun En σ H q => by
    obtain ⟨m, s, h, S, r, p⟩ := q
    exact p _ _ _ Ext.refl S r
end
end G9

set_option Elab.async false
set_option linter.all false
set_option maxRecDepth 100000
set_option maxHeartbeats 2000000
namespace G9
open PySem PySem.Spec PyProof.Rows L2

/-! ### targets that are names -/
abbrev EG := D → SD → Option SD
abbrev EGs := List D → SD → Option SD
def gN (i : Nat) : EG := fun d s => some (s.set i (some d))
def gT (g : EGs) : EG := fun d s => match d with
  | .tup xs => g xs s
  | _ => none
def gsN : EGs := fun ds s => match ds with
  | [] => some s
  | _ => none
def gsC (g : EG) (gs : EGs) : EGs := fun ds s => match ds with
  | d :: r => (g d s).bind fun s1 => gs r s1
  | [] => none
theorem wipe_get (σ : L2.St) : ∀ (vs : List Nat) (j : Nat), (wipe σ vs)[j]? = if j ∈ vs then (σ[j]?).map (fun _ => none) else σ[j]?
  | [], j => by simp [wipe]
  | v :: vs, j => by
    unfold wipe
    by_cases hj : v = j
    · subst hj
      by_cases hl : v < σ.length
      · rw [List.getElem?_set_self (by rw [wipe_length]; exact hl), if_pos List.mem_cons_self]
        simp [hl]
      · have e1 : σ[v]? = none := List.getElem?_eq_none (by omega)
        have e2 : ((wipe σ vs).set v none)[v]? = none := List.getElem?_eq_none (by rw [List.length_set, wipe_length]; omega)
        rw [e1, e2]
        simp
    · rw [List.getElem?_set_ne hj, wipe_get σ vs j]
      have hj2 : ¬ j = v := fun e => hj e.symm
      simp [hj2]
theorem wipe_set {σ : L2.St} {vs : List Nat} {i : Nat} {x : Option V} (hi : i ∈ vs) : wipe (σ.set i x) vs = wipe σ vs := by
  apply List.ext_getElem?
  intro j
  rw [wipe_get, wipe_get]
  by_cases hj : i = j
  · subst hj
    rw [if_pos hi, if_pos hi]
    by_cases hl : i < σ.length
    · rw [List.getElem?_set_self hl]
      simp [hl]
    · rw [List.getElem?_eq_none (by rw [List.length_set]; omega), List.getElem?_eq_none (by omega)]
  · rw [List.getElem?_set_ne hj]
def rG (K : PySem.W.Frag) (vs : List Nat) (g : EG) : TG := fun v σ H Q => ∃ m s h d s', Sm K m h H ∧ Rs m H s σ ∧ RelD m H d v ∧ g d s = some s' ∧ ∀ σ', Rs m H s' σ' → wipe σ' vs = wipe σ vs → Q σ' H
def rGs (K : PySem.W.Frag) (vs : List Nat) (g : EGs) : TGs := fun v σ H Q => ∃ m s h d s', Sm K m h H ∧ Rs m H s σ ∧ RelDs m H d v ∧ g d s = some s' ∧ ∀ σ', Rs m H s' σ' → wipe σ' vs = wipe σ vs → Q σ' H
section
variable {X : Cx} {e : Expr} {es : List Expr} {g : EG} {gs : EGs} {vs : List Nat} {pos : Pos}
theorem PGw {t t' : TG} (h : PG X e t) (w : ∀ v σ H Q, t' v σ H Q → t v σ H Q) : PG X e t' := ⟨fun pins s σ H v u Q I r q => h.run pins s σ H v u Q I r (w _ _ _ _ q)⟩
theorem PGsw {t t' : TGs} (h : PGs X es t) (w : ∀ v σ H Q, t' v σ H Q → t v σ H Q) : PGs X es t' := ⟨fun pins s σ H v u Q I r q => h.run pins s σ H v u Q I r (w _ _ _ _ q)⟩
theorem sg_name {i : Nat} {x : Str} (hN : X.N.Nodup) (hv : i ∈ vs := by decide) (hi : X.N[i]? = some x := by rfl) (hx : Loc X.env.scope x := by first | exact Or.inl rfl | exact Or.inr rfl) (hf : X.fn x = true ∨ X.env.scope.names.lookup x = some .local := by first | exact .inl rfl | exact .inr rfl | assumption) :
    PG X (.Name x pos) (rG X.K vs (gN i)) := PGw (pg_name hN hi hx hf) fun v σ H Q q => by
  obtain ⟨m, s, h, d, s', S, r, rd, e, k⟩ := q
  cases e
  exact k _ (r.set rd) (wipe_set hv)
theorem sgs_nil : PGs X [] (rGs X.K vs gsN) := PGsw pgs_nil fun v σ H Q q => by
  obtain ⟨m, s, h, d, s', S, r, rd, e, k⟩ := q
  cases d with
  | nil =>
    cases e
    simp only [RelDs] at rd
    exact ⟨rd, k _ r rfl⟩
  | cons a b => cases e
theorem sgs_cons (h1 : PG X e (rG X.K vs g)) (h2 : PGs X es (rGs X.K vs gs)) (hs : (assignEach (e :: es) X.env).map (·.2) = assign e X.env :: (assignEach es X.env).map (·.2) := by rfl) : PGs X (e :: es) (rGs X.K vs (gsC g gs)) :=
  PGsw (pgs_cons h1 h2 hs) fun v σ H Q q => by
  obtain ⟨m, s, h, d, s', S, r, rd, e, k⟩ := q
  cases d with
  | nil => cases e
  | cons a b =>
    simp only [RelDs] at rd
    obtain ⟨va, vb, rfl, ra, rb⟩ := rd
    unfold gsC at e
    dsimp only at e
    cases e1 : g a s with
    | none => rw [e1] at e; cases e
    | some s1 =>
      rw [e1] at e
      exact ⟨va, vb, rfl, m, s, h, a, s1, S, r, ra, e1, fun σ1 r1 w1 => ⟨m, s1, h, b, s', S, r1, rb, e, fun σ2 r2 w2 => k σ2 r2 (w2.trans w1)⟩⟩
theorem sg_tup {k n : Nat} (hc : X.calm = true) (h : PGs X es (rGs X.K vs gs)) (hl : ∀ ds s s', gs ds s = some s' → ds.length = n)
    (hn : (assignEach es X.env).length = n := by rfl) (hst : (assignEach es X.env).findIdx? (·.1) = none := by rfl) : PG X (.Tuple es k pos) (rG X.K vs (gT gs)) :=
  PGw (pg_tup hc h hn hst) fun v σ H Q q => by
  obtain ⟨m, s, h, d, s', S, r, rd, e, k⟩ := q
  cases d with
  | tup xs =>
    simp only [RelD] at rd
    obtain ⟨p, us, rfl, hp, hr⟩ := rd
    exact ⟨p, us, rfl, SqT.of hp, by rw [← hr.len]; exact hl xs s s' e, m, s, h, xs, s', S, r, hr, e, k⟩
  | _ => cases e
theorem gl_nil : ∀ ds s s', gsN ds s = some s' → ds.length = 0 := fun ds s s' e => by
  cases ds with
  | nil => rfl
  | cons a b => cases e
theorem gl_cons {n : Nat} (h : ∀ ds s s', gs ds s = some s' → ds.length = n) : ∀ ds s s', gsC g gs ds s = some s' → ds.length = n + 1 := fun ds s s' e => by
  cases ds with
  | nil => cases e
  | cons a b =>
    unfold gsC at e
    dsimp only at e
    cases e1 : g a s with
    | none => rw [e1] at e; cases e
    | some s1 =>
      rw [e1] at e
      simp [h b s1 s' e]
end

/-! ### what is walked -/
abbrev EI := SD → HC → Res (List D × List (Nat × Cell))
def chk (G : List (Nat × Cell)) (h : HC) : Bool := G.all fun g => decide (h[g.1]? = some g.2)
def WalkS (K : PySem.W.Frag) (m1 : Mp) (H1 : Hp) (J : It) (items : List D) (G : List (Nat × Cell)) : Prop :=
  ∀ m' h' H', Ext m1 m' H1 H' → Sm K m' h' H' → chk G h' = true →
    (∀ (i : Nat) (d : D), items[i]? = some d → J.go i H' ∧ ∀ x H'', J.yld i H' x H'' → Ext m' m' H' H'' ∧ Sm K m' h' H'' ∧ RelD m' H'' d x) ∧ J.stop items.length H'
def rI (K : PySem.W.Frag) (W : WX) (fi : EI) : TI := fun σ H R => ∃ m s h, Sm K m h H ∧ Rs m H s σ ∧ match fi s h with
  | .ok (items, G) h1 => ∀ m1 H1 J, Ext m m1 H H1 → Sm K m1 h1 H1 → WalkS K m1 H1 J items G → R J H1
  | .exc c h1 => ∀ m1 H1, Ext m m1 H H1 → Sm K m1 h1 H1 → W (.ref (He.ga K c)) none σ H1
  | .bad => False
def fItL (a : EE) : EI := fun s h => (a s h).bind fun x h1 => match x with
  | .ref n => (match h1[n]? with
    | some (.lst xs) => .ok (xs, [(n, .lst xs)]) h1
    | _ => .bad)
  | .scr ns => .ok (ns.map D.int, []) h1
  | _ => .bad
def fItT (a : EE) : EI := fun s h => (a s h).bind fun x h1 => match x with
  | .tup xs => .ok (xs, []) h1
  | _ => .bad
def fItS (a : EE) : EI := fun s h => (a s h).bind fun x h1 => match x with
  | .str z => .ok (z.cps.toList.map fun c => .str ⟨#[c]⟩, []) h1
  | _ => .bad
def rngD (lo : Int) (n : Nat) : List D := (List.range n).map fun (i : Nat) => D.int (lo + (i : Int))
def fItR1 (a : EE) : EI := fun s h => (a s h).bind fun x h1 => match x with
  | .int j => if -(2 ^ 62) ≤ j ∧ j < 2 ^ 62 then .ok (rngD 0 j.toNat, []) h1 else .bad
  | _ => .bad
def fItR2 (a b : EE) : EI := fun s h => (a s h).bind fun x h1 => (b s h1).bind fun y h2 => match x, y with
  | .int i, .int j => if -(2 ^ 62) ≤ i ∧ i < 2 ^ 62 ∧ -(2 ^ 62) ≤ j ∧ j < 2 ^ 62 then .ok (rngD i (j - i).toNat, []) h2 else .bad
  | _, _ => .bad
section
variable {K : PySem.W.Frag} {m1 : Mp} {H1 : Hp} {h1 : HC}
theorem chk_one {n : Nat} {c : Cell} {h : HC} (e : chk [(n, c)] h = true) : h[n]? = some c := by
  simpa [chk] using e
theorem walkS_list {n : Nat} {a : Addr} {xs : List D} (ha : m1.ad[n]? = some a) : WalkS K m1 H1 (Itl K a) xs [(n, .lst xs)] := fun m' h' H' E S c => by
  obtain ⟨vs, hv, hr⟩ := S.cell n _ a (chk_one c) (E.le n a ha)
  refine ⟨fun i d e => ?_, ⟨vs, SqL.of hv, by rw [hr.len]; exact Nat.le_refl _⟩⟩
  obtain ⟨v, hv2, hd⟩ := hr.get e
  exact ⟨⟨vs, v, SqL.of hv, hv2⟩, fun x H'' y => by
    obtain ⟨rfl, y⟩ := y
    have := y vs (SqL.of hv)
    rw [hv2] at this
    cases this
    exact ⟨Ext.refl, S, hd⟩⟩
theorem walkS_scr : WalkS K m1 H1 (Itl K m1.scr) (m1.ns.map D.int) [] := fun m' h' H' E S c => by
  have hq : SqL K H' m1.scr (m1.ns.map V.int) := by
    have := S.scr.sq
    rw [E.sc.1, E.sc.2] at this
    exact this
  refine ⟨fun i d e => ?_, ⟨_, hq, by simp⟩⟩
  obtain ⟨v, hv2, hd⟩ := (RelDs.ints (m := m') (H := H') (ns := m1.ns)).get e
  exact ⟨⟨_, v, hq, hv2⟩, fun x H'' y => by
    obtain ⟨rfl, y⟩ := y
    have := y _ hq
    rw [hv2] at this
    cases this
    exact ⟨Ext.refl, S, hd⟩⟩
theorem walkS_tup {a : Addr} {xs : List D} {vs : List V} (S1 : Sm K m1 h1 H1) (ha : H1 a = some (.tup vs)) (r : RelDs m1 H1 xs vs) : WalkS K m1 H1 (Itt K a) xs [] := fun m' h' H' E S c => by
  have hq : SqT K H' a vs := SqT.of (S1.kept E a vs ha)
  have hr := r.mono S1 E
  refine ⟨fun i d e => ?_, ⟨vs, hq, by rw [hr.len]; exact Nat.le_refl _⟩⟩
  obtain ⟨v, hv2, hd⟩ := hr.get e
  exact ⟨⟨vs, v, hq, hv2⟩, fun x H'' y => by
    obtain ⟨rfl, y⟩ := y
    have := y vs hq
    rw [hv2] at this
    cases this
    exact ⟨Ext.refl, S, hd⟩⟩
theorem walkS_range {lo : Int} {n : Nat} : WalkS K m1 H1 (Itr lo n) (rngD lo n) [] := fun m' h' H' E S c => by
  refine ⟨fun i d e => ?_, by show n ≤ (rngD lo n).length; simp [rngD]⟩
  have hi : i < n := by
    have := (List.getElem?_eq_some_iff.mp e).1
    simpa [rngD] using this
  refine ⟨hi, fun x H'' y => ?_⟩
  obtain ⟨rfl, rfl⟩ := y
  refine ⟨Ext.refl, S, ?_⟩
  unfold rngD at e
  rw [List.getElem?_map, List.getElem?_range hi] at e
  simp at e
  subst e
  simp [RelD]
theorem walkS_str {z : Str} : WalkS K m1 H1 (Its z) (z.cps.toList.map fun c => .str ⟨#[c]⟩) [] := fun m' h' H' E S c => by
  refine ⟨fun i d e => ?_, by show z.cps.size ≤ _; simp⟩
  have hi : i < z.cps.size := by
    have := (List.getElem?_eq_some_iff.mp e).1
    simpa using this
  refine ⟨hi, fun x H'' y => ?_⟩
  obtain ⟨rfl, c, hc, rfl⟩ := y
  refine ⟨Ext.refl, S, ?_⟩
  rw [List.getElem?_map, Array.getElem?_toList, hc] at e
  simp at e
  subst e
  simp [RelD]
end
section
variable {X : Cx} {W : WX} {tg e : Expr} {fa fb : EE} {p pos : Pos}
theorem PIw {iter : Expr} {t t' : TI} (h : PI X tg iter t) (w : ∀ σ H R, t' σ H R → t σ H R) : PI X tg iter t' := ⟨fun pins s σ H R I q => h.run pins s σ H R I (w _ _ _ q)⟩
theorem si_val {wi : TI} {g : D → HC → Res (List D × List (Nat × Cell))} (h : PI X tg e wi)
    (w : ∀ σ H R, rE X.K W fa σ H (fun v H1 => ∃ m1 h1 d, Sm X.K m1 h1 H1 ∧ RelD m1 H1 d v ∧ ∃ items G h2, g d h1 = .ok (items, G) h2 ∧ h2 = h1 ∧ ∀ J, WalkS X.K m1 H1 J items G → R J H1) → wi σ H R)
    (hg : ∀ d h, (∃ xs G, g d h = .ok (xs, G) h) ∨ g d h = .bad) : PI X tg e (rI X.K W fun s h => (fa s h).bind fun x h1 => g x h1) := PIw h fun σ H R q => by
  obtain ⟨m, s, h, S, r, p⟩ := q
  refine w σ H R ⟨m, s, h, S, r, ?_⟩
  dsimp only at p
  cases e1 : fa s h with
  | ok d h1 =>
    rw [e1] at p
    intro m1 H1 v E1 S1 r1
    rcases hg d h1 with ⟨xs, G, e2⟩ | e2
    · dsimp only [Res.bind] at p
      rw [e2] at p
      exact ⟨m1, h1, d, S1, r1, xs, G, h1, e2, rfl, fun J hw => p m1 H1 J E1 S1 hw⟩
    · dsimp only [Res.bind] at p
      rw [e2] at p
      exact p.elim
  | exc c h1 => rw [e1] at p; exact p
  | bad => rw [e1] at p; exact p
theorem si_list (ha : PE X e (rE X.K W fa)) : PI X tg e (rI X.K W (fItL fa)) :=
  si_val (pi_list ha) (fun σ H R q => rd_mono q fun v H1 ⟨m1, h1, d, S1, r1, xs, G, h2, e, _, k⟩ => by
    cases d with
    | ref n =>
      dsimp only at e
      simp only [RelD] at r1
      obtain ⟨a, ha, rfl⟩ := r1
      split at e
      · rename_i ys hy
        cases e
        obtain ⟨vs, hv, hr⟩ := S1.cell n _ a hy ha
        exact ⟨a, rfl, ⟨vs, SqL.of hv⟩, k _ (walkS_list ha)⟩
      · cases e
    | scr ns =>
      cases e
      simp only [RelD] at r1
      obtain ⟨rfl, rfl⟩ := r1
      exact ⟨_, rfl, ⟨_, S1.scr.sq⟩, k _ walkS_scr⟩
    | _ => cases e) fun d h => by
    cases d with
    | ref n =>
      dsimp only
      split
      · exact .inl ⟨_, _, rfl⟩
      · exact .inr rfl
    | scr ns => exact .inl ⟨_, _, rfl⟩
    | _ => exact .inr rfl
theorem si_tup (ha : PE X e (rE X.K W fa)) : PI X tg e (rI X.K W (fItT fa)) :=
  si_val (pi_tup ha) (fun σ H R q => rd_mono q fun v H1 ⟨m1, h1, d, S1, r1, xs, G, h2, e, _, k⟩ => by
    cases d with
    | tup ys =>
      cases e
      simp only [RelD] at r1
      obtain ⟨a, vs, rfl, ha, hr⟩ := r1
      exact ⟨a, rfl, ⟨vs, SqT.of ha⟩, k _ (walkS_tup S1 ha hr)⟩
    | _ => cases e) fun d h => by
    cases d with
    | tup ys => exact .inl ⟨_, _, rfl⟩
    | _ => exact .inr rfl
theorem si_str (ha : PE X e (rE X.K W fa)) : PI X tg e (rI X.K W (fItS fa)) :=
  si_val (pi_str ha) (fun σ H R q => rd_mono q fun v H1 ⟨m1, h1, d, S1, r1, xs, G, h2, e, _, k⟩ => by
    cases d with
    | str z =>
      cases e
      simp only [RelD] at r1
      exact ⟨z, r1, k _ walkS_str⟩
    | _ => cases e) fun d h => by
    cases d with
    | str ys => exact .inl ⟨_, _, rfl⟩
    | _ => exact .inr rfl
end
end G9

set_option Elab.async false
set_option linter.all false
set_option maxRecDepth 100000
set_option maxHeartbeats 2000000
namespace G9
open PySem PySem.Spec PyProof.Rows L2
section
variable {X : Cx} {W : WX} {tg a b : Expr} {fa fb : EE} {p pos : Pos}
theorem si_range1 (hm : X.mg "range" = none) (ha : PE X a (rE X.K W fa)) (hg : Gl X "range" := by rfl) (hs : starEach [a] X.env = [(false, eval a X.env)] := by rfl) : PI X tg (.Call (.Name "range" p) [a] [] pos) (rI X.K W (fItR1 fa)) :=
  si_val (pi_range1 hg hm (pa_cons ha pa_nil hs) hs) (fun σ H R q => rd_mono q fun v H1 ⟨m1, h1, d, S1, r1, xs, G, h2, e, _, k⟩ => by
    cases d with
    | int j =>
      dsimp only at e
      split at e
      · rename_i hj
        cases e
        simp only [RelD] at r1
        subst r1
        exact ⟨j, rfl, hj.1, hj.2, k _ walkS_range⟩
      · cases e
    | _ => cases e) fun d h => by
    cases d with
    | int j =>
      dsimp only
      split
      · exact .inl ⟨_, _, rfl⟩
      · exact .inr rfl
    | _ => exact .inr rfl
theorem si_range2 (hm : X.mg "range" = none) (ha : PE X a (rE X.K W fa)) (hb : PE X b (rE X.K W fb)) (hg : Gl X "range" := by rfl) (hs : starEach [a, b] X.env = [(false, eval a X.env), (false, eval b X.env)] := by rfl) (hs2 : starEach [b] X.env = [(false, eval b X.env)] := by rfl) :
    PI X tg (.Call (.Name "range" p) [a, b] [] pos) (rI X.K W (fItR2 fa fb)) :=
  PIw (pi_range2 hg hm (pa_cons ha (pa_cons hb pa_nil hs2) (by rw [hs, hs2])) hs hs2) fun σ H R q => by
    obtain ⟨m, s, h, S, r, p⟩ := q
    refine ⟨m, s, h, S, r, ?_⟩
    unfold fItR2 at p
    cases e1 : fa s h with
    | ok d1 h1 =>
      rw [e1] at p
      intro m1 H1 v1 E1 S1 r1
      refine ⟨m1, s, h1, S1, r.mono S E1, ?_⟩
      dsimp only [Res.bind] at p
      cases e2 : fb s h1 with
      | ok d2 h2 =>
        rw [e2] at p
        intro m2 H2 v2 E2 S2 r2
        dsimp only at p
        cases d1 with
        | int i =>
          cases d2 with
          | int j =>
            dsimp only at p
            have r1' := r1.mono S1 E2
            simp only [RelD] at r1' r2
            subst r1' r2
            by_cases hj : -(2 ^ 62) ≤ i ∧ i < 2 ^ 62 ∧ -(2 ^ 62) ≤ j ∧ j < 2 ^ 62
            · rw [if_pos hj] at p
              exact ⟨i, j, rfl, hj, p m2 H2 _ (E1.trans E2) S2 walkS_range⟩
            · rw [if_neg hj] at p
              exact p.elim
          | _ => exact p.elim
        | _ => cases d2 <;> exact p.elim
      | exc c h2 => rw [e2] at p; exact fun m2 H2 E2 S2 => p m2 H2 (E1.trans E2) S2
      | bad => rw [e2] at p; exact p
    | exc c h1 => rw [e1] at p; exact p
    | bad => rw [e1] at p; exact p
end

/-! ### for -/
def forLoop (G : List (Nat × Cell)) (g : EG) (body : ES) : List D → SD → HC → RS
  | [], s, h => if chk G h = true then .nx s h else .bad
  | d :: ds, s, h => if chk G h = true then (match g d s with
    | some s1 => (match body s1 h with
      | .nx s2 h2 => forLoop G g body ds s2 h2
      | .ct s2 h2 => forLoop G g body ds s2 h2
      | .bk s2 h2 => .nx s2 h2
      | r => r)
    | none => .bad) else .bad
def fFor (it : EI) (g : EG) (body : ES) : ES := fun s h => ofR s (it s h) fun x h1 => forLoop x.2 g body x.1 s h1
section
variable {X : Cx} {W : WX} {tg iter : Expr} {body : List Stmt} {fi : EI} {g : EG} {fb : ES} {vs : List Nat} {pos : Pos}
theorem tFor_of {K : PySem.W.Frag} (En : Ends) (σ : L2.St) (H : Hp) (q : rS K W (fFor fi g fb) En σ H) : tFor (rI K W fi) (rG K vs g) (rS K W fb) En σ H := by
  obtain ⟨m, s, h, S, r, p⟩ := q
  refine ⟨m, s, h, S, r, ?_⟩
  unfold fFor at p
  cases e : fi s h with
  | exc c h1 => rw [e] at p; exact fun m1 H1 E S1 => p m1 H1 σ E S1 (r.mono S E)
  | bad => rw [e] at p; exact p
  | ok x h1 =>
    obtain ⟨items, G⟩ := x
    rw [e] at p
    intro m1 H1 J E1 S1 hw
    refine ⟨fun i n σ' H' => n = items.length - i ∧ i ≤ items.length ∧ ∃ m' s' h', Ext m1 m' H1 H' ∧ Sm K m' h' H' ∧ Rs m' H' s' σ' ∧ postS K W m' H' En (forLoop G g fb (items.drop i) s' h'),
      ⟨items.length, by simp, Nat.zero_le _, m1, s, h1, Ext.refl, S1, r.mono S E1, by rw [List.drop_zero]; exact postS_ext p E1⟩, ?_⟩
    rintro i n σ' H' ⟨rfl, hi, m', s', h', E', S', r', p'⟩
    by_cases hlt : i < items.length
    · have ed : items.drop i = items[i] :: items.drop (i + 1) := (List.drop_eq_getElem_cons hlt)
      rw [ed] at p'
      unfold forLoop at p'
      by_cases hc : chk G h' = true
      · rw [if_pos hc] at p'
        obtain ⟨w1, w2⟩ := hw m' h' H' E' S' hc
        obtain ⟨go, yl⟩ := w1 i items[i] (by simp [hlt])
        refine .inr ⟨go, _, fun σ2 H2 q => ⟨items.length - (i + 1), by omega, q⟩, fun x H'' y => ?_⟩
        obtain ⟨Ey, Sy, ry⟩ := yl x H'' y
        cases e2 : g items[i] s' with
        | none => rw [e2] at p'; exact p'.elim
        | some s1 =>
          rw [e2] at p'
          refine ⟨m', s', h', items[i], s1, Sy, r'.mono S' Ey, ry, e2, fun σ2 r2 _ => ⟨m', s1, h', Sy, r2, ?_⟩⟩
          dsimp only at p'
          have p3 := postS_ext p' Ey
          cases e3 : fb s1 h' with
          | nx s2 h2 =>
            rw [e3] at p3
            exact fun m4 H4 σ4 E4 S4 r4 => ⟨rfl, hlt, m4, s2, h2, (E'.trans Ey).trans E4, S4, r4, postS_ext p3 E4⟩
          | ct s2 h2 =>
            rw [e3] at p3
            exact fun m4 H4 σ4 E4 S4 r4 => ⟨rfl, hlt, m4, s2, h2, (E'.trans Ey).trans E4, S4, r4, postS_ext p3 E4⟩
          | bk s2 h2 =>
            rw [e3] at p3
            exact p3
          | ret s2 h2 => rw [e3] at p3; exact p3
          | exc c s2 h2 => rw [e3] at p3; exact p3
          | bad => rw [e3] at p3; exact p3
      · rw [if_neg hc] at p'
        exact p'.elim
    · have ei : i = items.length := by omega
      subst ei
      rw [List.drop_length] at p'
      unfold forLoop at p'
      by_cases hc : chk G h' = true
      · rw [if_pos hc] at p'
        obtain ⟨w1, w2⟩ := hw m' h' H' E' S' hc
        exact .inl ⟨w2, p' _ _ _ Ext.refl S' r'⟩
      · rw [if_neg hc] at p'
        exact p'.elim
theorem ss_for (hp : PassesOwn (model X.prog X.w) X.A X.env X.xe) (hc : X.calm = true) (hi : PI X tg iter (rI X.K W fi)) (hg : PG X tg (rG X.K vs g)) (hb : PSs X body (rS X.K W fb)) (hs : ∀ x, foldedSetIterable iter X.env x = pure x := by intro _; rfl) :
    PS X (.For tg iter body [] pos) (rS X.K W (fFor fi g fb)) := PSw (ps_for hp hc hi hg hb hs) tFor_of
end

/-! ### while -/
def fWhile (c : ET) (b : ES) : Nat → ES
  | 0 => fun _ _ => .bad
  | n + 1 => fun s h => ofR s (c s h) fun x h1 => if x = true then (match b s h1 with
    | .nx s2 h2 => fWhile c b n s2 h2
    | .ct s2 h2 => fWhile c b n s2 h2
    | .bk s2 h2 => .nx s2 h2
    | r => r) else .nx s h1
section
variable {X : Cx} {W : WX} {c : Expr} {body : List Stmt} {gc : ET} {fb : ES} {pos : Pos}
theorem ss_while (n : Nat) (hp : PassesOwn (model X.prog X.w) X.A X.env X.xe) (hc : PT X c (rT X.K W gc)) (hb : PSs X body (rS X.K W fb)) : PS X (.While c body [] pos) (rS X.K W (fWhile gc fb n)) :=
  PSw (ps_while hp hc hb) fun En σ H q => by
    refine ⟨fun n σ H => rS X.K W (fWhile gc fb n) En σ H, ⟨n, q⟩, fun n σ H q => ?_⟩
    cases n with
    | zero =>
      obtain ⟨m, s, h, S, r, p⟩ := q
      exact p.elim
    | succ n =>
      refine rd_mono (rS_bind (R := RelB) (f := gc) (g := fun x s h1 => if x = true then (match fb s h1 with
        | .nx s2 h2 => fWhile gc fb n s2 h2
        | .ct s2 h2 => fWhile gc fb n s2 h2
        | .bk s2 h2 => .nx s2 h2
        | r => r) else .nx s h1) q) fun x H1 ⟨m1, s, h1, d1, S1, r1, q1, p1⟩ => ?_
      obtain rfl : d1 = x := q1
      cases d1 with
      | false => exact p1 _ _ _ Ext.refl S1 r1
      | true =>
        rw [if_pos rfl] at p1 ⊢
        refine ⟨fun σ' H' => rS X.K W (fWhile gc fb n) En σ' H', fun σ' H' q => ⟨n, Nat.lt_succ_self n, q⟩, m1, s, h1, S1, r1, ?_⟩
        cases e3 : fb s h1 with
        | nx s2 h2 =>
          rw [e3] at p1
          exact fun m4 H4 σ4 E4 S4 r4 => ⟨m4, s2, h2, S4, r4, postS_ext p1 E4⟩
        | ct s2 h2 =>
          rw [e3] at p1
          exact fun m4 H4 σ4 E4 S4 r4 => ⟨m4, s2, h2, S4, r4, postS_ext p1 E4⟩
        | bk s2 h2 => rw [e3] at p1; exact p1
        | ret s2 h2 => rw [e3] at p1; exact p1
        | exc c s2 h2 => rw [e3] at p1; exact p1
        | bad => rw [e3] at p1; exact p1
end

/-! ### comprehensions -/
def wipeD (s : SD) : List Nat → SD
  | [] => s
  | v :: vs => (wipeD s vs).set v none
theorem wipe_wipe (σ : L2.St) (vs : List Nat) : wipe (wipe σ vs) vs = wipe σ vs := by
  apply List.ext_getElem?
  intro j
  rw [wipe_get, wipe_get]
  by_cases hj : j ∈ vs
  · rw [if_pos hj, if_pos hj]
    cases σ[j]? <;> rfl
  · rw [if_neg hj, if_neg hj]
theorem Rs.setN {m : Mp} {H : Hp} {s : SD} {σ : L2.St} {i : Nat} (r : Rs m H s σ) : Rs m H (s.set i none) (σ.set i none) := by
  refine ⟨by simpa using r.1, fun j d' e => ?_⟩
  by_cases hj : i = j
  · subst hj
    have hl : i < s.length := by
      have := (List.getElem?_eq_some_iff.mp e).1
      simpa using this
    rw [List.getElem?_set_self hl] at e
    cases e
  · rw [List.getElem?_set_ne hj] at e ⊢
    exact r.2 j d' e
theorem Rs.wipe {m : Mp} {H : Hp} {s : SD} {σ : L2.St} (r : Rs m H s σ) : ∀ vs : List Nat, Rs m H (wipeD s vs) (wipe σ vs)
  | [] => r
  | v :: vs => (Rs.wipe r vs).setN
def lcLoop (G : List (Nat × Cell)) (g : EG) (c : ET) (a : EE) (s : SD) : List D → List D → HC → Res (List D)
  | [], acc, h => if chk G h = true then .ok acc h else .bad
  | d :: ds, acc, h => if chk G h = true then (match g d s with
    | some s1 => (match c s1 h with
      | .ok true h2 => (match a s1 h2 with
        | .ok y h3 => if acc.length < BIG then lcLoop G g c a s ds (acc ++ [y]) h3 else .bad
        | _ => .bad)
      | .ok false h2 => lcLoop G g c a s ds acc h2
      | _ => .bad)
    | none => .bad) else .bad
def fLc (it : EI) (own : List Nat) (g : EG) (c : ET) (a : EE) : EE := fun s h => (it s h).bind fun x h1 => (lcLoop x.2 g c a (wipeD s own) x.1 [] h1).bind fun xs h2 => .ok (.ref h2.length) (h2 ++ [.lst xs])
def fYes : ET := fun _ h => .ok true h
abbrev W0 : WX := fun _ _ _ _ => False
theorem Sm.updOut {K : PySem.W.Frag} {m : Mp} {h : HC} {H : Hp} (S : Sm K m h H) {p : Addr} {vs : List V} {o : HO} (hp : p ∉ m.ad) (e : H p = some (.lst vs)) : Sm K m h (upd H p o) ∧ ∀ q us, H q = some (.tup us) → upd H p o q = some (.tup us) := by
  have ht : ∀ q us, H q = some (.tup us) → upd H p o q = some (.tup us) := fun q us eq => by
    rw [upd_ne (fun z => by rw [z, e] at eq; cases eq)]
    exact eq
  refine ⟨⟨S.len, S.nd, S.scr.upd (fun o w z => by rw [e] at z; cases z), fun i c a hc ha => ?_⟩, ht⟩
  refine (S.cell i c a hc ha).mono_ (fun _ _ z => z) ⟨rfl, rfl⟩ ht (upd_ne ?_)
  rintro rfl
  exact hp (List.mem_of_getElem? ha)
section
variable {K : PySem.W.Frag} {W : WX} {fi : EI} {g : EG} {fc : ET} {fa : EE} {vs : List Nat}
theorem tLc_of (own : List Nat) (σ : L2.St) (H : Hp) (Q : VK) (q : rE K W (fLc fi own g fc fa) σ H Q) : tLc (rI K W fi) (rG K own g) (rT K W0 fc) (rE K W0 fa) own σ H Q := by
  obtain ⟨m, s, h, S, r, p⟩ := q
  refine ⟨m, s, h, S, r, ?_⟩
  unfold fLc at p
  cases e : fi s h with
  | exc c h1 => rw [e] at p; exact p
  | bad => rw [e] at p; exact p
  | ok x h1 =>
    obtain ⟨items, G⟩ := x
    rw [e] at p
    intro m1 H1 J E1 S1 hw P hP
    have p1 := post_ext p E1
    dsimp only [Res.bind] at p1
    refine ⟨fun i n H' => n = items.length - i ∧ i ≤ items.length ∧ ∃ m' h' acc us, Ext m1 m' H1 H' ∧ Sm K m' h' H' ∧ Rs m' H' (wipeD s own) (wipe σ own) ∧ P ∉ m'.ad ∧ H' P = some (.lst us) ∧ RelDs m' H' acc us ∧ acc.length ≤ BIG ∧
        post RelD K W σ m1 H1 Q ((lcLoop G g fc fa (wipeD s own) (items.drop i) acc h').bind fun xs h2 => .ok (.ref h2.length) (h2 ++ [.lst xs])), ⟨items.length, by simp, Nat.zero_le _, m1, h1, [], [], ?_⟩, ?_⟩
    · obtain ⟨S2, E2⟩ := S1.newT (o := .lst []) hP
      refine ⟨E2, S2, ((r.mono S E1).mono S1 E2).wipe own, S1.freshOut hP, upd_same, RelDs.nil, Nat.zero_le _, ?_⟩
      simpa [Res.bind] using p1
    · rintro i n H' ⟨rfl, hi, m', h', acc, us, E', S', r', hPm, hPv, ra, hal, p'⟩
      by_cases hlt : i < items.length
      · have ed : items.drop i = items[i] :: items.drop (i + 1) := (List.drop_eq_getElem_cons hlt)
        rw [ed] at p'
        unfold lcLoop at p'
        by_cases hc : chk G h' = true
        · rw [if_pos hc] at p'
          obtain ⟨w1, w2⟩ := hw m' h' H' E' S' hc
          obtain ⟨go, yl⟩ := w1 i items[i] (by simp [hlt])
          refine .inr ⟨go, _, fun H2 q => ⟨items.length - (i + 1), by omega, q⟩, fun x H'' y => ?_⟩
          obtain ⟨Ey, Sy, ry⟩ := yl x H'' y
          cases e2 : g items[i] (wipeD s own) with
          | none => rw [e2] at p'; exact p'.elim
          | some s1 =>
            rw [e2] at p'
            refine ⟨m', wipeD s own, h', items[i], s1, Sy, r'.mono S' Ey, ry, e2, fun σ2 r2 w2' => ⟨by rw [w2']; exact wipe_wipe σ own, m', s1, h', Sy, r2, ?_⟩⟩
            dsimp only at p'
            cases e3 : fc s1 h' with
            | exc c h2 => rw [e3] at p'; exact p'.elim
            | bad => rw [e3] at p'; exact p'.elim
            | ok b h2 =>
              rw [e3] at p'
              intro m3 H3 b' E3 S3 q3
              obtain rfl : b = b' := q3
              have hP3 := E3.fr P _ hPm (Ey.fr P _ hPm hPv).2
              have ra3 := (ra.mono S' Ey).mono Sy E3
              have E13 := (E'.trans Ey).trans E3
              have r3 := (r'.mono S' Ey).mono Sy E3
              cases b with
              | false =>
                rw [if_neg Bool.false_ne_true]
                exact ⟨rfl, hlt, m3, h2, acc, us, E13, S3, r3, hP3.1, hP3.2, ra3, hal, p'⟩
              | true =>
                rw [if_pos rfl]
                refine ⟨m3, s1, h2, S3, r2.mono Sy E3, ?_⟩
                dsimp only at p'
                cases e4 : fa s1 h2 with
                | exc c h2 => rw [e4] at p'; exact p'.elim
                | bad => rw [e4] at p'; exact p'.elim
                | ok yd h3 =>
                  rw [e4] at p'
                  intro m4 H4 yv E4 S4 q4
                  dsimp only at p'
                  by_cases hl : acc.length < BIG
                  · rw [if_pos hl] at p'
                    have hP4 := E4.fr P _ hP3.1 hP3.2
                    have ra4 := ra3.mono S3 E4
                    refine ⟨us, hP4.2, by rw [← ra.len]; exact Nat.lt_of_lt_of_le hl big_le, ?_⟩
                    obtain ⟨S5, t5⟩ := S4.updOut (o := .lst (us ++ [yv])) hP4.1 hP4.2
                    have E14 := E13.trans E4
                    refine ⟨rfl, hlt, m4, h3, acc ++ [yd], us ++ [yv], ⟨E14.le, E14.sc, fun z o hz ez => ?_⟩, S5, ?_, hP4.1, upd_same, ?_, by simp; omega, p'⟩
                    · have := E14.fr z o hz ez
                      exact ⟨this.1, by rw [upd_ne (ne_of_none ez hP)]; exact this.2⟩
                    · refine ⟨r3.1, fun j d hj => ?_⟩
                      obtain ⟨v, hv, hd⟩ := (r3.mono S3 E4).2 j d hj
                      exact ⟨v, hv, RelD.mono_ (fun _ _ z => z) ⟨rfl, rfl⟩ t5 _ _ hd⟩
                    · exact RelDs.mono_ (fun _ _ z => z) ⟨rfl, rfl⟩ t5 _ _ (ra4.append (RelDs.cons q4 RelDs.nil))
                  · rw [if_neg hl] at p'
                    exact p'.elim
        · rw [if_neg hc] at p'
          exact p'.elim
      · have ei : i = items.length := by omega
        subst ei
        rw [List.drop_length] at p'
        unfold lcLoop at p'
        by_cases hc : chk G h' = true
        · rw [if_pos hc] at p'
          obtain ⟨w1, w2⟩ := hw m' h' H' E' S' hc
          refine .inl ⟨w2, ?_⟩
          refine p' (m'.snoc P) H' (.ref P) ⟨fun n a z => ?_, E'.sc, fun z o hz ez => ?_⟩ (S'.adopt hPm ⟨us, hPv, ra⟩ (fun _ _ => trivial)) ?_
          · show (m'.ad ++ [P])[n]? = some a
            rw [List.getElem?_append_left (List.getElem?_eq_some_iff.mp (E'.le n a z)).1]
            exact E'.le n a z
          · have := E'.fr z o hz ez
            have hzp : z ≠ P := ne_of_none ez hP
            exact ⟨by simp [this.1, hzp, Mp.snoc], this.2⟩
          · simp only [RelD]
            exact ⟨P, by rw [S'.len]; exact Mp.last, rfl⟩
        · rw [if_neg hc] at p'
          exact p'.elim
end
end G9

set_option Elab.async false
set_option linter.all false
set_option maxRecDepth 100000
set_option maxHeartbeats 2000000
namespace G9
open PySem PySem.Spec PyProof.Rows L2

/-! ### enumerate of a tuple -/
def IteT (K : PySem.W.Frag) (a : Addr) : It where
  go := fun i H => ∃ (us : List V) (x : V), SqT K H a us ∧ us[i]? = some x
  yld := fun i H v H' => ∃ T x, v = .ref T ∧ H T = none ∧ H' = upd H T (.tup [.int (i : Nat), x]) ∧ ∀ us, SqT K H a us → us[i]? = some x
  stop := fun i H => ∃ us : List V, SqT K H a us ∧ us.length = i
theorem isTup_ne {h : Heap} {a b : Addr} {items : Array Value} {o : Obj} (p : IsTup h a items) (e : h.get? b = some o) (c : o.cls ≠ .type "tuple") : a ≠ b := by
  rintro rfl
  obtain ⟨o', e', c', _⟩ := p
  rw [e] at e'
  cases e'
  exact c c'
theorem turn_enumT {P : Program} {w : World} {K : PySem.W.Frag} {elts : List Expr} {kk : Nat} {tpos : Pos} (a en it : Addr) :
    Turn P w K (.Tuple elts kk tpos) (IteT K a) [en, it] en (fun i h => (∃ old, IsEnum h en it ((i : Nat) : Int) old) ∧ h.IsTupleIter it a i ∧ en ≠ it) where
  mem := List.mem_cons_self
  obj := fun i h st b hb => by
    obtain ⟨⟨old, he⟩, ⟨o, ho, hc, hd⟩, _⟩ := st
    rcases List.mem_cons.mp hb with rfl | hb
    · exact ⟨_, he, fun v q => nomatch q⟩
    · rw [List.mem_singleton.mp hb]
      exact ⟨o, ho, fun v q => by rw [hd] at q; cases q⟩
  keep := fun i h h' st k => by
    obtain ⟨⟨old, he⟩, hi, hne⟩ := st
    exact ⟨⟨old, k en List.mem_cons_self _ he⟩, hi.at fun o q => k it (by simp) o q, hne⟩
  item := by
    intro X hP hw hK hc i pins s σ H E I hf st hg
    subst hP hw hK
    obtain ⟨⟨old, he⟩, hit, hne⟩ := st
    obtain ⟨us, x, hq, hx⟩ := hg
    obtain ⟨its, rv, pt, hz⟩ := I.tuple hq
    obtain ⟨u, hu, ru⟩ := rv.get hx
    have hel : en < s.heap.objs.size := Heap.lt_size he
    obtain ⟨oi, hoi, hci, hdi⟩ := id hit
    have hil : it < s.heap.objs.size := Heap.lt_size hoi
    have hai : a ≠ it := isTup_ne pt hoi (by rw [hci]; decide)
    have hae : a ≠ en := isTup_ne pt he (show (Value.type "enumerate") ≠ Value.type "tuple" by decide)
    have hlt : i < its.toArray.size := by
      have := (List.getElem?_eq_some_iff.mp hu).1
      simpa using this
    refine wpAny_pyNext_enum_itemD (Draws.tuple (A := X.A.in1) (I.ok.hd hc) it a hai its.toArray) he ⟨hit, pt⟩ hlt hne (by simp [hne, Ne.symm hae]) fun y h' tk hy ho hst hT hsz hk => ?_
    have ey : y = u := by
      have h1 : its[i]? = some y := by simpa using hy
      rw [hu] at h1
      exact (Option.some.inj h1).symm
    subst ey
    refine ⟨_, rfl, wpAny_letOwnedTupleGo_enum (s := { s with heap := h', toks := tk + 1 }) ho fun h2 he2 sb => ?_⟩
    have hT2 : h2.get? s.heap.objs.size = some { cls := .type "tuple", data := .seq #[.int i tk, y] } := (sb.2 _ (Nat.ne_of_gt hel)).trans hT
    have new : ObjOk X.prog X.w (upd H s.heap.objs.size (.tup [.int (i : Nat), x])) h2 s.heap.objs.size (.tup [.int (i : Nat), x]) :=
      ⟨Nat.le_trans (show 2 ≤ BIG by decide) big_le, [.int i tk, y], .cons ⟨_, rfl⟩ (.cons ru .nil), ⟨_, hT2, rfl, _, rfl⟩⟩
    have kp : ∀ b o, b ∉ [en, it] → s.heap.get? b = some o → h2.get? b = some o := fun b o hb q => by
      have h1 : b ≠ en := fun z => hb (by simp [z])
      have h3 : b ≠ it := fun z => hb (by simp [z])
      exact (sb.2 b h1).trans (hk b o h1 h3 q)
    have J : Inv X pins σ (upd H s.heap.objs.size (.tup [.int (i : Nat), x])) { s with heap := h2, toks := tk + 1 } := I.turnedNew (ch := [en, it]) kp hf (Nat.le_refl _) new
    refine ⟨.ref s.heap.objs.size, _, J, rfl, ⟨_, x, rfl, I.hok.fresh (Nat.le_refl _), rfl, fun ws hws => by rw [I.tuple_inj hws hq]; exact hx⟩, ⟨⟨y, ?_⟩, hst.1.at fun o q => (sb.2 it (Ne.symm hne)).trans q, hne⟩, fun b hb => ?_⟩
    · have e1 : ((i + 1 : Nat) : Int) = (i : Int) + 1 := by omega
      rw [e1]
      exact he2
    · have hb' : b < s.heap.objs.size := by
        rcases List.mem_cons.mp hb with rfl | hb
        · exact hel
        · rw [List.mem_singleton.mp hb]
          exact hil
      rw [upd_ne (Nat.ne_of_lt hb')]
      exact (hf b hb).1
  done := by
    intro X hP hw hK hc i pins s σ H E I hf st hg
    subst hP hw hK
    obtain ⟨⟨old, he⟩, hit, hne⟩ := st
    obtain ⟨us, hq, hx⟩ := hg
    obtain ⟨its, rv, pt, hz⟩ := I.tuple hq
    obtain ⟨f0, f1, f2, f3, f4, f5⟩ := hf it (by simp)
    obtain ⟨oi, hoi, hci, hdi⟩ := id hit
    have hai : a ≠ it := isTup_ne pt hoi (by rw [hci]; decide)
    have hl : its.toArray.size = i := by rw [List.size_toArray, ← rv.length, hx]
    subst hl
    exact wpAny_pyNext_enum_endD (Draws.tuple (A := X.A.in1) (I.ok.hd hc) it a hai its.toArray) he ⟨hit, pt⟩ fun h' eb => ⟨rfl, I.turned (t' := s.toks) (fun b o hb q => eb b o hb q) f0 f1 f3 f4 f5⟩
  self := fun A i s Q E st h => by
    obtain ⟨⟨old, he⟩, _⟩ := st
    exact wpAny_pyIter_enum he h
set_option maxHeartbeats 1000000 in
theorem meets_enumT {t : Addr} {items : Array Value} :
    Meets (Builtin.«enumerate.__new__» ⟨[.type "enumerate", .ref t], []⟩) (fun _ R s => s.heap.IsTuple t items ∧
      R (.ok (.ret (.ref (s.heap.push { cls := .type "tuple_iterator", data := .fields #[.ref t, .int 0 0] }).objs.size)))
        { s with heap := (s.heap.push { cls := .type "tuple_iterator", data := .fields #[.ref t, .int 0 0] }).push { cls := .type "enumerate", data := .fields #[.none, .bool false, .ref s.heap.objs.size, rawInt 0, .none, .none] } }) :=
  .of_wp fun prog w A R s h => by
    obtain ⟨hp, g, d, tk, os⟩ := s
    obtain ⟨h1, h⟩ := h
    have hsub := sub_enumerate
    have go : ∀ {A' : Around} {E : Value → Shared → Prop} {Q : Value → Shared → Prop}, Q (.ref hp.objs.size) ⟨hp.push { cls := .type "tuple_iterator", data := .fields #[.ref t, .int 0 0] }, g, d, tk, os⟩ → wpAny (model prog w) A' (pyIter (.ref t)) Q E ⟨hp, g, d, tk, os⟩ :=
      fun q => (begins_tuple t items).iter prog w _ _ ⟨hp, g, d, tk, os⟩ _ h1 q
    wp_walk using go
    refine wpAny_stack_any fun st => wpAny_pure ?_
    split
    · rename_i c _ _ _ _ _
      cases (c == Value.type "enumerate")
      all_goals
        wp_walk using go
        exact ⟨_, rfl, h⟩
    · wp_walk using go
      exact ⟨_, rfl, h⟩
theorem call_enumT {prog : Program} {w : World} {A : Around} {E : Value → Shared → Prop} {s : Shared} {t : Addr} {items : Array Value} {Q : Value → Shared → Prop} (hT : s.heap.IsTuple t items)
    (h : ∀ h', IsEnum h' (s.heap.objs.size + 1) s.heap.objs.size 0 .none → h'.IsTupleIter s.heap.objs.size t 0 → (∀ b o, s.heap.get? b = some o → h'.get? b = some o) → Q (.ref (s.heap.objs.size + 1)) { s with heap := h' }) :
    wpAny (model prog w) A (call (.type "enumerate") [.ref t]) Q E s := by
  refine callType_new F.called_enumerate (by decide) (F.typeCall_enumerate_1 _) (F.newCall_enumerate_1 _) (fun obj => F.args_object_init_2 obj _) F.entry_enumerate_new (meets_enumT (t := t) (items := items)) ⟨hT, ?_⟩
  generalize hq : s.heap.push { cls := .type "tuple_iterator", data := .fields #[.ref t, .int 0 0] } = q
  have hz : q.objs.size = s.heap.objs.size + 1 := by rw [← hq]; exact Heap.size_push ..
  have hi : q.get? s.heap.objs.size = some { cls := .type "tuple_iterator", data := .fields #[.ref t, .int 0 0] } := by rw [← hq]; exact Heap.get?_push_size _ rfl
  have hk : ∀ b o, s.heap.get? b = some o → q.get? b = some o := fun b o e => by rw [← hq]; exact Heap.get?_push_of_some _ e
  have he : (q.push { cls := .type "enumerate", data := .fields #[.none, .bool false, .ref s.heap.objs.size, rawInt 0, .none, .none] }).get? q.objs.size = some { cls := .type "enumerate", data := .fields #[.none, .bool false, .ref s.heap.objs.size, rawInt 0, .none, .none] } := Heap.get?_push_size _ rfl
  show _ ∧ _
  rw [hz] at he ⊢
  exact ⟨⟨_, he, rfl⟩, h _ he ⟨_, Heap.get?_push_of_some _ hi, rfl, rfl⟩ fun b o x => Heap.get?_push_of_some _ (hk b o x)⟩
def iEnumT (K : PySem.W.Frag) (ta : TA) : TI := fun σ H R => ta σ H fun vs H1 => ∃ a us, vs = [.ref a] ∧ SqT K H1 a us ∧ R (IteT K a) H1
theorem pi_enumT {X : Cx} {e : Expr} {ta : TA} {p pos tpos : Pos} {elts : List Expr} {kk : Nat} (hg : Gl X "enumerate") (hm : X.mg "enumerate" = none) (ha : PA X [e] ta) (hs : starEach [e] X.env = [(false, eval e X.env)] := by rfl) :
    PI X (.Tuple elts kk tpos) (.Call (.Name "enumerate" p) [e] [] pos) (iEnumT X.K ta) := by
  refine ⟨fun pins s σ H R I h => ?_⟩
  refine Call_ (ld_blt I hg hm boot_enumerate (PyProof.Rows.callWith_type1 (thn (ha.run pos pins s σ H _ I h) fun ws s1 hh => ?_) hs rfl))
  obtain ⟨vs, H1, I1, r1, a, us, ev, hq, q⟩ := hh
  subst ev
  obtain ⟨w', rfl, rw'⟩ := vals1 r1
  cases rw'
  obtain ⟨its, rv, pt, hz⟩ := I1.tuple hq
  refine call_enumT pt fun h' he hit hk => wpAny_pyIter_enum he ?_
  have J : Inv X pins σ H1 { s1 with heap := h' } := I1.kept (t' := s1.toks) hk
  refine ⟨s1.heap.objs.size + 1, [s1.heap.objs.size + 1, s1.heap.objs.size], _, _, H1, rfl, J, turn_enumT a (s1.heap.objs.size + 1) s1.heap.objs.size, ⟨⟨.none, he⟩, hit, Nat.succ_ne_self _⟩, fun b hb => ?_, q⟩
  have hle : s1.heap.objs.size ≤ b := by
    rcases List.mem_cons.mp hb with rfl | hb
    · exact Nat.le_succ _
    · rw [List.mem_singleton.mp hb]
      exact Nat.le_refl _
  exact I1.fpOk hle (I1.hok.fresh hle)
def enumD (xs : List D) : List D := (List.range xs.length).zipWith (fun (i : Nat) d => .tup [.int (i : Int), d]) xs
theorem enumD_get {xs : List D} {i : Nat} {d : D} (e : (enumD xs)[i]? = some d) : ∃ x, xs[i]? = some x ∧ d = .tup [.int (i : Int), x] := by
  unfold enumD at e
  rw [List.getElem?_zipWith] at e
  cases q : xs[i]? with
  | none => simp [q] at e
  | some x =>
    have hi : i < xs.length := (List.getElem?_eq_some_iff.mp q).1
    rw [List.getElem?_range hi, q] at e
    simp at e
    exact ⟨x, rfl, e.symm⟩
theorem enumD_len (xs : List D) : (enumD xs).length = xs.length := by simp [enumD]
def fItEL (a : EE) : EI := fun s h => (a s h).bind fun x h1 => match x with
  | .ref n => (match h1[n]? with
    | some (.lst xs) => .ok (enumD xs, [(n, .lst xs)]) h1
    | _ => .bad)
  | _ => .bad
def fItET (a : EE) : EI := fun s h => (a s h).bind fun x h1 => match x with
  | .tup xs => .ok (enumD xs, []) h1
  | _ => .bad
section
variable {K : PySem.W.Frag} {m1 : Mp} {H1 : Hp} {h1 : HC}
theorem pair_new {m : Mp} {h : HC} {H : Hp} {T : Addr} {d1 d2 : D} {v1 v2 : V} (S : Sm K m h H) (hT : H T = none) (r1 : RelD m H d1 v1) (r2 : RelD m H d2 v2) :
    Ext m m H (upd H T (.tup [v1, v2])) ∧ Sm K m h (upd H T (.tup [v1, v2])) ∧ RelD m (upd H T (.tup [v1, v2])) (.tup [d1, d2]) (.ref T) := by
  obtain ⟨S1, E1⟩ := S.newT (o := .tup [v1, v2]) hT
  refine ⟨E1, S1, ?_⟩
  simp only [RelD]
  exact ⟨T, _, rfl, upd_same, RelDs.cons (r1.mono S E1) (RelDs.cons (r2.mono S E1) RelDs.nil)⟩
theorem walkS_enumT {a : Addr} {xs : List D} {vs : List V} (S1 : Sm K m1 h1 H1) (ha : H1 a = some (.tup vs)) (r : RelDs m1 H1 xs vs) : WalkS K m1 H1 (IteT K a) (enumD xs) [] := fun m' h' H' E S c => by
  have hq : SqT K H' a vs := SqT.of (S1.kept E a vs ha)
  have hr := r.mono S1 E
  refine ⟨fun i d e => ?_, ⟨vs, hq, by rw [enumD_len, hr.len]⟩⟩
  obtain ⟨x, ex, rfl⟩ := enumD_get e
  obtain ⟨v, hv2, hd⟩ := hr.get ex
  refine ⟨⟨vs, v, hq, hv2⟩, fun y H'' yl => ?_⟩
  obtain ⟨T, u, rfl, hT, rfl, hu⟩ := yl
  have := hu vs hq
  rw [hv2] at this
  cases this
  exact pair_new S hT (by simp [RelD]) hd
theorem walkS_enumL {n : Nat} {a : Addr} {xs : List D} (ha : m1.ad[n]? = some a) : WalkS K m1 H1 (Ite K a) (enumD xs) [(n, .lst xs)] := fun m' h' H' E S c => by
  obtain ⟨vs, hv, hr⟩ := S.cell n _ a (chk_one c) (E.le n a ha)
  have hq : SqL K H' a vs := SqL.of hv
  refine ⟨fun i d e => ?_, ⟨vs, hq, by rw [enumD_len, hr.len]; exact Nat.le_refl _⟩⟩
  obtain ⟨x, ex, rfl⟩ := enumD_get e
  obtain ⟨v, hv2, hd⟩ := hr.get ex
  refine ⟨⟨vs, v, hq, hv2⟩, fun y H'' yl => ?_⟩
  obtain ⟨T, u, rfl, hT, rfl, hu⟩ := yl
  have := hu vs hq
  rw [hv2] at this
  cases this
  exact pair_new S hT (by simp [RelD]) hd
end
section
variable {X : Cx} {W : WX} {e : Expr} {fa : EE} {p pos tpos : Pos} {elts : List Expr} {kk : Nat}
theorem si_enumT (hm : X.mg "enumerate" = none) (ha : PE X e (rE X.K W fa)) (hg : Gl X "enumerate" := by rfl) (hs : starEach [e] X.env = [(false, eval e X.env)] := by rfl) : PI X (.Tuple elts kk tpos) (.Call (.Name "enumerate" p) [e] [] pos) (rI X.K W (fItET fa)) :=
  si_val (pi_enumT hg hm (pa_cons ha pa_nil hs) hs) (fun σ H R q => rd_mono q fun v H1 ⟨m1, h1, d, S1, r1, xs, G, h2, e, _, k⟩ => by
    cases d with
    | tup ys =>
      cases e
      simp only [RelD] at r1
      obtain ⟨a, vs, rfl, ha, hr⟩ := r1
      exact ⟨a, vs, rfl, SqT.of ha, k _ (walkS_enumT S1 ha hr)⟩
    | _ => cases e) fun d h => by
    cases d with
    | tup ys => exact .inl ⟨_, _, rfl⟩
    | _ => exact .inr rfl
theorem si_enumL (hm : X.mg "enumerate" = none) (ha : PE X e (rE X.K W fa)) (hg : Gl X "enumerate" := by rfl) (hs : starEach [e] X.env = [(false, eval e X.env)] := by rfl) : PI X (.Tuple elts kk tpos) (.Call (.Name "enumerate" p) [e] [] pos) (rI X.K W (fItEL fa)) :=
  si_val (pi_enum hg hm (pa_cons ha pa_nil hs) hs) (fun σ H R q => rd_mono q fun v H1 ⟨m1, h1, d, S1, r1, xs, G, h2, e, _, k⟩ => by
    cases d with
    | ref n =>
      dsimp only at e
      simp only [RelD] at r1
      obtain ⟨a, ha, rfl⟩ := r1
      split at e
      · rename_i ys hy
        cases e
        obtain ⟨vs, hv, hr⟩ := S1.cell n _ a hy ha
        exact ⟨a, vs, rfl, SqL.of hv, k _ (walkS_enumL ha)⟩
      · cases e
    | _ => cases e) fun d h => by
    cases d with
    | ref n =>
      dsimp only
      split
      · exact .inl ⟨_, _, rfl⟩
      · exact .inr rfl
    | _ => exact .inr rfl
end
end G9

set_option Elab.async false
set_option linter.all false
set_option maxRecDepth 100000
set_option maxHeartbeats 2000000
namespace G9
open PySem PySem.Spec PyProof.Rows L2

/-! ### comprehensions as expressions and in an assignment -/
section
variable {X : Cx} {W : WX} {elt tg iter : Expr} {ifs : List Expr} {scope : Scope} {own : List (Str × Nat)} {pos spos : Pos} {fi : EI} {g : EG} {fc : ET} {fa : EE}
theorem PTsw {t t' : TT} (h : PTs X ifs t) (w : ∀ σ H Q, t' σ H Q → t σ H Q) : PTs X ifs t' := ⟨fun pins s σ H Q I q => h.run pins s σ H Q I (w _ _ _ q)⟩
theorem sts_nil : PTs X [] (rT X.K W0 fYes) := PTsw pts_nil fun σ H Q q => by
  obtain ⟨m, s, h, S, r, p⟩ := q
  exact p _ _ _ Ext.refl S rfl
theorem sts_one {c : Expr} (h : PT X c (rT X.K W0 fc)) : PTs X [c] (rT X.K W0 fc) := pts_one h
theorem se_lc (hc : X.calm = true) (hN : X.N.Nodup) (ok : BlkOk X.N X.env.scope scope own) (hi : PI X tg iter (rI X.K W fi))
    (hg : ∀ (s : Shared) (H : Hp) (C : Addr) (cl : List (Str × Addr)) (fp : List Addr), PG (X.blk s H scope (compEnvC scope cl C X.env) fp) tg (rG X.K (own.map (·.2)) g))
    (ht : ∀ (s : Shared) (H : Hp) (C : Addr) (cl : List (Str × Addr)) (fp : List Addr), PTs (X.blk s H scope (compEnvC scope cl C X.env) fp) ifs (rT X.K W0 fc))
    (he : ∀ (s : Shared) (H : Hp) (C : Addr) (cl : List (Str × Addr)) (fp : List Addr), PE (X.blk s H scope (compEnvC scope cl C X.env) fp) elt (rE X.K W0 fa)) (hs : ∀ x, foldedSetIterable iter X.env x = pure x := by intro _; rfl) :
    PE X (.ListComp elt [⟨tg, iter, ifs, 0⟩] scope pos) (rE X.K W (fLc fi (own.map (·.2)) g fc fa)) := PEw (pe_lc hc hN hi ok hg ht he hs) (tLc_of _)
theorem ss_setLc {i : Nat} {y : Str} {py : Pos} (hc : X.calm = true) (hN : X.N.Nodup) (ok : BlkOk X.N X.env.scope scope own)
    (hsw : swapsWith (.ListComp elt [⟨tg, iter, ifs, 0⟩] scope pos) (some (.Name y py)) spos.line X.env = pure true) (hi : PI X tg iter (rI X.K W fi))
    (hg : ∀ (s : Shared) (H : Hp) (C : Addr) (cl : List (Str × Addr)) (fp : List Addr), PG (X.blk s H scope (compEnvC scope cl C X.env) fp) tg (rG X.K (own.map (·.2)) g))
    (ht : ∀ (s : Shared) (H : Hp) (C : Addr) (cl : List (Str × Addr)) (fp : List Addr), PTs (X.blk s H scope (compEnvC scope cl C X.env) fp) ifs (rT X.K W0 fc))
    (he : ∀ (s : Shared) (H : Hp) (C : Addr) (cl : List (Str × Addr)) (fp : List Addr), PE (X.blk s H scope (compEnvC scope cl C X.env) fp) elt (rE X.K W0 fa)) (hs : ∀ x, foldedSetIterable iter X.env x = pure x := by intro _; rfl)
    (hy : X.N[i]? = some y := by rfl) (hyl : X.env.scope.names.lookup y = some .local := by rfl) :
    PS X (.Assign [.Name y py] (.ListComp elt [⟨tg, iter, ifs, 0⟩] scope pos) spos) (rS X.K W (fSet i (fLc fi (own.map (·.2)) g fc fa))) :=
  PSw (ps_setLc hc hN hy hyl hsw hi ok hg ht he hs) fun En σ H q => by
    refine tLc_of _ σ H _ (rd_mono (rS_bind (R := RelD) (f := fLc fi (own.map (·.2)) g fc fa) (g := fun d s h1 => .nx (s.set i (some d)) h1) q) fun x H1 ⟨m1, s, h1, d1, S1, r1, q1, p1⟩ => ?_)
    exact p1 _ _ _ Ext.refl S1 (r1.set q1)
end

/-! ### more assignments -/
def fAsg (g : EG) (a : EE) : ES := fun s h => ofR s (a s h) fun d h1 => match g d s with
  | some s1 => .nx s1 h1
  | none => .bad
def fAugI (f : Int → Int → Int) (i : Nat) (a : EE) : ES := fun s h => match s[i]? with
  | some (some (.int x)) => ofR s (a s h) fun d h1 => (match d with
    | .int y => .nx (s.set i (some (.int (f x y)))) h1
    | _ => .bad)
  | _ => .bad
section
variable {X : Cx} {W : WX} {e tg : Expr} {fa : EE} {g : EG} {vs : List Nat} {pos : Pos}
theorem ss_asg (he : PE X e (rE X.K W fa)) (hg : PG X tg (rG X.K vs g)) (hs : swapsWithSole [tg] e pos.line X.env = pure false := by rfl) (hw : swappedStores [tg] e X.env = pure none := by rfl)
    (h1 : (assignEach [tg] X.env).map (·.2) = [assign tg X.env] := by rfl) : PS X (.Assign [tg] e pos) (rS X.K W (fAsg g fa)) := PSw (ps_asg he hg hs hw h1) fun En σ H q => by
  refine rd_mono (rS_bind (R := RelD) (f := fa) (g := fun d s h1 => match g d s with | some s1 => .nx s1 h1 | none => .bad) q) fun x H1 ⟨m1, s, h1, d1, S1, r1, q1, p1⟩ => ?_
  split at p1
  · rename_i s1 e1
    exact ⟨m1, s, h1, d1, s1, S1, r1, q1, e1, fun σ' r' _ => p1 _ _ _ Ext.refl S1 r'⟩
  · exact p1.elim
theorem ss_augAdd {i : Nat} {x : Str} {pos' : Pos} (hN : X.N.Nodup) (he : PE X e (rE X.K W fa)) (hi : X.N[i]? = some x := by rfl) (hx : Loc X.env.scope x := by first | exact Or.inl rfl | exact Or.inr rfl) (hf : X.fn x = true ∨ X.env.scope.names.lookup x = some .local := by first | exact .inl rfl | exact .inr rfl | assumption) :
    PS X (.AugAssign (.Name x pos') .Add e pos) (rS X.K W (fAugI (fun a b => a + b) i fa)) := PSw (ps_aug hN hi hx he ip_add hf) fun En σ H q => by
  obtain ⟨m, s, h, S, r, p⟩ := q
  unfold fAugI at p
  split at p
  · rename_i z ez
    obtain ⟨v, hv, hr⟩ := r.2 i _ ez
    simp only [RelD] at hr
    subst hr
    refine ⟨_, hv, ?_⟩
    refine ⟨m, s, h, S, r, ?_⟩
    cases e1 : fa s h with
    | ok d h1 =>
      rw [e1] at p
      intro m1 H1 y E1 S1 r1
      dsimp only [ofR] at p
      split at p
      · simp only [RelD] at r1
        exact ⟨_, _, rfl, r1, p _ _ _ E1 S1 ((r.mono S E1).set (by simp [RelD]))⟩
      · exact p.elim
    | exc c h1 => rw [e1] at p; exact fun m1 H1 E1 S1 => p m1 H1 σ E1 S1 (r.mono S E1)
    | bad => rw [e1] at p; exact p
  · exact p.elim
end

/-! ### built-ins by values -/
def bList : List D → HC → Res D
  | [.tup xs], h => newL xs h
  | [.ref n], h => (match asSeq h n with
    | some xs => newL xs h
    | none => .bad)
  | _, _ => .bad
def bTuple : List D → HC → Res D
  | [.tup xs], h => mkT xs h
  | [.ref n], h => (match asSeq h n with
    | some xs => mkT xs h
    | none => .bad)
  | _, _ => .bad
def intsD (xs : List D) : Option (List Int) := optAll (xs.map fun d => match d with
  | .int i => some i
  | _ => none)
def bSum : List D → HC → Res D
  | [.ref n], h => (match asSeq h n with
    | some xs => (match intsD xs with
      | some ns => .ok (.int ns.sum) h
      | none => .bad)
    | none => .bad)
  | _, _ => .bad
def maxI : List Int → Int
  | [] => 0
  | [x] => x
  | x :: xs => max x (maxI xs)
def minI : List Int → Int
  | [] => 0
  | [x] => x
  | x :: xs => min x (minI xs)
def bMax : List D → HC → Res D
  | [.int a, .int b], h => .ok (.int (if b > a then b else a)) h
  | [.ref n], h => (match asSeq h n with
    | some xs => (match intsD xs with
      | some (x :: ns) => .ok (.int (maxI (x :: ns))) h
      | _ => .bad)
    | none => .bad)
  | _, _ => .bad
def bMin : List D → HC → Res D
  | [.int a, .int b], h => .ok (.int (if b < a then b else a)) h
  | [.ref n], h => (match asSeq h n with
    | some xs => (match intsD xs with
      | some (x :: ns) => .ok (.int (minI (x :: ns))) h
      | _ => .bad)
    | none => .bad)
  | _, _ => .bad
section
variable {K : PySem.W.Frag} {m : Mp} {h : HC} {H : Hp}
theorem intsD_ok : ∀ {xs : List D} {vs : List V} {ns : List Int}, RelDs m H xs vs → intsD xs = some ns → vs = ns.map V.int
  | [], vs, ns, r, e => by
    simp only [RelDs] at r
    simp [intsD, optAll] at e
    subst e r
    rfl
  | d :: ds, vs, ns, r, e => by
    simp only [RelDs] at r
    obtain ⟨v, ws, rfl, h1, h2⟩ := r
    unfold intsD at e
    rw [List.map_cons] at e
    cases d with
    | int i =>
      simp only [RelD] at h1
      subst h1
      cases q2 : optAll (ds.map fun d => match d with | .int i => some i | _ => none) with
      | none => simp [optAll, q2] at e
      | some us =>
        simp [optAll, q2] at e
        subst e
        rw [List.map_cons, intsD_ok h2 q2]
    | _ => simp [optAll] at e
theorem cs_list : ClS K (fun xs H Q => ∃ p ys, xs = [.ref p] ∧ (SqL K H p ys ∨ SqT K H p ys) ∧ ∀ l, H l = none → Q (.ref l) (upd H l (.lst ys))) bList := by
  intro W σ m h H ds vs Q S r p
  unfold bList at p
  split at p
  · obtain ⟨v, rfl, rv⟩ := r.one
    simp only [RelD] at rv
    obtain ⟨a, us, rfl, ha, hr⟩ := rv
    exact newL_ok S hr p fun _ k => ⟨a, us, rfl, .inr (SqT.of ha), k⟩
  · split at p
    · rename_i xs hx
      obtain ⟨v, rfl, rv⟩ := r.one
      obtain ⟨a, us, rfl, _, hs, hr⟩ := S.seq rv hx
      exact newL_ok S hr p fun _ k => ⟨a, us, rfl, .inl hs, k⟩
    · exact p.elim
  · exact p.elim
theorem cs_tuple : ClS K (fun xs H Q => ∃ p ys, xs = [.ref p] ∧ ((SqL K H p ys ∧ ∀ l, H l = none → Q (.ref l) (upd H l (.tup ys))) ∨ (SqT K H p ys ∧ Q (.ref p) H))) bTuple := by
  intro W σ m h H ds vs Q S r p
  unfold bTuple at p
  split at p
  · obtain ⟨v, rfl, rv⟩ := r.one
    simp only [RelD] at rv
    obtain ⟨a, us, rfl, ha, hr⟩ := rv
    exact mkT_ok S hr p fun _ _ k => ⟨a, us, rfl, .inr ⟨SqT.of ha, k a ha⟩⟩
  · split at p
    · rename_i xs hx
      obtain ⟨v, rfl, rv⟩ := r.one
      obtain ⟨a, us, rfl, _, hs, hr⟩ := S.seq rv hx
      exact mkT_ok S hr p fun _ k _ => ⟨a, us, rfl, .inl ⟨hs, k⟩⟩
    · exact p.elim
  · exact p.elim
theorem cs_sum : ClS K (rSum K) bSum := by
  intro W σ m h H ds vs Q S r p
  unfold bSum at p
  split at p
  · split at p
    · rename_i xs hx
      split at p
      · rename_i ns hn
        obtain ⟨v, rfl, rv⟩ := r.one
        obtain ⟨a, us, rfl, _, hs, hr⟩ := S.seq rv hx
        have e := intsD_ok hr hn
        subst e
        exact ⟨a, ns, rfl, hs, p _ _ _ Ext.refl S (by simp [RelD])⟩
      · exact p.elim
    · exact p.elim
  · exact p.elim
theorem maxI_is : ∀ (x : Int) (ns : List Int), maxI (x :: ns) ∈ x :: ns ∧ ∀ y ∈ x :: ns, y ≤ maxI (x :: ns)
  | x, [] => by simp [maxI]
  | x, z :: ns => by
    obtain ⟨h1, h2⟩ := maxI_is z ns
    have e : maxI (x :: z :: ns) = max x (maxI (z :: ns)) := rfl
    rw [e]
    refine ⟨?_, fun y hy => ?_⟩
    · by_cases hc : x ≤ maxI (z :: ns)
      · rw [Int.max_eq_right hc]
        exact List.mem_cons_of_mem _ h1
      · rw [Int.max_eq_left (by omega)]
        exact List.mem_cons_self
    · rcases List.mem_cons.mp hy with rfl | hy
      · omega
      · have := h2 y hy
        omega
theorem minI_is : ∀ (x : Int) (ns : List Int), minI (x :: ns) ∈ x :: ns ∧ ∀ y ∈ x :: ns, minI (x :: ns) ≤ y
  | x, [] => by simp [minI]
  | x, z :: ns => by
    obtain ⟨h1, h2⟩ := minI_is z ns
    have e : minI (x :: z :: ns) = min x (minI (z :: ns)) := rfl
    rw [e]
    refine ⟨?_, fun y hy => ?_⟩
    · by_cases hc : x ≤ minI (z :: ns)
      · rw [Int.min_eq_left hc]
        exact List.mem_cons_self
      · rw [Int.min_eq_right (by omega)]
        exact List.mem_cons_of_mem _ h1
    · rcases List.mem_cons.mp hy with rfl | hy
      · omega
      · have := h2 y hy
        omega
def rMaxAll (K : PySem.W.Frag) : List V → Hp → VK → Prop := fun xs H Q => (∃ i j, xs = [.int i, .int j] ∧ Q (.int (if j > i then j else i)) H) ∨ rMax K xs H Q
def rMinAll (K : PySem.W.Frag) : List V → Hp → VK → Prop := fun xs H Q => (∃ i j, xs = [.int i, .int j] ∧ Q (.int (if j < i then j else i)) H) ∨ rMin K xs H Q
theorem call_maxAll {X : Cx} (hc : X.calm = true) : CallR X (.builtin "max") (rMaxAll X.K) := CallR.or (call_max2 hc) (cr_max hc)
theorem call_minAll {X : Cx} (hc : X.calm = true) : CallR X (.builtin "min") (rMinAll X.K) := CallR.or (call_min2 hc) (cr_min hc)
theorem cs_max : ClS K (rMaxAll K) bMax := by
  intro W σ m h H ds vs Q S r p
  unfold bMax at p
  split at p
  · obtain ⟨v, w, rfl, r1, r2⟩ := r.two
    simp only [RelD] at r1 r2
    subst r1 r2
    exact .inl ⟨_, _, rfl, p _ _ _ Ext.refl S (by simp [RelD])⟩
  · split at p
    · rename_i xs hx
      split at p
      · rename_i x ns hn
        obtain ⟨v, rfl, rv⟩ := r.one
        obtain ⟨a, us, rfl, _, hs, hr⟩ := S.seq rv hx
        have e := intsD_ok hr hn
        subst e
        obtain ⟨e1, e2⟩ := maxI_is x ns
        refine .inr ⟨a, x :: ns, rfl, hs, by simp, fun z h1 h2 => ?_⟩
        have ez : z = maxI (x :: ns) := Int.le_antisymm (e2 z h1) (h2 _ e1)
        rw [ez]
        exact p _ _ _ Ext.refl S (by simp [RelD])
      · exact p.elim
    · exact p.elim
  · exact p.elim
theorem cs_min : ClS K (rMinAll K) bMin := by
  intro W σ m h H ds vs Q S r p
  unfold bMin at p
  split at p
  · obtain ⟨v, w, rfl, r1, r2⟩ := r.two
    simp only [RelD] at r1 r2
    subst r1 r2
    exact .inl ⟨_, _, rfl, p _ _ _ Ext.refl S (by simp [RelD])⟩
  · split at p
    · rename_i xs hx
      split at p
      · rename_i x ns hn
        obtain ⟨v, rfl, rv⟩ := r.one
        obtain ⟨a, us, rfl, _, hs, hr⟩ := S.seq rv hx
        have e := intsD_ok hr hn
        subst e
        obtain ⟨e1, e2⟩ := minI_is x ns
        refine .inr ⟨a, x :: ns, rfl, hs, by simp, fun z h1 h2 => ?_⟩
        have ez : z = minI (x :: ns) := Int.le_antisymm (h2 _ e1) (e2 z h1)
        rw [ez]
        exact p _ _ _ Ext.refl S (by simp [RelD])
      · exact p.elim
    · exact p.elim
  · exact p.elim
end

/-! ### sorting -/
section
variable {α β : Type} {lt : α → α → Bool}
def insO (lt : α → α → Bool) (y : α) : List α → List α
  | [] => [y]
  | x :: l => if lt y x = true then y :: x :: l else x :: insO lt y l
def sortO (lt : α → α → Bool) (xs : List α) : List α := xs.foldl (fun acc y => insO lt y acc) []
theorem insO_split (O : SrtO.Swo lt) (y : α) : ∀ l : List α, SrtO.Srtd lt l → ∃ M N, l = M ++ N ∧ insO lt y l = M ++ y :: N ∧ (∀ x ∈ M, lt y x = false) ∧ ∀ x ∈ N, lt y x = true
  | [], _ => ⟨[], [], rfl, rfl, by simp, by simp⟩
  | x :: l, h => by
    unfold insO
    rcases SrtO.bcase (lt y x) with q | q
    · rw [if_pos q]
      exact ⟨[], x :: l, rfl, rfl, by simp, O.lt_all h q⟩
    · rw [if_neg (by rw [q]; decide)]
      obtain ⟨M, N, e1, e2, h1, h2⟩ := insO_split O y l (List.pairwise_cons.mp h).2
      refine ⟨x :: M, N, by rw [e1]; rfl, by rw [e2]; rfl, fun z hz => ?_, h2⟩
      rcases List.mem_cons.mp hz with rfl | hz
      · exact q
      · exact h1 z hz
theorem sortO_fold (O : SrtO.Swo lt) : ∀ (xs acc pre : List α), SrtO.Srtd lt acc → SrtO.Stb lt acc pre → SrtO.Srtd lt (xs.foldl (fun acc y => insO lt y acc) acc) ∧ SrtO.Stb lt (xs.foldl (fun acc y => insO lt y acc) acc) (pre ++ xs)
  | [], acc, pre, h1, h2 => ⟨h1, by simpa using h2⟩
  | y :: xs, acc, pre, h1, h2 => by
    obtain ⟨M, N, e1, e2, h3, h4⟩ := insO_split O y acc h1
    subst e1
    have s1 := SrtO.ins_srtd O h1 h3 h4
    have s2 := SrtO.ins_stb O h4 h2
    rw [← e2] at s1 s2
    have := sortO_fold O xs (insO lt y (M ++ N)) (pre ++ [y]) s1 s2
    simpa using this
theorem sortO_ok (O : SrtO.Swo lt) (xs : List α) : SrtO.Srtd lt (sortO lt xs) ∧ SrtO.Stb lt (sortO lt xs) xs := by
  have := sortO_fold O xs [] [] List.Pairwise.nil (SrtO.Stb.refl [])
  simpa [sortO] using this
theorem sortO_uniq (O : SrtO.Swo lt) {xs ys : List α} (h1 : SrtO.Srtd lt ys) (h2 : SrtO.Stb lt ys xs) : ys = sortO lt xs := by
  obtain ⟨s1, s2⟩ := sortO_ok O xs
  refine SrtO.stb_uniq O h1 s1 (h2.trans ⟨s2.perm.symm, fun x => (s2.cls x).symm⟩)
end
section
variable {m : Mp} {H : Hp}
theorem insO_rel {ltd : D → D → Bool} {ltv : V → V → Bool} {P : D → Prop} (hl : ∀ d e v w, P d → P e → RelD m H d v → RelD m H e w → ltd d e = ltv v w) {d : D} {v : V} (hd : P d) (rd : RelD m H d v) : ∀ {ds : List D} {vs : List V}, (∀ x ∈ ds, P x) → RelDs m H ds vs → RelDs m H (insO ltd d ds) (insO ltv v vs)
  | [], vs, hp, r => by
    simp only [RelDs] at r
    subst r
    exact RelDs.cons rd RelDs.nil
  | e :: ds, vs, hp, r => by
    simp only [RelDs] at r
    obtain ⟨w, ws, rfl, h1, h2⟩ := r
    unfold insO
    rw [hl d e v w hd (hp e List.mem_cons_self) rd h1]
    by_cases hc : ltv v w = true
    · rw [if_pos hc, if_pos hc]
      exact RelDs.cons rd (RelDs.cons h1 h2)
    · rw [if_neg hc, if_neg hc]
      exact RelDs.cons h1 (insO_rel hl hd rd (fun x hx => hp x (List.mem_cons_of_mem _ hx)) h2)
theorem insO_all {ltd : D → D → Bool} {P : D → Prop} {d : D} (hd : P d) : ∀ {ds : List D}, (∀ x ∈ ds, P x) → ∀ x ∈ insO ltd d ds, P x
  | [], hp, x, hx => by
    have : x = d := by simpa [insO] using hx
    rw [this]
    exact hd
  | e :: ds, hp, x, hx => by
    unfold insO at hx
    split at hx
    · rcases List.mem_cons.mp hx with rfl | hx
      · exact hd
      · exact hp x hx
    · rcases List.mem_cons.mp hx with rfl | hx
      · exact hp _ List.mem_cons_self
      · exact insO_all hd (fun x hx => hp x (List.mem_cons_of_mem _ hx)) x hx
theorem sortO_rel {ltd : D → D → Bool} {ltv : V → V → Bool} {P : D → Prop} (hl : ∀ d e v w, P d → P e → RelD m H d v → RelD m H e w → ltd d e = ltv v w) : ∀ {ds : List D} {vs : List V}, (∀ x ∈ ds, P x) → RelDs m H ds vs → RelDs m H (sortO ltd ds) (sortO ltv vs) := by
  have key : ∀ (ds : List D) (vs : List V) (as : List D) (us : List V), (∀ x ∈ ds, P x) → (∀ x ∈ as, P x) → RelDs m H ds vs → RelDs m H as us → RelDs m H (ds.foldl (fun acc y => insO ltd y acc) as) (vs.foldl (fun acc y => insO ltv y acc) us) := by
    intro ds
    induction ds with
    | nil => intro vs as us _ _ r q; simp only [RelDs] at r; subst r; exact q
    | cons d ds ih =>
      intro vs as us hp ha r q
      simp only [RelDs] at r
      obtain ⟨w, ws, rfl, h1, h2⟩ := r
      exact ih ws _ _ (fun x hx => hp x (List.mem_cons_of_mem _ hx)) (insO_all (hp d List.mem_cons_self) ha) h2 (insO_rel hl (hp d List.mem_cons_self) h1 ha q)
  intro ds vs hp r
  exact key ds vs [] [] hp (by simp) r RelDs.nil
end
def keyP : D → Option (Int × Int)
  | .tup [.int a, .int b] => some (a, b)
  | _ => none
def ltPD (d e : D) : Bool := match keyP d, keyP e with
  | some p, some q => SrtO.lexB p q
  | _, _ => false
def bSorted : List D → HC → Res D
  | [.ref n], h => (match asSeq h n with
    | some xs => (match intsD xs with
      | some ns => newL ((sortO (fun a b => decide (a < b)) ns).map D.int) h
      | none => if xs.all (fun d => (keyP d).isSome) = true then newL (sortO ltPD xs) h else .bad)
    | none => .bad)
  | _, _ => .bad
def rSortedAll (K : PySem.W.Frag) : List V → Hp → VK → Prop := fun vs H Q => rSortedI K vs H Q ∨ rSortedPO K vs H Q
theorem call_sortedAll {X : Cx} : CallR X (.builtin "sorted") (rSortedAll X.K) := CallR.or cr_sortedI cr_sortedPO
def kOf (H : Hp) : V → Int × Int
  | .ref t => (match H t with
    | some (.tup [.int i, .int j]) => (i, j)
    | _ => (0, 0))
  | _ => (0, 0)
theorem keyP_ok {m : Mp} {H : Hp} {d : D} {v : V} {p : Int × Int} (r : RelD m H d v) (e : keyP d = some p) : ∃ t, v = .ref t ∧ H t = some (.tup [.int (kOf H v).1, .int (kOf H v).2]) ∧ kOf H v = p := by
  unfold keyP at e
  split at e
  · cases e
    simp only [RelD] at r
    obtain ⟨t, us, rfl, ht, hr⟩ := r
    obtain ⟨u, w, rfl, r1, r2⟩ := hr.two
    simp only [RelD] at r1 r2
    subst r1 r2
    have e2 : ∀ x y : Int, H t = some (.tup [.int x, .int y]) → kOf H (.ref t) = (x, y) := fun x y hxy => by
      unfold kOf
      simp only [hxy]
    rw [e2 _ _ ht]
    exact ⟨t, rfl, ht, rfl⟩
  · cases e
theorem swo_lt : SrtO.Swo (fun a b : Int => decide (a < b)) := ⟨fun x y h => by simp at h ⊢; omega, fun x y z h1 h2 => by simp at h1 h2 ⊢; omega⟩
theorem newL_sorted {K : PySem.W.Frag} : ClS K (rSortedAll K) bSorted := by
  intro W σ m h H ds vs Q S r p
  unfold bSorted at p
  split at p
  · split at p
    · rename_i xs hx
      obtain ⟨v, rfl, rv⟩ := r.one
      obtain ⟨a, us, rfl, _, hs, hr⟩ := S.seq rv hx
      split at p
      · rename_i ns hn
        have e := intsD_ok hr hn
        subst e
        refine newL_ok S (RelDs.ints (m := m) (H := H)) p fun _ k => .inl ⟨a, ns, rfl, hs, fun ns' q hp hw hq => ?_⟩
        obtain ⟨s1, s2⟩ := sortO_ok swo_lt ns
        have es : ns' = sortO (fun a b => decide (a < b)) ns := PySem.W.ksm_same (hp.trans s2.perm.symm) hw (s1.imp fun {x y} hxy => by simpa using hxy)
        rw [es]
        exact k q hq
      · split at p
        · rename_i hall
          have hk : ∀ d ∈ xs, ∃ q, keyP d = some q := fun d hd => by
            have := List.all_eq_true.mp hall d hd
            exact Option.isSome_iff_exists.mp this
          have hl : ∀ d e v w, (∃ q, keyP d = some q) → (∃ q, keyP e = some q) → RelD m H d v → RelD m H e w → ltPD d e = ltP (kOf H) v w := fun d e v w ⟨q1, h1⟩ ⟨q2, h2⟩ rd re => by
            obtain ⟨_, _, _, k1⟩ := keyP_ok rd h1
            obtain ⟨_, _, _, k2⟩ := keyP_ok re h2
            unfold ltPD
            rw [h1, h2]
            show SrtO.lexB q1 q2 = SrtO.lexB (kOf H v) (kOf H w)
            rw [k1, k2]
          refine newL_ok S (sortO_rel hl hk hr) p fun _ k => .inr ⟨a, us, kOf H, rfl, hs, fun x hx => ?_, fun ys q h1 h2 hq => ?_⟩
          · obtain ⟨i, hi⟩ := List.mem_iff_getElem?.mp hx
            obtain ⟨d, hd, rd⟩ := hr.get2 hi
            obtain ⟨z, hz⟩ := hk d (List.mem_of_getElem? hd)
            obtain ⟨t, e1, e2, _⟩ := keyP_ok rd hz
            exact ⟨t, e1, e2⟩
          · rw [sortO_uniq (ltP_swo (kOf H)) h1 h2]
            exact k q hq
        · exact p.elim
    · exact p.elim
  · exact p.elim
end G9

set_option Elab.async false
set_option linter.all false
set_option maxRecDepth 100000
set_option maxHeartbeats 2000000
namespace G9
open PySem PySem.Spec PyProof.Rows L2

/-! ### methods of built-in things -/
def hasTy (T : String) (h : HC) : D → Bool
  | .str _ => decide (T = "str")
  | .ref n => (match h[n]? with
    | some (.lst _) => decide (T = "list")
    | some (.dk _) => decide (T = "dict")
    | some (.dt _) => decide (T = "dict")
    | _ => false)
  | _ => false
theorem hasTy_ok {K : PySem.W.Frag} {m : Mp} {h : HC} {H : Hp} {d : D} {v : V} {T : String} (S : Sm K m h H) (r : RelD m H d v) (e : hasTy T h d = true) : tyV K T v H := by
  unfold hasTy at e
  split at e
  · simp only [RelD] at r
    subst r
    show T = "str"
    exact of_decide_eq_true e
  · simp only [RelD] at r
    obtain ⟨a, ha, rfl⟩ := r
    split at e
    · rename_i xs hx
      obtain ⟨vs, hv, _⟩ := S.cell _ _ a hx ha
      exact .inl ⟨of_decide_eq_true e, vs, SqL.of hv⟩
    · rename_i xs hx
      obtain ⟨vs, hv, _⟩ := S.cell _ _ a hx ha
      exact .inr (.inr (.inl ⟨of_decide_eq_true e, .inl ⟨vs, hv⟩⟩))
    · rename_i xs hx
      obtain ⟨vs, hv, _⟩ := S.cell _ _ a hx ha
      exact .inr (.inr (.inl ⟨of_decide_eq_true e, .inr ⟨vs, hv⟩⟩))
    · cases e
  · cases e
def MtS (K : PySem.W.Frag) (r : V → List V → Hp → VK → Prop) (f : D → List D → HC → Res D) : Prop :=
  ∀ (W : WX) (σ : L2.St) (m : Mp) (h : HC) (H : Hp) (d : D) (ds : List D) (v : V) (vs : List V) (Q : VK), Sm K m h H → RelD m H d v → RelDs m H ds vs → post RelD K W σ m H Q (f d ds h) → r v vs H Q
def fMt (T : String) (f : D → List D → HC → Res D) (o : EE) (as : EA) : EE := fun s h => (o s h).bind fun x h1 => if hasTy T h1 x = true then (as s h1).bind fun xs h2 => f x xs h2 else .bad
def fMt0 (T : String) (f : D → List D → HC → Res D) (o : EE) : EE := fun s h => (o s h).bind fun x h1 => if hasTy T h1 x = true then f x [] h1 else .bad
section
variable {X : Cx} {W : WX} {o e : Expr} {es : List Expr} {fo : EE} {as : EA} {name : Str} {apos cpos : Pos} {T id : String} {r : V → List V → Hp → VK → Prop} {f : D → List D → HC → Res D}
theorem se_mt (pa : PlainAttrs T) (slot : Slot T name id) (hty : typeOf (.builtin id) = pure (.type "method_descriptor")) (hm : MtR X id r) (hs' : MtS X.K r f) (ho : PE X o (rE X.K W fo)) (ha : PA X (e :: es) (rA X.K W as))
    (hbase : attributeBase o name X.env (eval o X.env) = eval o X.env := by rfl)
    (hfew : ((backTo cpos (starEach (e :: es) X.env)).all (fun x => !x.1) && (backToKw cpos (keywordEach [] X.env)).all (fun x => x.1.isSome)
      && decide ((e :: es).length + ([] : List Keyword).length + (if ([] : List Keyword).isEmpty then 0 else 1) < 30)) = true := by rfl)
    (hline : (apos.endLine == cpos.line) = true := by rfl) (hs : starEach (e :: es) X.env = (false, eval e X.env) :: starEach es X.env := by rfl) (hplain : (backTo cpos (starEach es X.env)).any (·.1) = false := by rfl) :
    PE X (.Call (.Attribute o name apos) (e :: es) [] cpos) (rE X.K W (fMt T f fo as)) :=
  PEw (pe_bm pa slot hty hm ho ha hbase hfew hline hs hplain) fun σ H Q q => by
    refine rd_mono (rd_bind (R := RelD) (f := fo) (g := fun x s h1 => if hasTy T h1 x = true then (as s h1).bind fun xs h2 => f x xs h2 else .bad) q) fun x H1 ⟨m1, s, h1, d1, S1, r1, q1, p1⟩ => ?_
    split at p1
    · rename_i ht
      refine ⟨hasTy_ok S1 q1 ht, m1, s, h1, S1, r1, ?_⟩
      cases e2 : as s h1 with
      | ok ds h2 =>
        rw [e2] at p1
        exact fun m2 H2 us E2 S2 q2 => hs' W σ m2 h2 H2 d1 ds x us Q S2 (q1.mono S1 E2) q2 (post_ext p1 E2)
      | exc c h2 => rw [e2] at p1; exact p1
      | bad => rw [e2] at p1; exact p1
    · exact p1.elim
theorem se_mt0 (pa : PlainAttrs T) (slot : Slot T name id) (hty : typeOf (.builtin id) = pure (.type "method_descriptor")) (hm : MtR X id r) (hs' : MtS X.K r f) (ho : PE X o (rE X.K W fo))
    (hbase : attributeBase o name X.env (eval o X.env) = eval o X.env := by rfl) (hline : (apos.endLine == cpos.line) = true := by rfl) : PE X (.Call (.Attribute o name apos) [] [] cpos) (rE X.K W (fMt0 T f fo)) :=
  PEw (pe_bm0 pa slot hty hm ho hbase hline) fun σ H Q q => by
    refine rd_mono (rd_bind (R := RelD) (f := fo) (g := fun x s h1 => if hasTy T h1 x = true then f x [] h1 else .bad) q) fun x H1 ⟨m1, s, h1, d1, S1, r1, q1, p1⟩ => ?_
    split at p1
    · rename_i ht
      exact ⟨hasTy_ok S1 q1 ht, hs' W σ m1 h1 H1 d1 [] x [] Q S1 q1 RelDs.nil p1⟩
    · exact p1.elim
end
/-- a list is written anew -/
theorem Sm.setL {K : PySem.W.Frag} {m : Mp} {h : HC} {H : Hp} (S : Sm K m h H) {n : Nat} {a : Addr} {vs us : List V} {ys : List D} (ha : m.ad[n]? = some a) (hv : H a = some (.lst vs)) (r : RelDs m H ys us) :
    Sm K m (h.set n (.lst ys)) (upd H a (.lst us)) ∧ Ext m m H (upd H a (.lst us)) := by
  have ht : ∀ q ws, H q = some (.tup ws) → upd H a (.lst us) q = some (.tup ws) := fun q ws e => by
    rw [upd_ne (fun z => by rw [z, hv] at e; cases e)]
    exact e
  exact S.setC ha ⟨us, upd_same, RelDs.mono_ (fun _ _ z => z) ⟨rfl, rfl⟩ ht _ _ r⟩
def setCell (h : HC) (n : Nat) (c : Cell) : HC := h.set n c
def mAppend : D → List D → HC → Res D
  | .ref n, [y], h => (match h[n]? with
    | some (.lst xs) => if xs.length < BIG then .ok .non (h.set n (.lst (xs ++ [y]))) else .bad
    | _ => .bad)
  | _, _, _ => .bad
def mExtend : D → List D → HC → Res D
  | .ref n, [.ref k], h => (match h[n]?, h[k]? with
    | some (.lst xs), some (.lst ys) => if xs.length + ys.length ≤ BIG then .ok .non (h.set n (.lst (xs ++ ys))) else .bad
    | _, _ => .bad)
  | _, _, _ => .bad
def mPop : D → List D → HC → Res D
  | .ref n, [], h => (match h[n]? with
    | some (.lst xs) => (match xs[xs.length - 1]? with
      | some y => .ok y (h.set n (.lst xs.dropLast))
      | none => .bad)
    | _ => .bad)
  | .ref n, [.int i], h => (match h[n]? with
    | some (.lst xs) => if -(2 ^ 63) ≤ i ∧ i < 2 ^ 63 then (match seqIndex? i xs.length with
      | some k => (match xs[k]? with
        | some y => .ok y (h.set n (.lst (xs.eraseIdx k)))
        | none => .bad)
      | none => .bad) else .bad
    | _ => .bad)
  | _, _, _ => .bad
def mClear : D → List D → HC → Res D
  | .ref n, [], h => (match h[n]? with
    | some (.lst _) => .ok .non (h.set n (.lst []))
    | _ => .bad)
  | _, _, _ => .bad
section
variable {K : PySem.W.Frag}
theorem ms_append : MtS K rAppend mAppend := by
  intro W σ m h H d ds v vs Q S rd r p
  unfold mAppend at p
  split at p
  · split at p
    · rename_i xs hx
      split at p
      · rename_i hl
        obtain ⟨a, us, rfl, ha, hv, hr⟩ := S.lst rd hx
        obtain ⟨y, rfl, ry⟩ := r.one
        obtain ⟨S1, E1⟩ := S.setL ha hv (hr.append (RelDs.cons ry RelDs.nil))
        exact ⟨a, us, y, rfl, rfl, hv, by rw [← hr.len]; exact Nat.lt_of_lt_of_le hl big_le, p _ _ _ E1 S1 (by simp [RelD])⟩
      · exact p.elim
    · exact p.elim
  · exact p.elim
theorem ms_extend : MtS K rExtend mExtend := by
  intro W σ m h H d ds v vs Q S rd r p
  unfold mExtend at p
  split at p
  · split at p
    · rename_i xs ys hx hy
      split at p
      · rename_i hl
        obtain ⟨a, us, rfl, ha, hv, hr⟩ := S.lst rd hx
        obtain ⟨y, rfl, ry⟩ := r.one
        obtain ⟨b, ws, rfl, hb, hw, hrb⟩ := S.lst ry hy
        obtain ⟨S1, E1⟩ := S.setL ha hv (hr.append hrb)
        exact ⟨a, b, us, ws, rfl, rfl, hv, hw, by rw [← hr.len, ← hrb.len]; exact Nat.le_trans hl big_le, p _ _ _ E1 S1 (by simp [RelD])⟩
      · exact p.elim
    · exact p.elim
  · exact p.elim
theorem RelDs.dropLast {m : Mp} {H : Hp} {ds : List D} {vs : List V} (r : RelDs m H ds vs) : RelDs m H ds.dropLast vs.dropLast := by
  rw [List.dropLast_eq_take, List.dropLast_eq_take, ← r.len]
  exact r.take _
def rPopAll : V → List V → Hp → VK → Prop := fun x vs H Q => rPop x vs H Q ∨ rPopAt x vs H Q
theorem mt_popAll {X : Cx} : MtR X "list.pop" rPopAll := MtR.or mt_pop mt_popAt
theorem ms_pop : MtS K rPopAll mPop := by
  intro W σ m h H d ds v vs Q S rd r p
  unfold mPop at p
  split at p
  · split at p
    · rename_i xs hx
      split at p
      · rename_i y hy
        obtain ⟨a, us, rfl, ha, hv, hr⟩ := S.lst rd hx
        simp only [RelDs] at r
        subst r
        obtain ⟨w, hw, rw'⟩ := hr.get hy
        obtain ⟨S1, E1⟩ := S.setL ha hv hr.dropLast
        exact .inl ⟨a, us, w, rfl, rfl, hv, by rw [← hr.len]; exact hw, p _ _ _ E1 S1 (rw'.mono S E1)⟩
      · exact p.elim
    · exact p.elim
  · split at p
    · rename_i xs hx
      split at p
      · rename_i hi
        split at p
        · rename_i k hk
          split at p
          · rename_i y hy
            obtain ⟨a, us, rfl, ha, hv, hr⟩ := S.lst rd hx
            obtain ⟨w, rfl, rw'⟩ := r.one
            simp only [RelD] at rw'
            subst rw'
            obtain ⟨z, hz, rz⟩ := hr.get hy
            obtain ⟨S1, E1⟩ := S.setL ha hv (hr.erase k)
            exact .inr ⟨a, us, _, k, z, rfl, rfl, hv, hi.1, hi.2, by rw [← hr.len]; exact hk, hz, p _ _ _ E1 S1 (rz.mono S E1)⟩
          · exact p.elim
        · exact p.elim
      · exact p.elim
    · exact p.elim
  · exact p.elim
theorem ms_clear : MtS K rClear mClear := by
  intro W σ m h H d ds v vs Q S rd r p
  unfold mClear at p
  split at p
  · split at p
    · rename_i xs hx
      obtain ⟨a, us, rfl, ha, hv, hr⟩ := S.lst rd hx
      simp only [RelDs] at r
      subst r
      obtain ⟨S1, E1⟩ := S.setL (us := []) ha hv RelDs.nil
      exact ⟨a, us, rfl, rfl, hv, p _ _ _ E1 S1 (by simp [RelD])⟩
    · exact p.elim
  · exact p.elim
/-- texts of a list -/
def strsD (xs : List D) : Option (List Str) := optAll (xs.map fun d => match d with
  | .str i => some i
  | _ => none)
theorem strsD_ok {m : Mp} {H : Hp} : ∀ {xs : List D} {vs : List V} {ns : List Str}, RelDs m H xs vs → strsD xs = some ns → vs = ns.map V.str
  | [], vs, ns, r, e => by
    simp only [RelDs] at r
    simp [strsD, optAll] at e
    subst e r
    rfl
  | d :: ds, vs, ns, r, e => by
    simp only [RelDs] at r
    obtain ⟨v, ws, rfl, h1, h2⟩ := r
    unfold strsD at e
    rw [List.map_cons] at e
    cases d with
    | str i =>
      simp only [RelD] at h1
      subst h1
      cases q2 : optAll (ds.map fun d => match d with | .str i => some i | _ => none) with
      | none => simp [optAll, q2] at e
      | some us =>
        simp [optAll, q2] at e
        subst e
        rw [List.map_cons, strsD_ok h2 q2]
    | _ => simp [optAll] at e
def joinOk (a : Str) (ys : List Str) : Bool := decide ((ys.map (·.length)).sum + ys.length * a.length ≤ BIG)
def mJoin : D → List D → HC → Res D
  | .str a, [.ref n], h => (match asSeq h n with
    | some xs => (match strsD xs with
      | some ys => if joinOk a ys = true then .ok (.str (Txt.join a ys)) h else .bad
      | none => .bad)
    | none => .bad)
  | .str a, [.tup xs], h => (match strsD xs with
      | some ys => if joinOk a ys = true then .ok (.str (Txt.join a ys)) h else .bad
      | none => .bad)
  | _, _, _ => .bad
theorem big24 : BIG ≤ 16777216 := by decide
theorem ms_join : MtS K (fun x xs H Q => ∃ a p, ∃ ys : List Str, x = .str a ∧ xs = [.ref p] ∧ (SqL K H p (ys.map V.str) ∨ SqT K H p (ys.map V.str)) ∧
    (ys.map (·.length)).sum + ys.length * a.length ≤ 16777216 ∧ Q (.str (Txt.join a ys)) H) mJoin := by
  intro W σ m h H d ds v vs Q S rd r p
  unfold mJoin at p
  split at p
  · split at p
    · rename_i xs hx
      split at p
      · rename_i ys hy
        split at p
        · rename_i hj
          obtain ⟨w, rfl, rw'⟩ := r.one
          obtain ⟨a, us, rfl, _, hs, hr⟩ := S.seq rw' hx
          simp only [RelD] at rd
          have e := strsD_ok hr hy
          subst e
          exact ⟨_, a, ys, rd, rfl, .inl hs, Nat.le_trans (of_decide_eq_true hj) big24, p _ _ _ Ext.refl S (by simp [RelD])⟩
        · exact p.elim
      · exact p.elim
    · exact p.elim
  · split at p
    · rename_i ys hy
      split at p
      · rename_i hj
        obtain ⟨w, rfl, rw'⟩ := r.one
        simp only [RelD] at rw' rd
        obtain ⟨a, us, rfl, ha, hr⟩ := rw'
        have e := strsD_ok hr hy
        subst e
        exact ⟨_, a, ys, rd, rfl, .inr (SqT.of ha), Nat.le_trans (of_decide_eq_true hj) big24, p _ _ _ Ext.refl S (by simp [RelD])⟩
      · exact p.elim
    · exact p.elim
  · exact p.elim
end

/-! ### dicts -/
def toKey : D → Option Key
  | .int i => some (.inl i)
  | .str s => some (.inr s)
  | _ => none
def valD {κ : Type} [DecidableEq κ] (kvs : List (κ × D)) (k : κ) : Option D := (kvs.find? fun kv => decide (kv.1 = k)).map (·.2)
def putD {κ : Type} [DecidableEq κ] (kvs : List (κ × D)) (k : κ) (v : D) : List (κ × D) :=
  if (kvs.any fun kv => decide (kv.1 = k)) = true then kvs.map fun kv => if kv.1 = k then (kv.1, v) else kv else kvs ++ [(k, v)]
def mergeD (kvs : List (Key × D)) : List (Key × D) := kvs.foldl (fun acc kv => putD acc kv.1 kv.2) []
section
variable {m : Mp} {H : Hp} {κ : Type} [DecidableEq κ]
theorem toKey_ok {d : D} {v : V} {k : Key} (e : toKey d = some k) (r : RelD m H d v) : v = kV k := by
  cases d <;> simp [toKey] at e <;> subst e <;> simp only [RelD] at r <;> exact r
theorem RelK.val : ∀ {kvs : List (κ × D)} {vs : List (κ × V)} {k : κ} {d : D}, RelK m H kvs vs → valD kvs k = some d → ∃ v, valV vs k = some v ∧ RelD m H d v
  | [], vs, k, d, r, e => by simp [valD] at e
  | q :: kvs, vs, k, d, r, e => by
    simp only [RelK] at r
    obtain ⟨v, ws, rfl, hk, h1, h2⟩ := r
    by_cases hc : q.1 = k
    · simp [valD, List.find?_cons, hc] at e
      subst e
      exact ⟨v.2, by rw [valV_pos (by rw [← hk]; exact hc)], h1⟩
    · have e2 : valD kvs k = some d := by simpa [valD, List.find?_cons, hc] using e
      obtain ⟨w, hw, hr⟩ := RelK.val h2 e2
      exact ⟨w, by rw [valV_neg (by rw [← hk]; exact hc)]; exact hw, hr⟩
theorem RelK.valN : ∀ {kvs : List (κ × D)} {vs : List (κ × V)} {k : κ}, RelK m H kvs vs → valD kvs k = none → valV vs k = none
  | [], vs, k, r, e => by simp only [RelK] at r; subst r; rfl
  | q :: kvs, vs, k, r, e => by
    simp only [RelK] at r
    obtain ⟨v, ws, rfl, hk, h1, h2⟩ := r
    by_cases hc : q.1 = k
    · simp [valD, List.find?_cons, hc] at e
    · have e2 : valD kvs k = none := by simpa [valD, List.find?_cons, hc] using e
      rw [valV_neg (by rw [← hk]; exact hc)]
      exact RelK.valN h2 e2
theorem RelK.any : ∀ {kvs : List (κ × D)} {vs : List (κ × V)} (k : κ), RelK m H kvs vs → (kvs.any fun kv => decide (kv.1 = k)) = vs.any fun kv => decide (kv.1 = k)
  | [], vs, k, r => by simp only [RelK] at r; subst r; rfl
  | q :: kvs, vs, k, r => by
    simp only [RelK] at r
    obtain ⟨v, ws, rfl, hk, h1, h2⟩ := r
    rw [List.any_cons, List.any_cons, hk, RelK.any k h2]
theorem RelK.repl {d : D} {v : V} (rd : RelD m H d v) : ∀ {kvs : List (κ × D)} {vs : List (κ × V)} (k : κ), RelK m H kvs vs → RelK m H (kvs.map fun kv => if kv.1 = k then (kv.1, d) else kv) (vs.map fun kv => if kv.1 = k then (kv.1, v) else kv)
  | [], vs, k, r => by simp only [RelK] at r; subst r; simp [RelK]
  | q :: kvs, vs, k, r => by
    simp only [RelK] at r
    obtain ⟨w, ws, rfl, hk, h1, h2⟩ := r
    rw [List.map_cons, List.map_cons]
    simp only [RelK]
    refine ⟨_, _, rfl, ?_, ?_, RelK.repl rd k h2⟩
    · by_cases hc : q.1 = k
      · rw [if_pos hc, if_pos (by rw [← hk]; exact hc)]
        exact hk
      · rw [if_neg hc, if_neg (by rw [← hk]; exact hc)]
        exact hk
    · by_cases hc : q.1 = k
      · rw [if_pos hc, if_pos (by rw [← hk]; exact hc)]
        exact rd
      · rw [if_neg hc, if_neg (by rw [← hk]; exact hc)]
        exact h1
theorem RelK.snoc {d : D} {v : V} (rd : RelD m H d v) : ∀ {kvs : List (κ × D)} {vs : List (κ × V)} (k : κ), RelK m H kvs vs → RelK m H (kvs ++ [(k, d)]) (vs ++ [(k, v)])
  | [], vs, k, r => by
    simp only [RelK] at r
    subst r
    simp only [List.nil_append, RelK]
    exact ⟨_, _, rfl, rfl, rd, rfl⟩
  | q :: kvs, vs, k, r => by
    simp only [RelK] at r
    obtain ⟨w, ws, rfl, hk, h1, h2⟩ := r
    simp only [List.cons_append, RelK]
    exact ⟨_, _, rfl, hk, h1, RelK.snoc rd k h2⟩
theorem RelK.put {d : D} {v : V} (rd : RelD m H d v) {kvs : List (κ × D)} {vs : List (κ × V)} (k : κ) (r : RelK m H kvs vs) : RelK m H (putD kvs k d) (putK vs k v) := by
  unfold putD putK
  rw [r.any k]
  split
  · exact r.repl rd k
  · exact r.snoc rd k
theorem RelK.len : ∀ {kvs : List (κ × D)} {vs : List (κ × V)}, RelK m H kvs vs → kvs.length = vs.length
  | [], vs, r => by simp only [RelK] at r; subst r; rfl
  | q :: kvs, vs, r => by
    simp only [RelK] at r
    obtain ⟨w, ws, rfl, hk, h1, h2⟩ := r
    simp [RelK.len h2]
end
def optKeys (xs : List D) : Option (List Key) := optAll (xs.map toKey)
theorem optKeys_ok {m : Mp} {H : Hp} : ∀ {xs : List D} {vs : List V} {ks : List Key}, RelDs m H xs vs → optKeys xs = some ks → vs = ks.map kV
  | [], vs, ns, r, e => by
    simp only [RelDs] at r
    simp [optKeys, optAll] at e
    subst e r
    rfl
  | d :: ds, vs, ns, r, e => by
    simp only [RelDs] at r
    obtain ⟨v, ws, rfl, h1, h2⟩ := r
    unfold optKeys at e
    rw [List.map_cons] at e
    cases q : toKey d with
    | none => simp [optAll, q] at e
    | some k =>
      cases q2 : optAll (ds.map toKey) with
      | none => simp [optAll, q, q2] at e
      | some us =>
        simp [optAll, q, q2] at e
        subst e
        rw [List.map_cons, optKeys_ok h2 q2, toKey_ok q h1]
/-- what a dict holds under a key -/
def dGet (h : HC) (x y : D) : Option (Option D) := match x with
  | .ref n => (match h[n]? with
    | some (.dk kvs) => (toKey y).map fun k => valD kvs k
    | some (.dt kvs) => (match y with
      | .tup ks => (optKeys ks).map fun k => valD kvs k
      | _ => none)
    | _ => none)
  | _ => none
theorem dGet_ok {K : PySem.W.Frag} {m : Mp} {h : HC} {H : Hp} {x y : D} {vx vy : V} {o : Option D} (S : Sm K m h H) (rx : RelD m H x vx) (ry : RelD m H y vy) (e : dGet h x y = some o) :
    ∃ a, vx = .ref a ∧ match o with
      | some d => ∃ v, DGet H a vy (some v) ∧ RelD m H d v
      | none => DGet H a vy none := by
  cases x with
  | ref n =>
    simp only [RelD] at rx
    obtain ⟨a, ha, rfl⟩ := rx
    refine ⟨a, rfl, ?_⟩
    simp only [dGet] at e
    split at e
    · rename_i kvs hk
      obtain ⟨vs, hv, hr⟩ := S.cell n _ a hk ha
      cases q : toKey y with
      | none => rw [q] at e; cases e
      | some k =>
        rw [q] at e
        simp at e
        have ey := toKey_ok q ry
        subst ey
        cases o with
        | some d =>
          obtain ⟨v, h1, h2⟩ := hr.val e
          exact ⟨v, by rw [← h1]; exact DGet.k hv, h2⟩
        | none =>
          have h1 := hr.valN e
          show DGet H a (kV k) none
          rw [← h1]
          exact DGet.k hv
    · rename_i kvs hk
      obtain ⟨vs, hv, hr⟩ := S.cell n _ a hk ha
      cases y with
      | tup ks =>
        simp only [RelD] at ry
        obtain ⟨b, us, rfl, hb, hrb⟩ := ry
        dsimp only at e
        cases q : optKeys ks with
        | none => rw [q] at e; cases e
        | some k =>
          rw [q] at e
          simp at e
          have eu := optKeys_ok hrb q
          subst eu
          cases o with
          | some d =>
            obtain ⟨v, h1, h2⟩ := hr.val e
            exact ⟨v, by rw [← h1]; exact DGet.t hv hb, h2⟩
          | none =>
            have h1 := hr.valN e
            show DGet H a (.ref b) none
            rw [← h1]
            exact DGet.t hv hb
      | _ => cases e
    · cases e
  | _ => simp [dGet] at e
def opDGet (x y : D) (h : HC) : Res D := match dGet h x y with
  | some (some d) => .ok d h
  | _ => .bad
def rDG : R2 := fun x y H Q => ∃ a v, x = .ref a ∧ DGet H a y (some v) ∧ Q v H
theorem os_dget {K : PySem.W.Frag} : OpS K rDG opDGet := by
  intro W σ m h H d1 d2 v1 v2 Q S r1 r2 p
  unfold opDGet at p
  split at p
  · rename_i d e
    obtain ⟨a, rfl, v, g, hr⟩ := dGet_ok S r1 r2 e
    exact ⟨a, v, rfl, g, p _ _ _ Ext.refl S hr⟩
  · exact p.elim
section
variable {X : Cx} {W : WX} {a b : Expr} {fa fb : EE} {pos : Pos}
theorem se_dget (hu : X.A.units + 1 < cLine) (ha : PE X a (rE X.K W fa)) (hb : PE X b (rE X.K W fb)) (hs : NoSl b := by intro _ _; rfl) : PE X (.Subscript a b pos) (rE X.K W (fOp opDGet fa fb)) :=
  PEw (pe_dget hu ha hb hs) (tOp_of (r := rDG) os_dget)
end
/-- displays -/
def RelPs (m : Mp) (H : Hp) : List (D × D) → List (V × V) → Prop
  | [], vs => vs = []
  | d :: ds, vs => ∃ v vs', vs = v :: vs' ∧ RelD m H d.1 v.1 ∧ RelD m H d.2 v.2 ∧ RelPs m H ds vs'
def fPairs : List (EE × EE) → SD → HC → Res (List (D × D))
  | [], _, h => .ok [] h
  | (k, v) :: r, s, h => (k s h).bind fun x h1 => (v s h1).bind fun y h2 => (fPairs r s h2).bind fun ps h3 => .ok ((x, y) :: ps) h3
def keysP (ps : List (D × D)) : Option (List (Key × D)) := optAll (ps.map fun p => (toKey p.1).map fun k => (k, p.2))
def fDisp (ps : List (EE × EE)) : EE := fun s h => (fPairs ps s h).bind fun qs h1 => match keysP qs with
  | some kvs => if kvs.length ≤ 15 then .ok (.ref h1.length) (h1 ++ [.dk (mergeD kvs)]) else .bad
  | none => .bad
def fDisp0 : EE := fun _ h => .ok (.ref h.length) (h ++ [.dk []])
def fDisp0T : EE := fun _ h => .ok (.ref h.length) (h ++ [.dt []])
section
variable {K : PySem.W.Frag} {W : WX}
theorem RelPs.mono {m m' : Mp} {h : HC} {H H' : Hp} (S : Sm K m h H) (E : Ext m m' H H') : ∀ {ds : List (D × D)} {vs : List (V × V)}, RelPs m H ds vs → RelPs m' H' ds vs
  | [], vs, r => r
  | d :: ds, vs, r => by
    simp only [RelPs] at r ⊢
    obtain ⟨v, ws, rfl, h1, h2, h3⟩ := r
    exact ⟨v, ws, rfl, h1.mono S E, h2.mono S E, RelPs.mono S E h3⟩
theorem tPairs_of : ∀ (l : List (EE × EE)) (σ : L2.St) (H : Hp) (Q : List (V × V) → Hp → Prop), rd RelPs K W (fPairs l) σ H Q → tPairs (l.map fun q => (rE K W q.1, rE K W q.2)) σ H Q
  | [], σ, H, Q, q => by
    obtain ⟨m, s, h, S, r, p⟩ := q
    exact p m H [] Ext.refl S rfl
  | (k, v) :: l, σ, H, Q, q => by
    refine rd_mono (rd_bind (R := RelD) (f := k) (g := fun x s h1 => (v s h1).bind fun y h2 => (fPairs l s h2).bind fun ps h3 => .ok ((x, y) :: ps) h3) q) fun x H1 ⟨m1, s, h1, d1, S1, r1, q1, p1⟩ => ?_
    refine ⟨m1, s, h1, S1, r1, ?_⟩
    show post RelD K W σ m1 H1 _ (v s h1)
    cases e : v s h1 with
    | ok d2 h2 =>
      rw [e] at p1
      intro m2 H2 y E2 S2 q2
      have p2 := post_ext p1 E2
      refine tPairs_of l σ H2 _ ⟨m2, s, h2, S2, r1.mono S1 E2, ?_⟩
      dsimp only [Res.bind] at p2
      cases e3 : fPairs l s h2 with
      | ok ps h3 =>
        rw [e3] at p2
        intro m3 H3 vs E3 S3 q3
        refine p2 m3 H3 _ E3 S3 ?_
        simp only [RelPs]
        exact ⟨_, _, rfl, (q1.mono S1 E2).mono S2 E3, q2.mono S2 E3, q3⟩
      | exc c h3 => rw [e3] at p2; exact p2
      | bad => rw [e3] at p2; exact p2
    | exc c h2 => rw [e] at p1; exact p1
    | bad => rw [e] at p1; exact p1
theorem keysP_ok {m : Mp} {H : Hp} : ∀ {ps : List (D × D)} {vs : List (V × V)} {kvs : List (Key × D)}, RelPs m H ps vs → keysP ps = some kvs → ∃ ws : List (Key × V), vs = ws.map (fun kv => (kV kv.1, kv.2)) ∧ RelK m H kvs ws
  | [], vs, kvs, r, e => by
    simp only [RelPs] at r
    simp [keysP, optAll] at e
    subst e r
    exact ⟨[], rfl, rfl⟩
  | p :: ps, vs, kvs, r, e => by
    simp only [RelPs] at r
    obtain ⟨v, ws, rfl, h1, h2, h3⟩ := r
    unfold keysP at e
    rw [List.map_cons] at e
    cases q : toKey p.1 with
    | none => simp [optAll, q] at e
    | some k =>
      cases q2 : optAll (ps.map fun p => (toKey p.1).map fun k => (k, p.2)) with
      | none => simp [optAll, q, q2] at e
      | some us =>
        simp [optAll, q, q2] at e
        subst e
        obtain ⟨zs, e1, e2⟩ := keysP_ok h3 q2
        refine ⟨(k, v.2) :: zs, by rw [List.map_cons, ← e1, ← toKey_ok q h1], ?_⟩
        simp only [RelK]
        exact ⟨_, _, rfl, rfl, h2, e2⟩
theorem RelK.merge {m : Mp} {H : Hp} : ∀ {kvs : List (Key × D)} {vs : List (Key × V)} {as : List (Key × D)} {us : List (Key × V)}, RelK m H kvs vs → RelK m H as us → RelK m H (kvs.foldl (fun acc kv => putD acc kv.1 kv.2) as) (mergeK us vs)
  | [], vs, as, us, r, q => by simp only [RelK] at r; subst r; exact q
  | p :: kvs, vs, as, us, r, q => by
    simp only [RelK] at r
    obtain ⟨w, ws, rfl, hk, h1, h2⟩ := r
    have := RelK.merge h2 (q.put h1 p.1)
    rw [hk] at this
    show RelK m H (kvs.foldl (fun acc kv => putD acc kv.1 kv.2) (putD as p.1 p.2)) _
    rw [hk]
    exact this
/-- a thing that is laid ahead, then filled, then is a cell -/
theorem fill_ok {m1 m2 : Mp} {h2 : HC} {H1 H2 : Hp} {p : Addr} {o o2 : HO} {c : Cell} (hp : H1 p = none) (hm : p ∉ m1.ad) (hn : ∀ us, o ≠ .tup us) (hn2 : ∀ o' u, o ≠ .frz o' u) (E : Ext m1 m2 (upd H1 p o) H2) (S2 : Sm K m2 h2 H2)
    (hc : (∀ q us, H2 q = some (.tup us) → upd H2 p o2 q = some (.tup us)) → CellAtD K m2 (upd H2 p o2) p c) :
    H2 p = some o ∧ Sm K (m2.snoc p) (h2 ++ [c]) (upd H2 p o2) ∧ Ext m1 (m2.snoc p) H1 (upd H2 p o2) := by
  obtain ⟨hm2, hp2⟩ := E.fr p o hm upd_same
  have ht : ∀ q us, H2 q = some (.tup us) → upd H2 p o2 q = some (.tup us) := fun q us e => by
    rw [upd_ne (fun z => by rw [z, hp2] at e; exact hn us (Option.some.inj e))]
    exact e
  have S3 : Sm K m2 h2 (upd H2 p o2) := ⟨S2.len, S2.nd, S2.scr.upd (fun o' u z => by rw [hp2] at z; exact hn2 o' u (Option.some.inj z)), fun i c' a h1 h3 => (S2.cell i c' a h1 h3).mono_ (fun _ _ z => z) ⟨rfl, rfl⟩ ht (upd_ne (fun z => hm2 (z ▸ List.mem_of_getElem? h3)))⟩
  refine ⟨hp2, S3.adopt hm2 (hc ht) (fun _ _ => trivial), ⟨fun n a z => ?_, E.sc, fun z o' hz ez => ?_⟩⟩
  · have := E.le n a z
    show (m2.ad ++ [p])[n]? = some a
    rw [List.getElem?_append_left (List.getElem?_eq_some_iff.mp this).1]
    exact this
  · have hzp : z ≠ p := ne_of_none ez hp
    have := E.fr z o' hz (by rw [upd_ne hzp]; exact ez)
    exact ⟨by simp [this.1, hzp, Mp.snoc], by rw [upd_ne hzp]; exact this.2⟩
end
section
variable {X : Cx} {W : WX} {pos : Pos} {keys : List (Option Expr)} {values : List Expr} {ps : List (EE × EE)}
theorem se_disp (h : PPs X pos keys values (ps.map fun q => (rE X.K W q.1, rE X.K W q.2))) (hall : keys.all (·.isSome) = true := by rfl) (hl : keys.length = values.length := by rfl) (h0 : keys ≠ [] := by exact List.cons_ne_nil _ _)
    (h15 : keys.length ≤ 15 := by decide) : PE X (.Dict keys values pos) (rE X.K W (fDisp ps)) := PEw (pe_disp h hall hl h0 h15) fun σ H Q q => by
  obtain ⟨m, s, hc, S, r, p⟩ := q
  intro P hP
  obtain ⟨S1, E1⟩ := S.newT (o := .dK []) hP
  refine tPairs_of ps σ _ _ ⟨m, s, hc, S1, r.mono S E1, ?_⟩
  unfold fDisp at p
  cases e : fPairs ps s hc with
  | ok qs h1 =>
    rw [e] at p
    intro m2 H2 us E2 S2 r2
    dsimp only [Res.bind] at p
    split at p
    · rename_i kvs hk
      split at p
      · rename_i hl
        obtain ⟨ws, e1, e2⟩ := keysP_ok r2 hk
        obtain ⟨f1, f2, f3⟩ := fill_ok (o2 := .dK (mergeK [] ws)) (c := .dk (mergeD kvs)) hP (S.freshOut hP) (fun us z => by cases z) (fun _ _ z => by cases z) E2 S2 fun ht => ⟨_, upd_same, RelK.mono_ (fun _ _ z => z) ⟨rfl, rfl⟩ ht _ _ (RelK.merge e2 rfl)⟩
        refine ⟨f1, ws, e1, by rw [← e2.len]; exact hl, p _ _ _ f3 f2 ?_⟩
        simp only [RelD]
        exact ⟨P, by rw [S2.len]; exact Mp.last, rfl⟩
      · exact p.elim
    · exact p.elim
  | exc c h1 => rw [e] at p; exact fun m2 H2 E2 S2 => p m2 H2 (E1.trans E2) S2
  | bad => rw [e] at p; exact p
theorem se_disp0 : PE X (.Dict [] [] pos) (rE X.K W fDisp0) := PEw pe_dnewK fun σ H Q q => by
  obtain ⟨m, s, hc, S, r, p⟩ := q
  intro P hP
  obtain ⟨S1, E1⟩ := S.newC (o := .dK []) (c := .dk []) hP ⟨_, upd_same, rfl⟩
  refine p _ _ _ E1 S1 ?_
  simp only [RelD]
  exact ⟨P, by rw [S.len]; exact Mp.last, rfl⟩
theorem se_disp0T : PE X (.Dict [] [] pos) (rE X.K W fDisp0T) := PEw pe_dnewT fun σ H Q q => by
  obtain ⟨m, s, hc, S, r, p⟩ := q
  intro P hP
  obtain ⟨S1, E1⟩ := S.newC (o := .dT []) (c := .dt []) hP ⟨_, upd_same, rfl⟩
  refine p _ _ _ E1 S1 ?_
  simp only [RelD]
  exact ⟨P, by rw [S.len]; exact Mp.last, rfl⟩
end
end G9

set_option Elab.async false
set_option linter.all false
set_option maxRecDepth 100000
set_option maxHeartbeats 2000000
/-! sets of texts, made of a tuple: how many unlike ones there are -/
namespace G9
open PySem PySem.Spec PyProof.Rows L2
def dnF (l : List Str) : List Str × Nat := l.foldl (fun p x => (p.1 ++ [x], if p.1.any (· == x) = true then p.2 else p.2 + 1)) ([], 0)
/-- how many unlike texts -/
def dn (l : List Str) : Nat := (dnF l).2
theorem dnF_snoc (l : List Str) (x : Str) : dnF (l ++ [x]) = ((dnF l).1 ++ [x], if (dnF l).1.any (· == x) = true then (dnF l).2 else (dnF l).2 + 1) := by
  unfold dnF
  rw [List.foldl_append]
  rfl
theorem dnF_fst (l : List Str) : (dnF l).1 = l := by
  have key : ∀ (r : List Str) (p : List Str × Nat), (r.foldl (fun p x => (p.1 ++ [x], if p.1.any (· == x) = true then p.2 else p.2 + 1)) p).1 = p.1 ++ r := by
    intro r
    induction r with
    | nil => intro p; simp
    | cons x r ih => intro p; rw [List.foldl_cons, ih]; simp
  simpa [dnF] using key l ([], 0)
theorem dn_snoc (l : List Str) (x : Str) : dn (l ++ [x]) = if l.any (· == x) = true then dn l else dn l + 1 := by
  unfold dn
  rw [dnF_snoc, dnF_fst]
theorem dn_le : ∀ n (l : List Str), l.length = n → dn l ≤ n
  | 0, l, h => by
    have : l = [] := List.length_eq_zero_iff.mp h
    subst this
    exact Nat.le_refl _
  | n + 1, l, h => by
    rcases List.eq_nil_or_concat l with rfl | ⟨r, x, hrx⟩
    · simp at h
    · rw [List.concat_eq_append] at hrx
      subst hrx
      have hr : r.length = n := by simpa using h
      have := dn_le n r hr
      rw [dn_snoc]
      split <;> omega
theorem take_snoc {l : List Str} {i : Nat} (h : i < l.length) : l.take (i + 1) = l.take i ++ [l.getD i Str.empty] := by
  rw [List.take_succ, List.getElem?_eq_getElem h]
  simp [List.getD, h]
section
variable {prog : Program} {w : World} {A : Around} {R : Result → Shared → Prop} {it : Addr} {fp wr : List Addr} {G : Array GenState → Array GenState → Prop} {n : Nat} {P : Nat → Value → Prop} {Tn : Nat → Shared → Prop}
theorem setLoop (Wk : WalksS prog w A.in1 it fp wr G n P Tn) (z : Addr) (hz : z ∉ fp) (xs : List Str) (hsz : xs.length = n) (hn1 : n ≤ 1000)
    (hval : ∀ i v, P i v → ∃ t, v = .str (xs.getD i Str.empty) t) :
    ∀ (k i : Nat) (s : Shared), n - i = k → i ≤ n → Tn i s → s.heap.SetOf (PySem.strKind prog w) z (fun y => (xs.take i).any (· == y)) (dn (xs.take i)) →
      (∀ s', Moved (z :: wr) G s s' → s'.heap.SetOf (PySem.strKind prog w) z (fun y => (xs.take n).any (· == y)) (dn (xs.take n)) → R (.ok (.ret .none)) s') →
      codeAny (model prog w) A (.builtin "set.update.loop" ⟨[.ref z, .ref it], []⟩) R s := by
  have hzw : z ∉ wr := fun q => hz (Wk.sub _ q)
  have up : ∀ b ∈ wr, b ∈ z :: wr := fun b q => List.mem_cons_of_mem _ q
  intro k
  induction k with
  | zero =>
    intro i s hk hi ht hS hR
    obtain rfl : i = n := by omega
    refine codeAny_builtin PyProof.Rows.F.entry_set_update_loop ?_
    rw [Around.under_plainId PyProof.Rows.F.plain_set_update_loop _]
    refine wpAny_bind (m := pyNext (.ref it)) (Wk.done s _ _ ht fun s1 mv => ?_)
    obtain ⟨o, es, ep, tb, ho, rest⟩ := hS
    exact wpAny_pure (hR s1 (mv.mono up) ⟨o, es, ep, tb, mv.heap z _ hzw ho, rest⟩)
  | succ k ih =>
    intro i s hk hi ht hS hR
    have hlt : i < n := by omega
    refine codeAny_builtin PyProof.Rows.F.entry_set_update_loop ?_
    rw [Around.under_plainId PyProof.Rows.F.plain_set_update_loop _]
    refine wpAny_bind (m := pyNext (.ref it)) (Wk.item i s _ _ hlt ht fun v s1 hP ht1 mv => ?_)
    obtain ⟨t, rfl⟩ := hval i v hP
    generalize hx : xs.getD i Str.empty = x at *
    have hS1 : s1.heap.SetOf (PySem.strKind prog w) z (fun y => (xs.take i).any (· == y)) (dn (xs.take i)) := by
      obtain ⟨o, es, ep, tb, ho, rest⟩ := hS
      exact ⟨o, es, ep, tb, mv.heap z _ hzw ho, rest⟩
    refine wpAny_bind (m := holding [Value.str x t] (setAdd z (.str x t))) (wpAny_holding ?_)
    unfold setAdd
    refine wpAny_holding (wpAny_bind ((PySem.strKind prog w).pyHash (k := x) (strKind_is _ _ _ _) ?_))
    have hd : dn (xs.take i) ≤ i := dn_le i _ (by rw [List.length_take]; omega)
    refine wpAny_setAddHashed_of (knd := PySem.strKind prog w) (s := { s1 with toks := s1.toks + 1 }) (strKind_is _ _ _ _) rfl hS1 (by unfold scanBound; omega) fun h' sb hS2 => ?_
    have et : xs.take (i + 1) = xs.take i ++ [x] := by rw [take_snoc (by omega), hx]
    have hS3 : h'.SetOf (PySem.strKind prog w) z (fun y => (xs.take (i + 1)).any (· == y)) (dn (xs.take (i + 1))) := by
      refine SetOf_congr hS2 (fun y => ?_) ?_
      · rw [et, List.any_append, List.any_cons, List.any_nil, Bool.or_false]
        congr 1
        by_cases e : y = x
        · subst e; simp
        · have q : (x == y) = false := beq_eq_false_iff_ne.mpr fun e' => e e'.symm
          rw [q]
          exact decide_eq_false e
      · rw [et, dn_snoc]
    refine wpAny_pure ⟨plainId_quiet PyProof.Rows.F.plain_set_update_loop _, ih (i + 1) _ (by omega) hlt (Wk.frame _ s1 _ _ ht1 (Nat.le_succ _) fun b hb o e => ?_) hS3 fun s2 mv2 hS4 => ?_⟩
    · have hbz : b ≠ z := fun q => hz (q ▸ hb)
      exact (sb.2 b hbz).trans e
    · refine hR s2 (Moved.trans Wk.gtrans ((mv.mono up).then_heap (Nat.le_succ _) fun b o hb e => ?_) mv2) hS4
      have hbz : b ≠ z := fun q => hb (by rw [q]; exact List.mem_cons_self)
      exact (sb.2 b hbz).trans e
end
/-- a set that was just made -/
abbrev fso (led : Bool) : Obj := { cls := .type "set", dict := none, data := .set #[] 0 (.fresh 0 0 led) }
section
variable {prog : Program} {w : World} {A : Around} {E : Value → Shared → Prop} {s : Shared}
set_option maxHeartbeats 3200000 in
theorem setTup {l : Addr} {items : Array Value} {xs : List Str} {Q : Value → Shared → Prop} (hh : A.handled = none) (hl : s.heap.IsTuple l items) (hi : PyProof.Rows.StrsAre items.toList xs) (hn1 : xs.length ≤ 1000)
    (h : ∀ (h' : Heap) (tk : Nat), h'.SetOf (PySem.strKind prog w) s.heap.objs.size (fun y => xs.any (· == y)) (dn xs) → (∀ b o, b < s.heap.objs.size → s.heap.get? b = some o → h'.get? b = some o) → Q (.ref s.heap.objs.size) { s with heap := h', toks := tk }) :
    wpAny (model prog w) A (call (.type "set") [.ref l]) Q E s := by
  obtain ⟨c, tl, hmro⟩ := PySem.F.called_set.mro
  have hmade := PySem.F.called_set.made
  have hsub := PySem.F.called_set.sub
  have hsz : xs.length = items.size := by rw [← StrsAre.len_eq hi, Array.length_toList]
  have hfull : xs.take items.size = xs := by rw [← hsz, List.take_length]
  refine wpAny_call (codeAny_of_tree ?_)
  show wpAny _ _ (callAny (.type "set") _) _ _ _
  refine wpAny_pure ⟨Code.quiet_builtin _ (by decide +kernel), codeAny_builtin PySem.F.entry_type_call ?_⟩
  rw [Around.under_plain (weight_type_call_type "set" [.ref l] []) rfl]
  have nt := PySem.F.called_set.notType
  have cc := PySem.F.called_set.canCreate
  have tc := PySem.F.typeCall_set_1 (.ref l)
  repeat (any_goals (first | assumption | wp_step))
  refine codeAny_mono (code_set_new_1 (.ref l) (E := E) (Q₁ := fun obj s1 => ∃ led : Bool, obj = .ref s.heap.objs.size ∧ s1 = { s with heap := s.heap.push (fso led) }) fun led => ⟨led, rfl, rfl⟩) fun r s1 hr => ?_
  cases r with
  | error e => exact hr
  | ok fl =>
    cases fl with
    | ret obj =>
      obtain ⟨led, rfl, rfl⟩ := hr
      have hS : (s.heap.push (fso led)).get? s.heap.objs.size = some (fso led) := Heap.get?_push_size _ rfl
      have hT : Shared.TypeIs { s with heap := s.heap.push (fso led) } (.ref s.heap.objs.size) "set" := ⟨_, hS, rfl⟩
      have il := PySem.F.called_set.init.lookup
      have ib := PySem.F.called_set.init.bind (.ref s.heap.objs.size)
      repeat (any_goals (first | assumption | wp_step))
      refine codeAny_mono (codeAny_call_builtin (R := wants (fun r s2 => r = .none ∧ ∃ h' tk, s2 = { s with heap := h', toks := tk } ∧ h'.SetOf (PySem.strKind prog w) s.heap.objs.size (fun y => xs.any (· == y)) (dn xs) ∧
          ∀ b o, b < s.heap.objs.size → s.heap.get? b = some o → h'.get? b = some o) E) PySem.F.called_set.init.plain PySem.F.entry_set_init (check_set_init_1 hT ?_)) fun r2 s2 hr2 => ?_
      · obtain ⟨⟨oc, od, dt, osl⟩, hol, hcl, nl, hdl⟩ := hl
        replace hcl : oc = .type "tuple" := hcl
        replace hdl : dt = .seq items nl := hdl
        subst hcl hdl
        have hol1 : (s.heap.push (fso led)).get? l = some { cls := .type "tuple", dict := od, data := .seq items nl, slots := osl } := Heap.get?_push_of_some _ hol
        have s1 := PySem.F.sub_tuple_set
        have s2 := PySem.F.sub_tuple_frozenset
        have s3 : (Value.type "tuple" == Value.type "dict") = false := by decide
        have hl1 : (s.heap.push (fso led)).IsTuple l items := ⟨_, hol1, rfl, nl, rfl⟩
        unfold Builtin.«set.__init__» noKeywords Builtin.Frozenset.updateFrom
        generalize hPI : pyIter = PI
        wp_walk
        subst hPI
        refine wpAny_pyIter_tuple hl1 (wpAny_bind (wpAny_runValue ?_))
        have hlS : l < s.heap.objs.size := Heap.lt_size hol
        have hh3 : A.in1.in1.in1.handled = none := by simp [hh]
        have hsp : (s.heap.push (fso led)).objs.size = s.heap.objs.size + 1 := Heap.size_push ..
        have hne : l ≠ (s.heap.push (fso led)).objs.size := by rw [hsp]; exact Nat.ne_of_lt (Nat.lt_succ_of_lt hlS)
        have hout : s.heap.objs.size ∉ [(s.heap.push (fso led)).objs.size, l] := by
          simp only [List.mem_cons, List.not_mem_nil, or_false, not_or]
          rw [hsp]
          exact ⟨Nat.ne_of_lt (Nat.lt_succ_self _), Nat.ne_of_gt hlS⟩
        refine setLoop ((Walks.tuple hh3 _ l hne items).toS) s.heap.objs.size hout xs hsz (by rw [← hsz]; exact hn1) (fun i v hv => SS.strs_at hi i v (by rw [Array.getElem?_toList]; exact hv)) (items.size - 0) 0 _ (by omega) (Nat.zero_le _)
          ⟨⟨_, Heap.get?_push_size _ rfl, rfl, rfl⟩, hl1.push _⟩ ?ka ?kb
        case ka =>
          refine PyProof.Rows.SetOf_congr ((PyProof.Rows.setObjOf_fresh (knd := PySem.strKind prog w) led).setOf (Heap.get?_push_of_some _ hS) (by unfold scanBound; omega)) (fun _ => rfl) rfl
        case kb =>
          intro s3 mv hS3
          rw [hfull] at hS3
          obtain ⟨h3, g3, d3, t3, o3⟩ := s3
          obtain rfl : g3 = s.gens := mv.gens
          obtain rfl : d3 = s.drawn := mv.drawn
          obtain rfl : o3 = s.os := mv.os
          show wpAny _ _ _ _ _ _
          refine wpAny_pure ?_
          show wpAny _ _ (ret Value.none) _ _ _
          refine wpAny_pure ⟨rfl, h3, t3, rfl, hS3, fun b o hb e => ?_⟩
          refine mv.heap b o ?_ (Heap.get?_push_of_some _ (Heap.get?_push_of_some _ e))
          simp only [List.mem_cons, List.not_mem_nil, or_false, not_or]
          rw [hsp]
          exact ⟨Nat.ne_of_lt hb, Nat.ne_of_lt (Nat.lt_succ_of_lt hb)⟩
      · cases r2 with
        | error e => exact hr2
        | ok fl2 =>
          cases fl2 with
          | ret r =>
            obtain ⟨rfl, h', tk, rfl, hS', hk'⟩ := hr2
            repeat (any_goals (first | assumption | wp_step))
            exact h _ _ hS' hk'
          | _ => exact hr2.elim
    | _ => exact hr.elim
end
/-- len(set(t)), t a tuple of texts -/
def tLenSetT (K : PySem.W.Frag) (ta : TE) : TE := fun σ H Q => ta σ H fun x H1 => ∃ l, ∃ xs : List Str, x = .ref l ∧ SqT K H1 l (xs.map V.str) ∧ xs.length ≤ 1000 ∧ Q (.int (dn xs)) H1
section
variable {X : Cx} {W : WX} {a : Expr} {fa : EE} {p p2 q pos : Pos}
theorem pe_lenSetT {ta : TE} (hc : X.calm = true) (hg : Gl X "len") (hm : X.mg "len" = none) (hg2 : Gl X "set") (hm2 : X.mg "set" = none) (ha : PE X a ta)
    (na : starEach [a] X.env = (false, eval a X.env) :: starEach [] X.env := by rfl) : PE X (.Call (.Name "len" p) [.Call (.Name "set" p2) [a] [] q] [] pos) (tLenSetT X.K ta) := by
  refine ⟨fun pins s σ H Q I h => Call_ (ld_blt I hg hm boot_len (PyProof.Rows.callWith_builtin1 (PyProof.Rows.args_cons (Call_ (ld_blt I hg2 hm2 boot_set ?_)) rfl) rfl rfl))⟩
  refine PyProof.Rows.callWith_type1 (PyProof.Rows.args_cons (thn (ha.run pins s σ H _ I h) fun v s1 hh => PyProof.Rows.args_nil ?_) na) na rfl
  obtain ⟨x, H1, I1, r1, l, xs, rfl, hq, h1, q1⟩ := hh
  cases r1
  obtain ⟨its, r, pt, hz⟩ := I1.tuple hq
  refine setTup (I1.ok.hd hc) pt (by simpa using strsAre_of r) h1 fun h' tk hS hk => PyProof.Rows.args_nil ?_
  obtain ⟨o, es, ep, t, ho, hex, hd, _, _, _, hf, hn⟩ := hS
  have J : Inv X pins σ H1 { s1 with heap := h', toks := tk } := I1.kept fun b o e => hk b o (Heap.lt_size e) e
  have hle := dn_le xs.length xs rfl
  exact call_len_set ho hex hd hf (by rw [hn]; omega) ⟨.int (dn xs), H1, J.tok _, ⟨_, by rw [hn]⟩, q1⟩
def fLenSet (a : EE) : EE := fun s h => (a s h).bind fun x h1 => match x with
  | .tup ds => (match strsD ds with
    | some xs => if xs.length ≤ 1000 then .ok (D.int (dn xs)) h1 else .bad
    | none => .bad)
  | _ => .bad
theorem se_lenSet (hc : X.calm = true) (hm : X.mg "len" = none) (hm2 : X.mg "set" = none) (ha : PE X a (rE X.K W fa)) (hg : Gl X "len" := by rfl) (hg2 : Gl X "set" := by rfl)
    (na : starEach [a] X.env = (false, eval a X.env) :: starEach [] X.env := by rfl) : PE X (.Call (.Name "len" p) [.Call (.Name "set" p2) [a] [] q] [] pos) (rE X.K W (fLenSet fa)) :=
  PEw (pe_lenSetT hc hg hm hg2 hm2 ha na) fun σ H Q q => by
    refine rd_mono (rd_bind (R := RelD) (f := fa) (g := fun x s h1 => match x with
      | .tup ds => (match strsD ds with
        | some xs => if xs.length ≤ 1000 then .ok (D.int (dn xs)) h1 else .bad
        | none => .bad)
      | _ => .bad) q) fun x H1 ⟨m1, s, h1, d1, S1, r1, q1, p1⟩ => ?_
    cases d1 with
    | tup ds =>
      dsimp only at p1
      simp only [RelD] at q1
      obtain ⟨t, us, rfl, ht, hr⟩ := q1
      split at p1
      · rename_i xs hx
        split at p1
        · rename_i hl
          have e := strsD_ok hr hx
          subst e
          exact ⟨t, xs, rfl, SqT.of ht, hl, p1 _ _ _ Ext.refl S1 (by simp [RelD])⟩
        · exact p1.elim
      · exact p1.elim
    | _ => exact p1.elim
end
end G9

set_option Elab.async false
set_option linter.all false
set_option maxRecDepth 100000
set_option maxHeartbeats 2000000
namespace G9
open PySem PySem.Spec PyProof.Rows L2
theorem bt_int : bootBuiltins "int" = some (.type "int") := by decide +kernel
theorem bt_bool : bootBuiltins "bool" = some (.type "bool") := by decide +kernel
theorem bt_str : bootBuiltins "str" = some (.type "str") := by decide +kernel
theorem bt_tuple : bootBuiltins "tuple" = some (.type "tuple") := by decide +kernel
theorem bt_list : bootBuiltins "list" = some (.type "list") := by decide +kernel
theorem bt_dict : bootBuiltins "dict" = some (.type "dict") := by decide +kernel
theorem bt_len : bootBuiltins "len" = some (.builtin "len") := by decide +kernel
theorem bt_max : bootBuiltins "max" = some (.builtin "max") := by decide +kernel
theorem bt_min : bootBuiltins "min" = some (.builtin "min") := by decide +kernel
theorem bt_sum : bootBuiltins "sum" = some (.builtin "sum") := by decide +kernel
theorem bt_sorted : bootBuiltins "sorted" = some (.builtin "sorted") := by decide +kernel
section
variable {X : Cx} {W : WX} {a b c : Expr} {fa fb fc : EE} {pos : Pos} {k : Nat}
theorem hu1 (hr : Room k X.A) : X.A.units + 1 < cLine := by have := hr.un; omega
theorem hu64 (hr : Room k X.A) : X.A.units + 64 < cLine := by have := hr.un; omega
theorem hu65 (hr : Room k X.A) : X.A.units + 65 < cLine := by have := hr.un; omega
theorem xadd (ha : PE X a (rE X.K W fa)) (hb : PE X b (rE X.K W fb)) : PE X (.BinOp a .Add b pos) (rE X.K W (fOp opAdd fa fb)) := se_op op_addAll os_add ha hb
theorem xsub (ha : PE X a (rE X.K W fa)) (hb : PE X b (rE X.K W fb)) : PE X (.BinOp a .Sub b pos) (rE X.K W (fOp opSub fa fb)) := se_op op_sub os_sub ha hb
theorem xmul (ha : PE X a (rE X.K W fa)) (hb : PE X b (rE X.K W fb)) : PE X (.BinOp a .Mult b pos) (rE X.K W (fOp opMul fa fb)) := se_op op_mulAll os_mul ha hb
theorem xmod (ha : PE X a (rE X.K W fa)) (hb : PE X b (rE X.K W fb)) : PE X (.BinOp a .Mod b pos) (rE X.K W (fOp opMod fa fb)) := se_op op_mod os_mod ha hb
theorem xdiv (ha : PE X a (rE X.K W fa)) (hb : PE X b (rE X.K W fb)) : PE X (.BinOp a .FloorDiv b pos) (rE X.K W (fOp opDiv fa fb)) := se_op op_fdiv os_div ha hb
theorem xpow (ha : PE X a (rE X.K W fa)) (hb : PE X b (rE X.K W fb)) : PE X (.BinOp a .Pow b pos) (rE X.K W (fOp opPow fa fb)) := se_op op_pow os_pow ha hb
/-- a comparison's two halves, for expressions, tests and chains -/
structure CmpS (X : Cx) (o : CmpOp) (op : D → D → HC → Res D) : Prop where
  ex : ∃ r, OpR X (compareOp o) r ∧ OpS X.K r op
theorem c_eq (hr : Room k X.A) : CmpS X .Eq opEq := ⟨_, op_eqD (hu64 hr), os_eq⟩
theorem c_ne (hr : Room k X.A) : CmpS X .NotEq opNe := ⟨_, op_neD (hu64 hr), os_ne⟩
theorem c_lt : CmpS X .Lt opLt := ⟨_, op_lt, os_I⟩
theorem c_le : CmpS X .LtE opLe := ⟨_, op_le, os_I⟩
theorem c_gt : CmpS X .Gt opGt := ⟨_, op_gt, os_I⟩
theorem c_ge : CmpS X .GtE opGe := ⟨_, op_ge, os_I⟩
theorem c_in (hr : Room k X.A) : CmpS X .In opIn := ⟨_, op_inAll (hu65 hr), os_in⟩
theorem c_notIn (hr : Room k X.A) : CmpS X .NotIn opNotIn := ⟨_, op_notInAll (hu65 hr), os_notIn⟩
theorem c_is : CmpS X .Is opIsN := ⟨_, op_isN1, os_isN⟩
theorem c_isNot : CmpS X .IsNot opNotN := ⟨_, op_notN1, os_notN⟩
variable {o o' : CmpOp} {op op' : D → D → HC → Res D}
theorem xc (C : CmpS X o op) (ha : PE X a (rE X.K W fa)) (hb : PE X b (rE X.K W fb)) (hm : behindInMarks o b = false := by first | exact nomark _ | rfl) : PE X (.Compare a [o] [b] pos) (rE X.K W (fOp op fa fb)) :=
  let ⟨_, ho, hs⟩ := C.ex
  se_cmp ho hs ha hb hm
theorem tc (C : CmpS X o op) (ha : PE X a (rE X.K W fa)) (hb : PE X b (rE X.K W fb)) (hm : behindInMarks o b = false := by first | exact nomark _ | rfl) : PT X (.Compare a [o] [b] pos) (rT X.K W (fBo (fOp op fa fb))) :=
  let ⟨_, ho, hs⟩ := C.ex
  st_cmp ho hs ha hb hm
theorem xc2 (C : CmpS X o op) (C' : CmpS X o' op') (ha : PE X a (rE X.K W fa)) (hb : PE X b (rE X.K W fb)) (hc : PE X c (rE X.K W fc)) (hm : lastMarks [o, o'] [b, c] = false := by with_unfolding_all rfl) : PE X (.Compare a [o, o'] [b, c] pos) (rE X.K W (fChain op op' fa fb fc)) :=
  let ⟨_, ho, hs⟩ := C.ex
  let ⟨_, ho', hs'⟩ := C'.ex
  se_chain ho hs ho' hs' ha hb hc hm
theorem tc2 (C : CmpS X o op) (C' : CmpS X o' op') (ha : PE X a (rE X.K W fa)) (hb : PE X b (rE X.K W fb)) (hc : PE X c (rE X.K W fc)) (hm : lastMarks [o, o'] [b, c] = false := by with_unfolding_all rfl) : PT X (.Compare a [o, o'] [b, c] pos) (rT X.K W (fBo (fChain op op' fa fb fc))) :=
  let ⟨_, ho, hs⟩ := C.ex
  let ⟨_, ho', hs'⟩ := C'.ex
  st_chain ho hs ho' hs' ha hb hc hm
/-- - x -/
def fNeg (a : EE) : EE := fun s h => (a s h).bind fun x h1 => match x with
  | .int i => .ok (.int (-i)) h1
  | _ => .bad
theorem xneg (ha : PE X a (rE X.K W fa)) : PE X (.UnaryOp .USub a pos) (rE X.K W (fNeg fa)) := PEw (pe_un un_neg ha) fun σ H Q q => by
  refine rd_mono (rd_bind (R := RelD) (f := fa) (g := fun x s h1 => match x with | .int i => .ok (D.int (-i)) h1 | _ => .bad) q) fun x H1 ⟨m1, s, h1, d1, S1, r1, q1, p1⟩ => ?_
  cases d1 with
  | int i =>
    simp only [RelD] at q1
    exact ⟨i, q1, p1 _ _ _ Ext.refl S1 (by simp [RelD])⟩
  | _ => exact p1.elim
end
section
variable {X : Cx} {W : WX} {e : Expr} {es : List Expr} {as : EA} {p pos : Pos}
theorem xlen (hm : X.mg "len" = none) (ha : PA X (e :: es) (rA X.K W as)) (hg : Gl X "len" := by rfl) (he : starEach (e :: es) X.env = (false, eval e X.env) :: starEach es X.env := by rfl) (hpl : (backTo pos (starEach es X.env)).any (·.1) = false := by rfl) :
    PE X (.Call (.Name "len" p) (e :: es) [] pos) (rE X.K W (fCl bLen as)) := se_clB call_lenAll cs_len hm bt_len ha hg (by decide) (by decide) he hpl
theorem xsum (hc : X.calm = true) (hm : X.mg "sum" = none) (ha : PA X (e :: es) (rA X.K W as)) (hg : Gl X "sum" := by rfl) (he : starEach (e :: es) X.env = (false, eval e X.env) :: starEach es X.env := by rfl) (hpl : (backTo pos (starEach es X.env)).any (·.1) = false := by rfl) :
    PE X (.Call (.Name "sum" p) (e :: es) [] pos) (rE X.K W (fCl bSum as)) := se_clB (cr_sum hc) cs_sum hm bt_sum ha hg (by decide) (by decide) he hpl
theorem xmax (hc : X.calm = true) (hm : X.mg "max" = none) (ha : PA X (e :: es) (rA X.K W as)) (hg : Gl X "max" := by rfl) (he : starEach (e :: es) X.env = (false, eval e X.env) :: starEach es X.env := by rfl) (hpl : (backTo pos (starEach es X.env)).any (·.1) = false := by rfl) :
    PE X (.Call (.Name "max" p) (e :: es) [] pos) (rE X.K W (fCl bMax as)) := se_clB (call_maxAll hc) cs_max hm bt_max ha hg (by decide) (by decide) he hpl
theorem xmin (hc : X.calm = true) (hm : X.mg "min" = none) (ha : PA X (e :: es) (rA X.K W as)) (hg : Gl X "min" := by rfl) (he : starEach (e :: es) X.env = (false, eval e X.env) :: starEach es X.env := by rfl) (hpl : (backTo pos (starEach es X.env)).any (·.1) = false := by rfl) :
    PE X (.Call (.Name "min" p) (e :: es) [] pos) (rE X.K W (fCl bMin as)) := se_clB (call_minAll hc) cs_min hm bt_min ha hg (by decide) (by decide) he hpl
theorem xsorted (hm : X.mg "sorted" = none) (ha : PA X (e :: es) (rA X.K W as)) (hg : Gl X "sorted" := by rfl) (he : starEach (e :: es) X.env = (false, eval e X.env) :: starEach es X.env := by rfl) (hpl : (backTo pos (starEach es X.env)).any (·.1) = false := by rfl) :
    PE X (.Call (.Name "sorted" p) (e :: es) [] pos) (rE X.K W (fCl bSorted as)) := se_clB call_sortedAll newL_sorted hm bt_sorted ha hg (by decide) (by decide) he hpl
theorem xlist (hm : X.mg "list" = none) (ha : PA X (e :: es) (rA X.K W as)) (hg : Gl X "list" := by rfl) (he : starEach (e :: es) X.env = (false, eval e X.env) :: starEach es X.env := by rfl) (hpl : (backTo pos (starEach es X.env)).any (·.1) = false := by rfl) :
    PE X (.Call (.Name "list" p) (e :: es) [] pos) (rE X.K W (fCl bList as)) := se_clT call_list_of cs_list hm bt_list ha hg (by decide) (by decide) he hpl
theorem xtuple (hm : X.mg "tuple" = none) (ha : PA X (e :: es) (rA X.K W as)) (hg : Gl X "tuple" := by rfl) (he : starEach (e :: es) X.env = (false, eval e X.env) :: starEach es X.env := by rfl) (hpl : (backTo pos (starEach es X.env)).any (·.1) = false := by rfl) :
    PE X (.Call (.Name "tuple" p) (e :: es) [] pos) (rE X.K W (fCl bTuple as)) := se_clT call_tuple_of cs_tuple hm bt_tuple ha hg (by decide) (by decide) he hpl
end

/-! ### a def without arguments -/
def fCall0 (fm : List D → HC → Res D) : EE := fun _ h => fm [] h
section
variable {X : Cx} {W : WX} {x : Str} {k : Nat} {fm : List D → HC → Res D} {p pos : Pos}
theorem tCall0_of {f : Addr} {fd : FuncData} {ps : List Str} {sp : Sp} (F : FnOk X.prog X.w X.K X.mg X.base (L2.CX X.prog X.w) k f fd ps sp) (hr : Room k X.A) (hm : X.mg x = some (.ref f)) (hk : PySem.W.keepIn X.K (.ref f) = true) (hb : Binds X.K fd ps []) (tk : Takes X W) (hg : Gl X x) (hdb : (x == ("__debug__" : Str)) = false) :
    PE X (.Call (.Name x p) [] [] pos) (tCallS sp (WE W) tNil) := by
  refine ⟨fun pins s σ H Q I h => wpAny_Call_Name_kw (ld_glob I hg hm ?_ hdb)⟩
  exact PySem.W.callWith_K0 I.kIn hk (run_fnS (us := []) (E := WE W) F hr hb (passAt tk σ) I .nil h)
theorem se_call0 (F : Fn X.prog X.w X.K X.mg X.base x k 0 fm) (hr : Room k X.A) (tk : Takes X W) (hg : Gl X x := by rfl) (hdb : (x == ("__debug__" : Str)) = false := by decide) : PE X (.Call (.Name x p) [] [] pos) (rE X.K W (fCall0 fm)) := by
  obtain ⟨f, fd, ps, G, hm, hk, hb⟩ := F.ex
  refine PEw (tCall0_of G hr hm hk hb tk hg hdb) fun σ H Q q => ?_
  obtain ⟨m, s, h, S, r, p⟩ := q
  exact ⟨m, h, [], S, RelDs.nil, rfl, postF_of p⟩
end
end G9

set_option Elab.async false
set_option linter.all false
set_option maxRecDepth 100000
set_option maxHeartbeats 2000000
namespace G9
open PySem PySem.Spec PyProof.Rows L2
theorem exf_of {K : PySem.W.Frag} {h : Heap} {mg : Str → Option Value} {x : Str} (X : K.In h) (G : h.Ns mainGlobals mg) (g : (He.Fa.glo x).ok K = true) (c : (He.Fa.exc x).ok K = true) : ExF K mg x :=
  ⟨(He.exc_ok c).1, He.glo_ok X G g, (He.exc_ok c).2.1, (He.exc_ok c).2.2.1, (He.exc_ok c).2.2.2⟩
/-- the law's own promise: nothing is let out -/
def spLaw (K : PySem.W.Frag) (fm : List D → HC → Res D) : Sp := fun vs H Q _ => spF K fm 1 vs H Q (fun _ _ _ => False)
theorem law_ok {P : Program} {w : World} {K : PySem.W.Frag} {mg : Str → Option Value} {base : Heap} {k : Nat} {f : Addr} {fd : FuncData} {ps : List Str} {fm : List D → HC → Res D} (F : FnOk P w K mg base (L2.CX P w) k f fd ps (spF K fm 1)) : FnOk P w K mg base L2.CX0 k f fd ps (spLaw K fm) :=
  ⟨fun vs H Q E q => F.len vs H Q _ q, fun A outer s H args us vs Q E hr he hb hv hs => codeAny_mono (F.run A outer s H args us vs Q _ hr he hb hv hs) fun r s' z => by
    unfold CR at z ⊢
    split at z
    · exact z
    · exact z
    · obtain ⟨_, _, _, _, _, _, _, _, _, _, _, _, z⟩ := z
      exact z.elim⟩
theorem law_sp {K : PySem.W.Frag} {fm : List D → HC → Res D} {H : Hp} {a : Addr} {ns : List Int} {E : XK} (hO : Only H) (hS : SqL K H a (ns.map V.int)) (z : ∃ h', fm [.scr ns] [] = .ok (.bl true) h') : spLaw K fm [.ref a] H (fun v _ => v = .bl true) E := by
  obtain ⟨h', e⟩ := z
  refine ⟨⟨[], a, ns⟩, [], [.scr ns], ⟨rfl, by simp, .of hS hO, fun i c b h => by simp at h⟩, .cons (by simp [RelD]) .nil, rfl, ?_⟩
  rw [e]
  intro m' H' v _ _ r
  simpa [RelD] using r
end G9

set_option Elab.async false
set_option linter.all false
set_option maxRecDepth 100000
set_option maxHeartbeats 2000000
namespace G9
open PySem PySem.Spec PyProof.Rows L2
/-! ### what is never reached -/
def fBad : EE := fun _ _ => .bad
def fBadT : ET := fun _ _ => .bad
def fBadS : ES := fun _ _ => .bad
section
variable {X : Cx} {W : WX}
theorem se_bad {e : Expr} : PE X e (rE X.K W fBad) := ⟨fun pins s σ H Q I q => by
  obtain ⟨_, _, _, _, _, p⟩ := q
  exact p.elim⟩
theorem st_bad {e : Expr} : PT X e (rT X.K W fBadT) := ⟨fun pins s σ H Q I q => by
  obtain ⟨_, _, _, _, _, p⟩ := q
  exact p.elim⟩
theorem ss_bad {st : Stmt} : PS X st (rS X.K W fBadS) := ⟨fun pins s σ H Q I q => by
  obtain ⟨_, _, _, _, _, p⟩ := q
  exact p.elim⟩
theorem ss_bads {st : List Stmt} : PSs X st (rS X.K W fBadS) := ⟨fun pins s σ H Q I q => by
  obtain ⟨_, _, _, _, _, p⟩ := q
  exact p.elim⟩
end
/-! ### try -/
/-- which clause takes which class -/
abbrev Tab := Str → Str → Option Bool
def handle (T : Tab) (c : Str) : List (Str × ES) → ES
  | [], s, h => .exc c s h
  | (y, f) :: r, s, h => match T c y with
    | some true => f s h
    | some false => handle T c r s h
    | none => .bad
def fTry (T : Tab) (f : ES) (hs : List (Str × ES)) : ES := fun s h => match f s h with
  | .exc c s1 h1 => handle T c hs s1 h1
  | r => r
def TabOk (K : PySem.W.Frag) (T : Tab) : Prop := ∀ c y b, T c y = some b → PySem.W.exmOne K (.ref (He.ga K c)) (.ref (He.ga K y)) = some b
/-- a table made of rows -/
def tabOf (l : List (Str × Str × Bool)) : Tab := fun c y => (l.find? fun r => decide (r.1 = c) && decide (r.2.1 = y)).map (·.2.2)
theorem tabOf_ok {K : PySem.W.Frag} {l : List (Str × Str × Bool)} (h : ∀ r ∈ l, PySem.W.exmOne K (.ref (He.ga K r.1)) (.ref (He.ga K r.2.1)) = some r.2.2) : TabOk K (tabOf l) := fun c y b e => by
  unfold tabOf at e
  cases q : l.find? (fun r => decide (r.1 = c) && decide (r.2.1 = y)) with
  | none => rw [q] at e; cases e
  | some r =>
    rw [q] at e
    have h1 := List.find?_some q
    have h2 := List.mem_of_find?_eq_some q
    simp at h1 e
    obtain ⟨rfl, rfl⟩ := h1
    rw [h r h2, e]
section
variable {X : Cx} {W : WX}
def hdL (K : PySem.W.Frag) (W : WX) (hs : List (Str × ES)) : List (Value × (Addr → Value → Option Addr → TS)) := hs.map fun p => (Value.ref (He.ga K p.1), fun _ _ _ => rS K W p.2)
theorem sh_nil : HdsOk X [] (hdL X.K W []) := .nil
theorem sh_cons {y : Str} {f : ES} {hs : List (Str × ES)} {b₀ : Stmt} {suite : List Stmt} {np pos' : Pos} {hds : List ExceptHandler} (hg : X.mg y = some (.ref (He.ga X.K y)))
    (hsu : ∀ (a : Addr) (oe : Obj) (pn : List (Addr × Obj)), PSs (X.suite a ((a, oe) :: pn)) (b₀ :: suite) (rS X.K W f)) (r : HdsOk X hds (hdL X.K W hs)) (hgl : Gl X y := by rfl) (hdb : (y == ("__debug__" : Str)) = false := by decide) :
    HdsOk X (.ExceptHandler (some (.Name y np)) none (b₀ :: suite) pos' :: hds) (hdL X.K W ((y, f) :: hs)) :=
  .cons ⟨hgl, hdb, .inl hg⟩ (fun a oe cls d pn _ _ => hsu a oe pn) r
theorem handle_ok {T : Tab} (hT : TabOk X.K T) {En : Ends} {c : Str} {m m1 : Mp} {H H1 : Hp} {s1 : SD} {h1 : HC} {σ : L2.St} (E : Ext m m1 H H1) (S : Sm X.K m1 h1 H1) (r : Rs m1 H1 s1 σ) : ∀ hs : List (Str × ES), postS X.K W m H En (handle T c hs s1 h1) → wMany X.K W En (hdL X.K W hs) (.ref (He.ga X.K c)) none σ H1
  | [], p => p m1 H1 σ E S r
  | (y, f) :: hs, p => by
    unfold handle at p
    cases e : T c y with
    | none => rw [e] at p; exact p.elim
    | some b =>
      rw [e] at p
      cases b with
      | true => exact ⟨true, hT c y true e, fun _ a _ => ⟨m1, s1, h1, S, r, postS_ext p E⟩, fun z => by cases z⟩
      | false => exact ⟨false, hT c y false e, (fun z => by cases z), fun _ => handle_ok hT E S r hs p⟩
theorem ss_try {T : Tab} {f : ES} {hs : List (Str × ES)} {body : List Stmt} {h₀ : ExceptHandler} {hds : List ExceptHandler} {pos : Pos} (hT : TabOk X.K T) (tk : Takes X W) (hstk : X.stack = X.env :: X.outer) (hfr : X.env.frame = some X.env.locals)
    (hb : ∀ (W' : WX) (pn : List (Addr × Obj)) (xe : Value → Shared → Prop), Takes (X.tr pn xe) W' → PassesOwn (model X.prog X.w) X.A X.env xe → PSs (X.tr pn xe) body (rS X.K W' f))
    (hh : HdsOk X (h₀ :: hds) (hdL X.K W hs)) : PS X (.Try body (h₀ :: hds) [] [] pos) (rS X.K W (fTry T f hs)) :=
  PSw (ps_try_many (tb := fun W' => rS X.K W' f) hstk hfr tk hb hh) fun En σ H q => by
    obtain ⟨m, s, h, S, r, p⟩ := q
    refine ⟨m, s, h, S, r, ?_⟩
    unfold fTry at p
    cases e : f s h with
    | nx s1 h1 => rw [e] at p; exact p
    | ret d h1 => rw [e] at p; exact p
    | bk s1 h1 => rw [e] at p; exact p
    | ct s1 h1 => rw [e] at p; exact p
    | bad => rw [e] at p; exact p
    | exc c s1 h1 =>
      rw [e] at p
      exact fun m' H' σ' E S' r' => handle_ok hT E S' r' hs p
end
end G9

set_option Elab.async false
set_option linter.all false
set_option maxRecDepth 100000
set_option maxHeartbeats 2000000
namespace G9
open PySem PySem.Spec PyProof.Rows L2
/-! ### zip of a list with a tuple -/
/-- a thing that stands at it and at l alone -/
def Stays (it l : Addr) (J : Heap → Prop) : Prop := ∀ (c : Addr) (h h' : Heap), it ≠ c → l ≠ c → Heap.ExtBut c h h' → J h → J h'
structure NxI (it l : Addr) (J J' : Heap → Prop) (x : Value) : Prop where
  run : ∀ {prog : Program} {w : World} {A : Around} {E : Value → Shared → Prop} {s : Shared} {Q : Value → Shared → Prop}, J s.heap → (∀ h', J' h' → Heap.SameBut it s.heap h' → Q x { s with heap := h' }) → wpAny (model prog w) A (Builtin.SmallTypes.nextOf (.ref it)) Q E s
  st : Stays it l J
  st' : Stays it l J'
structure NxE (it l : Addr) (J : Heap → Prop) : Prop where
  run : ∀ {prog : Program} {w : World} {A : Around} {E : Value → Shared → Prop} {s : Shared} {Q : Value → Shared → Prop}, A.handled = none → J s.heap → (∀ h' e, Heap.ExtBut it s.heap h' → (∃ o, h'.get? e = some o ∧ o.cls = .type "StopIteration") → E (.ref e) { s with heap := h' }) → wpAny (model prog w) A (Builtin.SmallTypes.nextOf (.ref it)) Q E s
  st : Stays it l J
def JL (it l : Addr) (xs : Array Value) (k : Nat) (h : Heap) : Prop := h.IsListIter it l k ∧ h.IsList l xs
def JT (it l : Addr) (xs : Array Value) (k : Nat) (h : Heap) : Prop := h.IsTupleIter it l k ∧ h.IsTuple l xs
theorem JL.stays {it l : Addr} {xs : Array Value} {k : Nat} : Stays it l (JL it l xs k) := fun c h h' a b e ⟨q, r⟩ => ⟨q.extBut e a, r.extBut e b⟩
theorem JT.stays {it l : Addr} {xs : Array Value} {k : Nat} : Stays it l (JT it l xs k) := fun c h h' a b e ⟨q, r⟩ => ⟨q.extBut e a, r.extBut e b⟩
theorem JL.nx {it l : Addr} {xs : Array Value} {k : Nat} {x : Value} (hx : xs[k]? = some x) (hne : l ≠ it) : NxI it l (JL it l xs k) (JL it l xs (k + 1)) x :=
  ⟨fun ⟨q, r⟩ g => wpAny_nextOf_list_item q r hx fun h' a b => g h' ⟨a, r.extBut b.extBut hne⟩ b, JL.stays, JL.stays⟩
theorem JT.nx {it l : Addr} {xs : Array Value} {k : Nat} {x : Value} (hx : xs[k]? = some x) (hne : l ≠ it) : NxI it l (JT it l xs k) (JT it l xs (k + 1)) x :=
  ⟨fun ⟨q, r⟩ g => RZ.nextOf_tuple_item q r hx fun h' a b => g h' ⟨a, r.extBut b.extBut hne⟩ b, JT.stays, JT.stays⟩
theorem JL.ex {it l : Addr} {xs : Array Value} {k : Nat} (hx : xs[k]? = none) : NxE it l (JL it l xs k) :=
  ⟨fun hh ⟨q, r⟩ g => wpAny_nextOf_list_end hh q r hx g, JL.stays⟩
theorem JT.ex {it l : Addr} {xs : Array Value} {k : Nat} (hx : xs[k]? = none) : NxE it l (JT it l xs k) :=
  ⟨fun hh ⟨q, r⟩ g => RZ.nextOf_tuple_end hh q r hx g, JT.stays⟩
section
variable {prog : Program} {w : World} {A : Around} {E : Value → Shared → Prop} {s : Shared} {zp TI TO i1 i2 l1 l2 : Addr} {J1 J1' J2 J2' : Heap → Prop} {x y a b : Value}
theorem zipM_item {Q : Value → Shared → Prop} (D : ZipApart zp TI TO i1 i2 l1 l2) (gz : IsZip s.heap zp TI TO .none) (gI : PySem.IsPair s.heap TI (.ref i1) (.ref i2)) (gO : PySem.IsPair s.heap TO a b) (n1 : NxI i1 l1 J1 J1' x) (n2 : NxI i2 l2 J2 J2' y) (j1 : J1 s.heap) (j2 : J2 s.heap)
    (hQ : ∀ h', IsZip h' zp TI TO (rawInt s.heap.objs.size) → PySem.IsPair h' TO x y → J1' h' → J2' h' → PySem.IsPair h' s.heap.objs.size x y → h'.objs.size = s.heap.objs.size + 1 →
      (∀ c o, c ∉ [zp, TO, i1, i2] → s.heap.get? c = some o → h'.get? c = some o) → Q (.ref s.heap.objs.size) { s with heap := h' }) :
    wpAny (model prog w) A (Builtin.«zip.__next__» ⟨[.ref zp], []⟩) (fun fin s' => ∃ v, fin = .done (.ret v) ∧ Q v s') E s := by
  show wpAny _ _ (field (.ref zp) 2 >>= _) _ _ _
  refine wpAny_bind (wpAny_field gz rfl (x := .bool false) rfl ?_)
  show wpAny _ _ (field (.ref zp) 3 >>= _) _ _ _
  refine wpAny_bind (wpAny_field gz rfl (x := .ref TI) rfl ?_)
  refine wpAny_bind (wpAny_seqItems gI rfl ?_)
  show wpAny _ _ (Builtin.SmallTypes.ownedTupleIsFree (.ref zp) >>= _) _ _ _
  refine wpAny_bind ?_
  simp only [Builtin.SmallTypes.ownedTupleIsFree]
  refine wpAny_bind (wpAny_field gz rfl (x := .none) rfl (wpAny_pure ?_))
  simp only [if_true]
  refine wpAny_bind (wpAny_rule ?_)
  refine wpAny_bind (wpAny_field gz rfl (x := .ref TO) rfl ?_)
  refine wpAny_bind (wpAny_setField_rec gz (by simp) fun k1 gz1 m1 => ?_)
  replace gz1 : IsZip k1 zp TI TO .ellipsis := gz1
  refine wpAny_bind ?_
  simp only [List.forIn_cons, List.forIn_nil, List.zipIdx_cons, List.zipIdx_nil]
  refine wpAny_bind (wpAny_bind (wpAny_onRaise ?_))
  show wpAny _ _ (Builtin.SmallTypes.nextOf (Value.ref i1) >>= _) _ _ _
  refine wpAny_bind (n1.run (n1.st _ _ _ D.i1z D.l1z m1.extBut j1) fun k2 j1' m2 => wpAny_pure ?_)
  have gO2 : PySem.IsPair k2 TO a b := m2.extBut _ _ D.TOi1 (m1.extBut _ _ D.TOz gO)
  refine wpAny_bind (wpAny_seqItems gO2 rfl ?_)
  refine wpAny_bind (wpAny_updateSeq_pair gO2 fun k3 gO3 m3 => ?_)
  replace gO3 : PySem.IsPair k3 TO x b := gO3
  refine wpAny_bind (wpAny_letGo (wpAny_pure ?_))
  refine wpAny_bind (wpAny_bind (wpAny_onRaise ?_))
  show wpAny _ _ (Builtin.SmallTypes.nextOf (Value.ref i2) >>= _) _ _ _
  have j2a := n2.st _ _ _ D.TOi2.symm D.l2TO m3.extBut (n2.st _ _ _ D.i12.symm D.l2i1 m2.extBut (n2.st _ _ _ D.i2z D.l2z m1.extBut j2))
  refine wpAny_bind (n2.run j2a fun k4 j2' m4 => wpAny_pure ?_)
  have gO4 : PySem.IsPair k4 TO x b := m4.extBut _ _ D.TOi2 gO3
  refine wpAny_bind (wpAny_seqItems gO4 rfl ?_)
  refine wpAny_bind (wpAny_updateSeq_pair gO4 fun k5 gO5 m5 => ?_)
  replace gO5 : PySem.IsPair k5 TO x y := gO5
  refine wpAny_bind (wpAny_letGo (wpAny_pure (wpAny_pure ?_)))
  refine wpAny_bind (wpAny_seqItems gO5 rfl ?_)
  refine wpAny_bind (wpAny_newTuple ?_)
  have esz : k5.objs.size = s.heap.objs.size := m5.1.trans (m4.1.trans (m3.1.trans (m2.1.trans m1.1)))
  have gz5 : IsZip k5 zp TI TO .ellipsis := m5.extBut _ _ (Ne.symm D.TOz) (m4.extBut _ _ (Ne.symm D.i2z) (m3.extBut _ _ (Ne.symm D.TOz) (m2.extBut _ _ (Ne.symm D.i1z) gz1)))
  have kp5 : ∀ c o, c ∉ [zp, TO, i1, i2] → s.heap.get? c = some o → k5.get? c = some o := fun c o hc e => by
    simp at hc
    obtain ⟨c1, c2, c3, c4⟩ := hc
    exact m5.extBut _ _ c2 (m4.extBut _ _ c4 (m3.extBut _ _ c2 (m2.extBut _ _ c3 (m1.extBut _ _ c1 e))))
  have j15 := n1.st' _ _ _ D.TOi1.symm D.l1TO m5.extBut (n1.st' _ _ _ D.i12 D.l1i2 m4.extBut (n1.st' _ _ _ D.TOi1.symm D.l1TO m3.extBut j1'))
  have j25 := n2.st' _ _ _ D.TOi2.symm D.l2TO m5.extBut j2'
  have zlt : zp < k5.objs.size := Heap.lt_size gz5
  show wpAny _ _ (Builtin.SmallTypes.ownedTupleHandOut (.ref zp) (.ref k5.objs.size) >>= _) _ _ _
  refine wpAny_bind ?_
  simp only [Builtin.SmallTypes.ownedTupleHandOut]
  have gz6 : IsZip (k5.push { cls := .type "tuple", data := .seq #[x, y] }) zp TI TO .ellipsis := Heap.get?_push_of_some _ gz5
  refine wpAny_bind (wpAny_setField_rec gz6 (by simp) fun k7 gz7 m7 => ?_)
  replace gz7 : IsZip k7 zp TI TO (rawInt k5.objs.size) := gz7
  refine wpAny_setField_rec gz7 (by simp) fun k8 gz8 m8 => ?_
  replace gz8 : IsZip k8 zp TI TO (rawInt k5.objs.size) := gz8
  have up : Heap.ExtBut zp k5 k8 := fun c o c1 e => m8.extBut _ _ c1 (m7.extBut _ _ c1 (Heap.get?_push_of_some _ e))
  have gT : PySem.IsPair k8 k5.objs.size x y := m8.extBut _ _ (Nat.ne_of_gt zlt) (m7.extBut _ _ (Nat.ne_of_gt zlt) (Heap.get?_push_size _ rfl))
  have esz8 : k8.objs.size = k5.objs.size + 1 := by rw [m8.1, m7.1, Heap.size_push]
  rw [esz] at gz8 gT esz8
  refine wpAny_pure ⟨_, rfl, ?_⟩
  show Q (.ref k5.objs.size) _
  rw [esz]
  refine hQ k8 gz8 (up _ _ D.TOz gO5) (n1.st' _ _ _ D.i1z D.l1z up j15) (n2.st' _ _ _ D.i2z D.l2z up j25) gT esz8 fun c o hc e => ?_
  have c1 : c ≠ zp := fun q => hc (by simp [q])
  exact up c o c1 (kp5 c o hc e)
theorem zipM_end {Q : Fin → Shared → Prop} (hh : A.handled = none) (D : ZipApart zp TI TO i1 i2 l1 l2) (gz : IsZip s.heap zp TI TO .none) (gI : PySem.IsPair s.heap TI (.ref i1) (.ref i2)) (gO : PySem.IsPair s.heap TO a b)
    (hend : (NxE i1 l1 J1 ∧ J1 s.heap) ∨ (NxI i1 l1 J1 J1' x ∧ J1 s.heap ∧ NxE i2 l2 J2 ∧ J2 s.heap))
    (hE : ∀ h' e, (∀ c o, c ∉ [zp, TO, i1, i2] → s.heap.get? c = some o → h'.get? c = some o) → (∃ o, h'.get? e = some o ∧ o.cls = .type "StopIteration") → E (.ref e) { s with heap := h' }) :
    wpAny (model prog w) A (Builtin.«zip.__next__» ⟨[.ref zp], []⟩) Q E s := by
  show wpAny _ _ (field (.ref zp) 2 >>= _) _ _ _
  refine wpAny_bind (wpAny_field gz rfl (x := .bool false) rfl ?_)
  show wpAny _ _ (field (.ref zp) 3 >>= _) _ _ _
  refine wpAny_bind (wpAny_field gz rfl (x := .ref TI) rfl ?_)
  refine wpAny_bind (wpAny_seqItems gI rfl ?_)
  show wpAny _ _ (Builtin.SmallTypes.ownedTupleIsFree (.ref zp) >>= _) _ _ _
  refine wpAny_bind ?_
  simp only [Builtin.SmallTypes.ownedTupleIsFree]
  refine wpAny_bind (wpAny_field gz rfl (x := .none) rfl (wpAny_pure ?_))
  simp only [if_true]
  refine wpAny_bind (wpAny_rule ?_)
  refine wpAny_bind (wpAny_field gz rfl (x := .ref TO) rfl ?_)
  refine wpAny_bind (wpAny_setField_rec gz (by simp) fun k1 gz1 m1 => ?_)
  replace gz1 : IsZip k1 zp TI TO .ellipsis := gz1
  refine wpAny_bind ?_
  simp only [List.forIn_cons, List.forIn_nil, List.zipIdx_cons, List.zipIdx_nil]
  refine wpAny_bind (wpAny_bind (wpAny_onRaise ?_))
  show wpAny _ _ (Builtin.SmallTypes.nextOf (Value.ref i1) >>= _) _ _ _
  have ez : ∀ {k : Heap} {e : Addr} {f0 : Value} {oe : Obj}, IsZip k zp TI TO f0 → k.get? e = some oe → oe.cls = .type "StopIteration" → e ≠ zp := fun g1 g2 g3 q => by
    subst q
    rw [g1] at g2
    cases g2
    simp at g3
  rcases hend with ⟨n1, j1⟩ | ⟨n1, j1, n2, j2⟩
  · refine wpAny_bind (n1.run hh (n1.st _ _ _ D.i1z D.l1z m1.extBut j1) fun k2 e m2 he => ?_)
    obtain ⟨oe, hoe, hce⟩ := he
    have gz2 : IsZip k2 zp TI TO .ellipsis := m2 _ _ (Ne.symm D.i1z) gz1
    refine wpAny_setField_rec gz2 (by simp) fun k3 _ m3 => hE k3 e (fun c o hc q => ?_) ⟨oe, m3.extBut _ _ (ez gz2 hoe hce) hoe, hce⟩
    simp at hc
    obtain ⟨c1, c2, c3, c4⟩ := hc
    exact m3.extBut _ _ c1 (m2 _ _ c3 (m1.extBut _ _ c1 q))
  · refine wpAny_bind (n1.run (n1.st _ _ _ D.i1z D.l1z m1.extBut j1) fun k2 _ m2 => wpAny_pure ?_)
    have gO2 : PySem.IsPair k2 TO a b := m2.extBut _ _ D.TOi1 (m1.extBut _ _ D.TOz gO)
    refine wpAny_bind (wpAny_seqItems gO2 rfl ?_)
    refine wpAny_bind (wpAny_updateSeq_pair gO2 fun k3 gO3 m3 => ?_)
    refine wpAny_bind (wpAny_letGo (wpAny_pure ?_))
    refine wpAny_bind (wpAny_bind (wpAny_onRaise ?_))
    show wpAny _ _ (Builtin.SmallTypes.nextOf (Value.ref i2) >>= _) _ _ _
    have j2a := n2.st _ _ _ D.TOi2.symm D.l2TO m3.extBut (n2.st _ _ _ D.i12.symm D.l2i1 m2.extBut (n2.st _ _ _ D.i2z D.l2z m1.extBut j2))
    refine wpAny_bind (n2.run hh j2a fun k4 e m4 he => ?_)
    obtain ⟨oe, hoe, hce⟩ := he
    have gz4 : IsZip k4 zp TI TO .ellipsis := m4 _ _ (Ne.symm D.i2z) (m3.extBut _ _ (Ne.symm D.TOz) (m2.extBut _ _ (Ne.symm D.i1z) gz1))
    refine wpAny_setField_rec gz4 (by simp) fun k5 _ m5 => hE k5 e (fun c o hc q => ?_) ⟨oe, m5.extBut _ _ (ez gz4 hoe hce) hoe, hce⟩
    simp at hc
    obtain ⟨c1, c2, c3, c4⟩ := hc
    exact m5.extBut _ _ c1 (m4 _ _ c4 (m3.extBut _ _ c2 (m2.extBut _ _ c3 (m1.extBut _ _ c1 q))))
end
end G9

set_option Elab.async false
set_option linter.all false
set_option maxRecDepth 100000
set_option maxHeartbeats 2000000
namespace G9
open PySem PySem.Spec PyProof.Rows L2
section
variable {prog : Program} {w : World} {A : Around} {E : Value → Shared → Prop} {s : Shared} {zp TI TO i1 i2 l1 l2 : Addr} {J1 J1' J2 J2' : Heap → Prop} {x y a b : Value}
theorem nextM_item {Q : Option Value → Shared → Prop} (D : ZipApart zp TI TO i1 i2 l1 l2) (gz : IsZip s.heap zp TI TO .none) (gI : PySem.IsPair s.heap TI (.ref i1) (.ref i2)) (gO : PySem.IsPair s.heap TO a b) (n1 : NxI i1 l1 J1 J1' x) (n2 : NxI i2 l2 J2 J2' y) (j1 : J1 s.heap) (j2 : J2 s.heap)
    (hQ : ∀ h', IsZip h' zp TI TO (rawInt s.heap.objs.size) → PySem.IsPair h' TO x y → J1' h' → J2' h' → PySem.IsPair h' s.heap.objs.size x y → h'.objs.size = s.heap.objs.size + 1 →
      (∀ c o, c ∉ [zp, TO, i1, i2] → s.heap.get? c = some o → h'.get? c = some o) → Q (some (.ref s.heap.objs.size)) { s with heap := h' }) :
    wpAny (model prog w) A (pyNext (.ref zp)) Q E s := by
  have ty : s.TypeIs (.ref zp) "zip" := ⟨_, gz, rfl⟩
  unfold pyNext
  refine wpAny_bind (wpAny_attempt (wpAny_callSpecial?_slot (name := Str.ofString "__next__") ty F.slot_zip_next (wpAny_call_entry F.slot_zip_next ty F.entry_zip_next ?_ (F.args_zip_next_1 _))))
  exact zipM_item D gz gI gO n1 n2 j1 j2 fun h' a1 a2 a3 a4 a5 a6 a7 => wpAny_pure (hQ h' a1 a2 a3 a4 a5 a6 a7)
theorem nextM_end {Q : Option Value → Shared → Prop} (hh : A.handled = none) (D : ZipApart zp TI TO i1 i2 l1 l2) (gz : IsZip s.heap zp TI TO .none) (gI : PySem.IsPair s.heap TI (.ref i1) (.ref i2)) (gO : PySem.IsPair s.heap TO a b)
    (hend : (NxE i1 l1 J1 ∧ J1 s.heap) ∨ (NxI i1 l1 J1 J1' x ∧ J1 s.heap ∧ NxE i2 l2 J2 ∧ J2 s.heap))
    (hQ : ∀ h', (∀ c o, c ∉ [zp, TO, i1, i2] → s.heap.get? c = some o → h'.get? c = some o) → Q none { s with heap := h' }) : wpAny (model prog w) A (pyNext (.ref zp)) Q E s := by
  have ty : s.TypeIs (.ref zp) "zip" := ⟨_, gz, rfl⟩
  unfold pyNext
  refine wpAny_bind (wpAny_attempt (wpAny_callSpecial?_slot (name := Str.ofString "__next__") ty F.slot_zip_next (wpAny_call_entry F.slot_zip_next ty F.entry_zip_next ?_ (F.args_zip_next_1 _))))
  refine zipM_end hh D gz gI gO hend fun h' e kp he => ?_
  obtain ⟨o, ho, hc⟩ := he
  exact wpAny_bind (wpAny_isInstance (T := "StopIteration") (b := true) ⟨o, ho, hc⟩ isSubtype_stop (wpAny_pure (hQ _ kp)))
end
/-- what is told of a list and a tuple walked together -/
def ItzM (K : PySem.W.Frag) (a b : Addr) : It where
  go := fun i H => ∃ (xs ys : List V) (x y : V), SqL K H a xs ∧ SqT K H b ys ∧ xs[i]? = some x ∧ ys[i]? = some y
  yld := fun i H v H' => ∃ T x y, v = .ref T ∧ H T = none ∧ H' = upd H T (.tup [x, y]) ∧ (∀ xs, SqL K H a xs → xs[i]? = some x) ∧ ∀ ys, SqT K H b ys → ys[i]? = some y
  stop := fun i H => ∃ xs ys : List V, SqL K H a xs ∧ SqT K H b ys ∧ (xs.length ≤ i ∨ ys.length ≤ i)
theorem five {c zp TI TO i1 i2 : Addr} (h : c ∈ [zp, TI, TO, i1, i2]) : c = zp ∨ c = TI ∨ c = TO ∨ c = i1 ∨ c = i2 := by simpa using h
theorem turn_zipM {P : Program} {w : World} {K : PySem.W.Frag} {elts : List Expr} {kk : Nat} {tpos : Pos} {a b zp TI TO i1 i2 : Addr} (D : ZipApart zp TI TO i1 i2 a b) :
    Turn P w K (.Tuple elts kk tpos) (ItzM K a b) [zp, TI, TO, i1, i2] zp (fun i h => IsZip h zp TI TO .none ∧ PySem.IsPair h TI (.ref i1) (.ref i2) ∧ (∃ x y, PySem.IsPair h TO x y) ∧ h.IsListIter i1 a i ∧ h.IsTupleIter i2 b i) where
  mem := List.mem_cons_self
  obj := fun i h st c hc => by
    obtain ⟨gz, gI, ⟨u, v, gO⟩, ⟨o1, e1, _, d1⟩, ⟨o2, e2, _, d2⟩⟩ := st
    rcases five hc with rfl | rfl | rfl | rfl | rfl
    · exact ⟨_, gz, nofun⟩
    · exact ⟨_, gI, nofun⟩
    · exact ⟨_, gO, nofun⟩
    · exact ⟨o1, e1, fun v q => by rw [d1] at q; cases q⟩
    · exact ⟨o2, e2, fun v q => by rw [d2] at q; cases q⟩
  keep := fun i h h' st k => by
    obtain ⟨gz, gI, ⟨u, v, gO⟩, q1, q2⟩ := st
    exact ⟨k zp (by simp) _ gz, k TI (by simp) _ gI, ⟨u, v, k TO (by simp) _ gO⟩, q1.at fun o q => k i1 (by simp) o q, q2.at fun o q => k i2 (by simp) o q⟩
  item := by
    intro X hP hw hK hc i pins s σ H E I hf st hg
    subst hP hw hK
    obtain ⟨gz, gI, ⟨u0, v0, gO⟩, q1, q2⟩ := st
    obtain ⟨xs, ys, x, y, sx, sy, hx, hy⟩ := hg
    obtain ⟨its, rv, p1, _⟩ := I.list sx
    obtain ⟨its2, rv2, p2, _⟩ := I.tuple sy
    obtain ⟨u, hu, ru⟩ := rv.get hx
    obtain ⟨v, hv, rv'⟩ := rv2.get hy
    have zl : zp < s.heap.objs.size := Heap.lt_size gz
    refine nextM_item D gz gI gO (JL.nx (xs := its.toArray) (x := u) (by simpa using hu) D.l1i1) (JT.nx (xs := its2.toArray) (x := v) (by simpa using hv) D.l2i2) ⟨q1, p1.isList⟩ ⟨q2, p2⟩ fun h' gz' gO' j1 j2 gT esz kp => ?_
    refine ⟨_, rfl, wpAny_letOwnedTupleGo_zip (s := { s with heap := h' }) gz' fun h2 gz2 sb => ?_⟩
    have gT2 : h2.get? s.heap.objs.size = some { cls := .type "tuple", data := .seq #[u, v] } := (sb.2 _ (Nat.ne_of_gt zl)).trans gT
    have new : ObjOk X.prog X.w (upd H s.heap.objs.size (.tup [x, y])) h2 s.heap.objs.size (.tup [x, y]) :=
      ⟨Nat.le_trans (show 2 ≤ BIG by decide) big_le, [u, v], .cons ru (.cons rv' .nil), ⟨_, gT2, rfl, _, rfl⟩⟩
    have kp2 : ∀ c o, c ∉ [zp, TI, TO, i1, i2] → s.heap.get? c = some o → h2.get? c = some o := fun c o hb q => by
      have c1 : c ≠ zp := fun z => hb (by simp [z])
      refine (sb.2 c c1).trans (kp c o (fun z => hb ?_) q)
      simp at z ⊢
      rcases z with z | z | z | z <;> simp [z]
    have J := I.turnedNew (t' := s.toks) (ch := [zp, TI, TO, i1, i2]) kp2 hf (Nat.le_refl _) new
    refine ⟨.ref s.heap.objs.size, _, J, rfl, ⟨_, x, y, rfl, I.hok.fresh (Nat.le_refl _), rfl, fun l hl => by rw [I.list_inj hl sx]; exact hx, fun l hl => by rw [I.tuple_inj hl sy]; exact hy⟩, ⟨gz2, ?_, ⟨u, v, (sb.2 _ D.TOz).trans gO'⟩, j1.1.at fun o q => (sb.2 _ D.i1z).trans q, j2.1.at fun o q => (sb.2 _ D.i2z).trans q⟩, fun c hcm => ?_⟩
    · refine (sb.2 _ D.TIz).trans (kp _ _ (fun z => ?_) gI)
      simp at z
      rcases z with z | z | z | z
      · exact D.TIz z
      · exact D.TITO z
      · exact D.TIi1 z
      · exact D.TIi2 z
    · have hlt : c < s.heap.objs.size := by
        obtain ⟨_, e1, _⟩ := q1
        obtain ⟨_, e2, _⟩ := q2
        rcases five hcm with rfl | rfl | rfl | rfl | rfl
        · exact zl
        · exact Heap.lt_size gI
        · exact Heap.lt_size gO
        · exact Heap.lt_size e1
        · exact Heap.lt_size e2
      rw [upd_ne (Nat.ne_of_lt hlt)]
      exact (hf c hcm).1
  done := by
    intro X hP hw hK hc i pins s σ H E I hf st hg
    subst hP hw hK
    obtain ⟨gz, gI, ⟨u0, v0, gO⟩, q1, q2⟩ := st
    obtain ⟨xs, ys, sx, sy, hend⟩ := hg
    obtain ⟨its, rv, p1, _⟩ := I.list sx
    obtain ⟨its2, rv2, p2, _⟩ := I.tuple sy
    have e1 := rv.length
    have e2 := rv2.length
    have fin : ∀ h' : Heap, (∀ c o, c ∉ [zp, TO, i1, i2] → s.heap.get? c = some o → h'.get? c = some o) → ∀ c o, c ∉ [zp, TI, TO, i1, i2] → s.heap.get? c = some o → h'.get? c = some o := fun h' kp c o hb q => kp c o (fun z => hb (by simp at z ⊢; rcases z with z | z | z | z <;> simp [z])) q
    by_cases hx : xs.length ≤ i
    · exact nextM_end (J1' := fun _ => True) (J2 := fun _ => True) (x := .none) (I.ok.hd hc) D gz gI gO (.inl ⟨JL.ex (xs := its.toArray) (by simp; omega), q1, p1.isList⟩) fun h' kp => ⟨rfl, I.turnedL (t' := s.toks) (fin h' kp) hf⟩
    · have hy : ys.length ≤ i := by omega
      have hu : its.toArray[i]? = some (its[i]'(by omega)) := by simp
      exact nextM_end (I.ok.hd hc) D gz gI gO (.inr ⟨JL.nx hu D.l1i1, ⟨q1, p1.isList⟩, JT.ex (xs := its2.toArray) (by simp; omega), q2, p2⟩) fun h' kp => ⟨rfl, I.turnedL (t' := s.toks) (fin h' kp) hf⟩
  self := fun A i s Q E st h => wpAny_pyIter_zip st.1 h
/-! the call -/
abbrev zM1 (h : Heap) (p : Addr) : Heap := h.push { cls := .type "list_iterator", data := .fields #[.ref p, .int 0 0] }
abbrev zM2 (h : Heap) (p q : Addr) : Heap := (zM1 h p).push { cls := .type "tuple_iterator", data := .fields #[.ref q, .int 0 0] }
abbrev zM3 (h : Heap) (p q : Addr) : Heap := (zM2 h p q).push { cls := .type "tuple", data := .seq #[.ref h.objs.size, .ref (zM1 h p).objs.size] }
abbrev zM4 (h : Heap) (p q : Addr) : Heap := (zM3 h p q).push { cls := .type "tuple", data := .seq #[.none, .none] }
abbrev zM5 (h : Heap) (p q : Addr) : Heap := (zM4 h p q).push { cls := .type "zip", data := .fields #[.none, .bool false, .bool false, .ref (zM2 h p q).objs.size, .ref (zM3 h p q).objs.size] }
theorem meets_zipM (p q : Addr) (xs ys : Array Value) :
    Meets (Builtin.«zip.__new__» ⟨[.type "zip", .ref p, .ref q], []⟩) (fun _ R s => s.heap.IsList p xs ∧ s.heap.IsTuple q ys ∧ R (.ok (.ret (.ref (zM4 s.heap p q).objs.size))) { s with heap := zM5 s.heap p q }) :=
  .of_wp fun prog w A R s h => by
    obtain ⟨hp, g, d, tk, os⟩ := s
    obtain ⟨f1, f2, h⟩ := h
    have hsub := sub_zip
    have L1 : Heap.IsList (Shared.heap ⟨hp, g, d, tk, os⟩) p xs := f1
    have L2 : Heap.IsTuple (Shared.heap ⟨zM1 hp p, g, d, tk, os⟩) q ys := Heap.IsTuple.push f2 _
    wp_walk using wpAny_pyIter_list L1, wpAny_pyIter_tuple L2
    exact ⟨_, rfl, h⟩
theorem call_zipM {prog : Program} {w : World} {A : Around} {E : Value → Shared → Prop} {s : Shared} {p q : Addr} {xs ys : Array Value} {Q : Value → Shared → Prop} (f1 : s.heap.IsList p xs) (f2 : s.heap.IsTuple q ys)
    (h : ∀ h', IsZip h' (s.heap.objs.size + 4) (s.heap.objs.size + 2) (s.heap.objs.size + 3) .none → PySem.IsPair h' (s.heap.objs.size + 2) (.ref s.heap.objs.size) (.ref (s.heap.objs.size + 1)) →
      PySem.IsPair h' (s.heap.objs.size + 3) .none .none → h'.IsListIter s.heap.objs.size p 0 → h'.IsTupleIter (s.heap.objs.size + 1) q 0 → (∀ c o, s.heap.get? c = some o → h'.get? c = some o) → Q (.ref (s.heap.objs.size + 4)) { s with heap := h' }) :
    wpAny (model prog w) A (call (.type "zip") [.ref p, .ref q]) Q E s := by
  refine callType_new F.called_zip (by decide) (F.typeCall_zip_2 _ _) (F.newCall_zip_2 _ _) (fun obj => F.args_object_init_3 obj _ _) F.entry_zip_new (meets_zipM p q xs ys) ⟨f1, f2, ?_⟩
  have k1 : (zM1 s.heap p).objs.size = s.heap.objs.size + 1 := Heap.size_push ..
  have k2 : (zM2 s.heap p q).objs.size = s.heap.objs.size + 2 := (Heap.size_push ..).trans (by rw [k1])
  have k3 : (zM3 s.heap p q).objs.size = s.heap.objs.size + 3 := (Heap.size_push ..).trans (by rw [k2])
  have k4 : (zM4 s.heap p q).objs.size = s.heap.objs.size + 4 := (Heap.size_push ..).trans (by rw [k3])
  have u5 : ∀ c o, (zM4 s.heap p q).get? c = some o → (zM5 s.heap p q).get? c = some o := fun c o e => Heap.get?_push_of_some _ e
  have u4 : ∀ c o, (zM3 s.heap p q).get? c = some o → (zM5 s.heap p q).get? c = some o := fun c o e => u5 c o (Heap.get?_push_of_some _ e)
  have u3 : ∀ c o, (zM2 s.heap p q).get? c = some o → (zM5 s.heap p q).get? c = some o := fun c o e => u4 c o (Heap.get?_push_of_some _ e)
  have u2 : ∀ c o, (zM1 s.heap p).get? c = some o → (zM5 s.heap p q).get? c = some o := fun c o e => u3 c o (Heap.get?_push_of_some _ e)
  have v5 : (zM5 s.heap p q).get? (zM4 s.heap p q).objs.size = some _ := Heap.get?_push_size _ rfl
  have v4 := u5 (zM3 s.heap p q).objs.size _ (Heap.get?_push_size _ rfl)
  have v3 := u4 (zM2 s.heap p q).objs.size _ (Heap.get?_push_size _ rfl)
  have v2 := u3 (zM1 s.heap p).objs.size _ (Heap.get?_push_size _ rfl)
  have v1 := u2 s.heap.objs.size _ (Heap.get?_push_size _ rfl)
  show _ ∧ _
  rw [k2, k3, k4] at v5
  rw [k1, k2] at v3
  rw [k3] at v4
  rw [k1] at v2
  rw [k4]
  exact ⟨⟨_, v5, rfl⟩, h _ v5 v3 v4 ⟨_, v1, rfl, rfl⟩ ⟨_, v2, rfl, rfl⟩ fun c o e => u2 c o (Heap.get?_push_of_some _ e)⟩
def iZipM (K : PySem.W.Frag) (ta : TA) : TI := fun σ H R => ta σ H fun vs H1 => ∃ a b xs ys, vs = [.ref a, .ref b] ∧ SqL K H1 a xs ∧ SqT K H1 b ys ∧ R (ItzM K a b) H1
theorem pi_zipM {X : Cx} {e e2 : Expr} {ta : TA} {p pos tpos : Pos} {elts : List Expr} {kk : Nat} (hg : Gl X "zip") (hm : X.mg "zip" = none) (ha : PA X [e, e2] ta)
    (hs : starEach [e, e2] X.env = (false, eval e X.env) :: starEach [e2] X.env := by rfl) (hpl : (backTo pos (starEach [e2] X.env)).any (·.1) = false := by rfl) :
    PI X (.Tuple elts kk tpos) (.Call (.Name "zip" p) [e, e2] [] pos) (iZipM X.K ta) := by
  refine ⟨fun pins s σ H R I h => ?_⟩
  refine Call_ (ld_blt I hg hm PyProof.Rows.boot_zip (PyProof.Rows.callWith_type1 (thn (ha.run pos pins s σ H _ I h) fun us s1 hh => ?_) hs hpl))
  obtain ⟨vs, H1, I1, r1, a, b, xs, ys, ev, hx, hy, q⟩ := hh
  subst ev
  obtain ⟨u, v, rfl, ru, rv⟩ := vals2 r1
  cases ru
  cases rv
  obtain ⟨its, r2, p1, _⟩ := I1.list hx
  obtain ⟨its2, r3, p2, _⟩ := I1.tuple hy
  obtain ⟨o2, ho2, _⟩ := id p2
  refine call_zipM (xs := its.toArray) (ys := its2.toArray) p1.isList p2 fun h' gz gI gO q1 q2 kp => wpAny_pyIter_zip gz ?_
  have J : Inv X pins σ H1 { s1 with heap := h' } := I1.kept (t' := s1.toks) kp
  refine ⟨s1.heap.objs.size + 4, [s1.heap.objs.size + 4, s1.heap.objs.size + 2, s1.heap.objs.size + 3, s1.heap.objs.size, s1.heap.objs.size + 1], _, _, H1, rfl, J, turn_zipM (PySem.W.ktu_apart s1.heap.objs.size a b p1.lt (Heap.lt_size ho2)), ⟨gz, gI, ⟨_, _, gO⟩, q1, q2⟩, fun c hc => ?_, q⟩
  have hle : s1.heap.objs.size ≤ c := by
    rcases five hc with rfl | rfl | rfl | rfl | rfl <;> omega
  exact I1.fpOk hle (I1.hok.fresh hle)
def zipD (xs ys : List D) : List D := List.zipWith (fun d e => .tup [d, e]) xs ys
theorem zipD_get {xs ys : List D} {i : Nat} {d : D} (e : (zipD xs ys)[i]? = some d) : ∃ x y, xs[i]? = some x ∧ ys[i]? = some y ∧ d = .tup [x, y] := by
  unfold zipD at e
  rw [List.getElem?_zipWith] at e
  cases q : xs[i]? with
  | none => simp [q] at e
  | some x =>
    cases q2 : ys[i]? with
    | none => simp [q, q2] at e
    | some y =>
      simp [q, q2] at e
      exact ⟨x, y, rfl, rfl, e.symm⟩
def fItZM (a b : EE) : EI := fun s h => (a s h).bind fun x h1 => (b s h1).bind fun y h2 => match x, y with
  | .ref n, .tup ys => (match h2[n]? with
    | some (.lst xs) => .ok (zipD xs ys, [(n, .lst xs)]) h2
    | _ => .bad)
  | _, _ => .bad
section
variable {K : PySem.W.Frag} {m1 : Mp} {H1 : Hp} {h1 : HC}
theorem walkS_zipM {n : Nat} {a b : Addr} {xs ys : List D} {us : List V} (S1 : Sm K m1 h1 H1) (ha : m1.ad[n]? = some a) (hb : H1 b = some (.tup us)) (r : RelDs m1 H1 ys us) : WalkS K m1 H1 (ItzM K a b) (zipD xs ys) [(n, .lst xs)] := fun m' h' H' E S c => by
  obtain ⟨vs, hv, hr⟩ := S.cell n _ a (chk_one c) (E.le n a ha)
  have hq : SqL K H' a vs := SqL.of hv
  have hq2 : SqT K H' b us := SqT.of (S1.kept E b us hb)
  have hr2 := r.mono S1 E
  refine ⟨fun i d e => ?_, ⟨vs, us, hq, hq2, ?_⟩⟩
  · obtain ⟨x, y, ex, ey, rfl⟩ := zipD_get e
    obtain ⟨v, hv2, hd⟩ := hr.get ex
    obtain ⟨u, hu2, hd2⟩ := hr2.get ey
    refine ⟨⟨vs, us, v, u, hq, hq2, hv2, hu2⟩, fun t H'' yl => ?_⟩
    obtain ⟨T, x', y', rfl, hT, rfl, h1, h2⟩ := yl
    have e1 := h1 vs hq
    have e2 := h2 us hq2
    rw [hv2] at e1
    rw [hu2] at e2
    cases e1
    cases e2
    exact pair_new S hT hd hd2
  · have e1 := hr.len
    have e2 := hr2.len
    simp only [zipD, List.length_zipWith]
    omega
end
section
variable {X : Cx} {W : WX} {e e2 : Expr} {fa fb : EE} {p pos tpos : Pos} {elts : List Expr} {kk : Nat}
theorem si_zipM (hm : X.mg "zip" = none) (ha : PE X e (rE X.K W fa)) (hb : PE X e2 (rE X.K W fb)) (hg : Gl X "zip" := by rfl) (hs : starEach [e, e2] X.env = (false, eval e X.env) :: starEach [e2] X.env := by rfl) (hs2 : starEach [e2] X.env = (false, eval e2 X.env) :: starEach [] X.env := by rfl) (hpl : (backTo pos (starEach [e2] X.env)).any (·.1) = false := by rfl) :
    PI X (.Tuple elts kk tpos) (.Call (.Name "zip" p) [e, e2] [] pos) (rI X.K W (fItZM fa fb)) := PIw (pi_zipM hg hm (pa_cons ha (pa_cons hb pa_nil hs2) hs) hs hpl) fun σ H R q => by
  obtain ⟨m, s, h, S, r, p⟩ := q
  refine ⟨m, s, h, S, r, ?_⟩
  unfold fItZM at p
  cases e1 : fa s h with
  | ok d1 h1 =>
    rw [e1] at p
    intro m1 H1 v1 E1 S1 r1
    refine ⟨m1, s, h1, S1, r.mono S E1, ?_⟩
    dsimp only [Res.bind] at p
    cases e2 : fb s h1 with
    | ok d2 h2 =>
      rw [e2] at p
      intro m2 H2 v2 E2 S2 r2
      dsimp only at p
      have r1' := r1.mono S1 E2
      cases d1 with
      | ref n =>
        cases d2 with
        | tup ys =>
          dsimp only at p
          simp only [RelD] at r1' r2
          obtain ⟨a, ha, rfl⟩ := r1'
          obtain ⟨b, us, rfl, hb, hr⟩ := r2
          obtain ⟨c, hc, hcc⟩ := S2.at_ ha
          rw [hc] at p
          cases c with
          | lst xs =>
            obtain ⟨vs, hv, _⟩ := hcc
            exact ⟨a, b, vs, us, rfl, SqL.of hv, SqT.of hb, p m2 H2 _ (E1.trans E2) S2 (walkS_zipM S2 ha hb hr)⟩
          | _ => exact p.elim
        | _ => exact p.elim
      | _ => exact p.elim
    | exc c h2 => rw [e2] at p; exact fun m' H' E' S' => p m' H' (E1.trans E') S'
    | bad => rw [e2] at p; exact p.elim
  | exc c h1 => rw [e1] at p; exact p
  | bad => rw [e1] at p; exact p.elim
end
end G9

set_option Elab.async false
set_option linter.all false
set_option maxRecDepth 100000
set_option maxHeartbeats 2000000
namespace G9
open PySem PySem.Spec PyProof.Rows L2
/-! ### sorted, of any data that can be compared -/
def sortBy {α : Type} (xs : List α) (ps : List PyData) : List α := ((xs.zip ps).mergeSort (PySem.W.dataLe false Prod.snd)).map Prod.fst
def rSortDat (K : PySem.W.Frag) : List V → Hp → VK → Prop := fun vs H Q => ∃ (a : Addr) (xs : List V) (ds : List PyData), vs = [V.ref a] ∧ SqL K H a xs ∧ DpAll K H xs ds ∧ PySem.W.AllAlike ds ∧ PySem.W.Sortable ds ∧ (∀ d ∈ ds, d.depth ≤ 9) ∧
  ∀ p, H p = none → Q (.ref p) (upd H p (.lst (sortBy xs ds)))
theorem DpAll.len {K : PySem.W.Frag} {H : Hp} : ∀ {vs : List V} {ds : List PyData}, DpAll K H vs ds → vs.length = ds.length
  | _, _, .nil => rfl
  | _, _, .cons _ t => by simp [DpAll.len t]
theorem each_zip {vs : List V} {us : List Value} (h : Vals vs us) : ∀ {ds : List PyData}, vs.length = ds.length → PySem.W.EachIs (fun u (b : V × PyData) => RelV b.1 u) us (vs.zip ds) := by
  induction h with
  | nil => intro ds _; simpa using PySem.W.EachIs.nil
  | cons r t ih =>
    intro ds e
    cases ds with
    | nil => simp at e
    | cons d ds => exact .cons r (ih (by simpa using e))
theorem each_reads {h : Heap} : ∀ {us : List Value} {vs : List V} {ds : List PyData} {as : List Addr}, ReadsAll h us ds as → us.length = vs.length → vs.length = ds.length → PySem.W.EachIs (fun u (b : V × PyData) => ∃ as, Reads h u b.2 as) us (vs.zip ds)
  | [], [], [], _, _, _, _ => .nil
  | u :: us, v :: vs, d :: ds, _, r, e1, e2 => by
    cases r with
    | cons r1 r2 => exact .cons ⟨_, r1⟩ (each_reads r2 (by simpa using e1) (by simpa using e2))
  | [], _ :: _, _, _, _, e, _ => by simp at e
  | _ :: _, [], _, _, _, e, _ => by simp at e
  | [], [], _ :: _, _, _, _, e => by simp at e
  | _ :: _, _ :: _, [], _, _, _, e => by simp at e
theorem each_vals {us : List Value} {bs : List (V × PyData)} (h : PySem.W.EachIs (fun u (b : V × PyData) => RelV b.1 u) us bs) : Vals (bs.map Prod.fst) us := by
  induction h with
  | nil => exact .nil
  | cons r t ih => exact .cons r ih
theorem zip_snd {vs : List V} {ds : List PyData} (e : vs.length = ds.length) : (vs.zip ds).map Prod.snd = ds := List.map_snd_zip (by omega)
theorem sortBy_len {α : Type} {xs : List α} {ps : List PyData} (e : xs.length = ps.length) : (sortBy xs ps).length = xs.length := by
  simp [sortBy, List.length_mergeSort]
  omega
theorem cr_sortDat {X : Cx} (hu : X.A.units + 65 < cLine) : CallR X (.builtin "sorted") (rSortDat X.K) := by
  intro pins s σ H vs us Q I r h
  obtain ⟨a, xs, ds, rfl, hs, hd, hal, hk, hdp, q⟩ := h
  obtain ⟨its, rv, hl, hz⟩ := I.list hs
  obtain ⟨u, rfl, ru⟩ := vals1 r
  obtain rfl : u = Value.ref a := ru
  have el := DpAll.len hd
  obtain ⟨as, hr⟩ := Dp.readsAll I ds xs its hd rv
  have eb : (xs.zip ds).length = its.length := by rw [List.length_zip, ← rv.length]; omega
  refine PySem.W.sorted_data (R := fun u (b : V × PyData) => RelV b.1 u) (bs := xs.zip ds) (enc := Prod.snd) (vs := its) hl.isList (each_zip rv el) (each_reads hr rv.length.symm el) (by rw [zip_snd el]; exact hal) (by rw [zip_snd el]; exact hk) (by rw [eb, ← rv.length]; exact hz) (fun b hb => ?_) fun out hlen he => ?_
  · have : b.2 ∈ ds := by
      have := List.mem_map_of_mem (f := Prod.snd) hb
      rwa [zip_snd el] at this
    have := hdp _ this
    omega
  · obtain ⟨n, hn⟩ := sortedAll_at s.heap its out.toArray
    have hv : Vals (sortBy xs ds) out := each_vals he
    refine ⟨.ref (s.heap.objs.size + 1), upd H (s.heap.objs.size + 1) (.lst (sortBy xs ds)), I.laid (t' := s.toks) (fun b o e => sortedAll_old e) (Nat.le_succ _) ⟨?_, out, n, hv, hn⟩, rfl, q _ (I.hok.fresh (Nat.le_succ _))⟩
    rw [sortBy_len el]
    exact hz
def alikeB (ps : List PyData) : Bool := ps.all fun p => ps.all fun q => PySem.W.alike p q
def isTup1 : PyData → Bool
  | .tuple (_ :: _) => true
  | _ => false
def isPlain : PyData → Bool
  | .none => false
  | .tuple _ => false
  | _ => true
def sortableB (ps : List PyData) : Bool := ps.all isTup1 || ps.all isPlain
theorem sortableB_ok {ps : List PyData} (h : sortableB ps = true) : PySem.W.Sortable ps := by
  rcases Bool.or_eq_true_iff.mp h with h | h
  · refine .inl fun d hd => ?_
    have := List.all_eq_true.mp h d hd
    unfold isTup1 at this
    split at this
    · exact ⟨_, _, rfl⟩
    · cases this
  · refine .inr fun d hd => ?_
    have := List.all_eq_true.mp h d hd
    unfold isPlain at this
    split at this
    · cases this
    · cases this
    · rename_i h1 h2
      exact ⟨h1, h2⟩
def bSortD : List D → HC → Res D
  | [.ref n], h => (match asSeq h n with
    | some xs => (match optAll (xs.map (toPy h 8)) with
      | some ps => if alikeB ps = true ∧ sortableB ps = true then newL (sortBy xs ps) h else .bad
      | none => .bad)
    | none => .bad)
  | _, _ => .bad
theorem RelDs.zipE {m : Mp} {H : Hp} : ∀ {ds : List D} {vs : List V} {ps : List PyData}, RelDs m H ds vs → PySem.W.EachIs (fun (b : D × PyData) (c : V × PyData) => RelD m H b.1 c.1 ∧ b.2 = c.2) (ds.zip ps) (vs.zip ps)
  | [], vs, ps, r => by
    simp only [RelDs] at r
    subst r
    simpa using PySem.W.EachIs.nil
  | d :: ds, vs, ps, r => by
    simp only [RelDs] at r
    obtain ⟨v, vs', rfl, h1, h2⟩ := r
    cases ps with
    | nil => simpa using PySem.W.EachIs.nil
    | cons p ps => exact .cons ⟨h1, rfl⟩ (RelDs.zipE h2)
theorem each_rel {m : Mp} {H : Hp} {as : List (D × PyData)} {bs : List (V × PyData)} (h : PySem.W.EachIs (fun (b : D × PyData) (c : V × PyData) => RelD m H b.1 c.1 ∧ b.2 = c.2) as bs) : RelDs m H (as.map Prod.fst) (bs.map Prod.fst) := by
  induction h with
  | nil => exact .nil
  | cons r t ih => exact .cons r.1 ih
theorem cs_sortD {K : PySem.W.Frag} : ClS K (rSortDat K) bSortD := by
  intro W σ m h H ds vs Q S r p
  unfold bSortD at p
  split at p
  · split at p
    · rename_i n h xs hx
      split at p
      · rename_i ps hp
        split at p
        · rename_i hc
          obtain ⟨v, rfl, rv⟩ := r.one
          obtain ⟨a, us, rfl, _, hs, hr⟩ := S.seq rv hx
          have hd := optAll_dp (K := K) (fun d v p => toPy_ok S 8 d v p) xs us ps hr hp
          have hlay := optAll_lay (fun d p => toPy_lay 8 d p) xs ps hp
          have hrel : RelDs m H (sortBy xs ps) (sortBy us ps) := each_rel (PySem.W.sort_each hr.zipE fun b hb c hc' => by
            have h1 := hr.zipE (ps := ps)
            have e1 := (h1.zip b hb).2
            have e2 := (h1.zip c hc').2
            simp only [PySem.W.dataLe_eq, e1, e2])
          refine newL_ok S hrel p fun _ g => ⟨a, us, ps, rfl, hs, hd, ?_, sortableB_ok hc.2, ?_, g⟩
          · intro d hd1 d' hd2
            exact List.all_eq_true.mp (List.all_eq_true.mp hc.1 d hd1) d' hd2
          · intro d hd1
            have : ∀ (l : List PyData) (n : Nat), PyData.depthAll l ≤ n → ∀ d ∈ l, d.depth ≤ n := by
              intro l
              induction l with
              | nil => intro n _ d hd; simp at hd
              | cons x l ih =>
                intro n hn d hd
                simp only [PyData.depthAll] at hn
                rcases List.mem_cons.mp hd with rfl | hd
                · omega
                · exact ih n (by omega) d hd
            have := this ps 8 hlay.2 d hd1
            omega
        · exact p.elim
      · exact p.elim
    · exact p.elim
  · exact p.elim
end G9

set_option Elab.async false
set_option linter.all false
set_option maxRecDepth 100000
set_option maxHeartbeats 2000000
namespace G9
open PySem PySem.Spec PyProof.Rows L2
/-- sorted: ints, pairs of ints, else any data -/
def bSortA (as : List D) (h : HC) : Res D := match bSorted as h with
  | .bad => bSortD as h
  | r => r
theorem cs_sortA {K : PySem.W.Frag} : ClS K (fun vs H Q => rSortedAll K vs H Q ∨ rSortDat K vs H Q) bSortA := by
  intro W σ m h H ds vs Q S r p
  unfold bSortA at p
  cases e : bSorted ds h with
  | bad => rw [e] at p; exact .inr (cs_sortD W σ m h H ds vs Q S r p)
  | ok d h1 => rw [e] at p; exact .inl (newL_sorted W σ m h H ds vs Q S r (by rw [e]; exact p))
  | exc c h1 => rw [e] at p; exact .inl (newL_sorted W σ m h H ds vs Q S r (by rw [e]; exact p))
section
variable {X : Cx} {W : WX} {e : Expr} {es : List Expr} {as : EA} {p pos : Pos} {k : Nat}
theorem xsortA (hr : Room k X.A) (hm : X.mg "sorted" = none) (ha : PA X (e :: es) (rA X.K W as)) (hg : Gl X "sorted" := by rfl) (he : starEach (e :: es) X.env = (false, eval e X.env) :: starEach es X.env := by rfl) (hpl : (backTo pos (starEach es X.env)).any (·.1) = false := by rfl) :
    PE X (.Call (.Name "sorted" p) (e :: es) [] pos) (rE X.K W (fCl bSortA as)) := se_clB (CallR.or call_sortedAll (cr_sortDat (hu65 hr))) cs_sortA hm bt_sorted ha hg (by decide) (by decide) he hpl
end
theorem tabs_nil {K : PySem.W.Frag} : ∀ r ∈ ([] : List (Str × Str × Bool)), PySem.W.exmOne K (.ref (He.ga K r.1)) (.ref (He.ga K r.2.1)) = some r.2.2 := fun r h => by simp at h
theorem tabs_cons {K : PySem.W.Frag} {c y : Str} {b : Bool} {l : List (Str × Str × Bool)} (h : PySem.W.exmOne K (.ref (He.ga K c)) (.ref (He.ga K y)) = some b) (t : ∀ r ∈ l, PySem.W.exmOne K (.ref (He.ga K r.1)) (.ref (He.ga K r.2.1)) = some r.2.2) :
    ∀ r ∈ (c, y, b) :: l, PySem.W.exmOne K (.ref (He.ga K r.1)) (.ref (He.ga K r.2.1)) = some r.2.2 := fun r hr => by
  rcases List.mem_cons.mp hr with rfl | hr
  · exact h
  · exact t r hr
/-! ### list.index -/
def idxOf (ds : List PyData) (d : PyData) : Option Nat := ds.findIdx? fun z => PyData.eqv z d
def mIndex : D → List D → HC → Res D
  | .ref n, [y], h => (match toPy h 9 (.ref n), toPy h 9 y with
    | some (.list ds), some d => (match idxOf ds d with
      | some j => .ok (.int (j : Int)) h
      | none => .bad)
    | _, _ => .bad)
  | _, _, _ => .bad
theorem ms_index {K : PySem.W.Frag} : MtS K (rIndexD K) mIndex := by
  intro W σ m h H d ds v vs Q S rd r p
  unfold mIndex at p
  split at p
  · split at p
    · rename_i n y h ps z e1 e2
      split at p
      · rename_i j hj
        obtain ⟨u, rfl, ru⟩ := r.one
        have rd' := rd
        simp only [RelD] at rd'
        obtain ⟨a, ha, rfl⟩ := rd'
        have q1 := toPy_ok S _ _ _ _ rd e1
        have q2 := toPy_ok S _ _ _ _ ru e2
        obtain ⟨hlt, hy, hno⟩ := List.findIdx?_eq_some_iff_getElem.mp hj
        refine ⟨a, u, z, ps, j, ps[j], rfl, rfl, q1, q2, toPy_shaped (by decide) e1, toPy_shaped (by decide) e2, List.getElem?_eq_getElem hlt, hy, fun i z' hi e => ?_, p _ _ _ Ext.refl S (by simp [RelD])⟩
        have hi2 : i < ps.length := by omega
        rw [List.getElem?_eq_getElem hi2] at e
        cases e
        simpa using hno i hi
      · exact p.elim
    · exact p.elim
  · exact p.elim
/-! ### x, y = a, b -/
def fPar (i j : Nat) (as : EA) : ES := fun s h => ofR s (as s h) fun xs h1 => match xs with
  | [a, b] => .nx ((s.set i (some a)).set j (some b)) h1
  | _ => .bad
section
variable {X : Cx} {W : WX}
theorem ss_par {i j : Nat} {x y : Str} {a b : Expr} {as : EA} {px py pt pos : Pos} {kt k2 pt2} (hc : X.calm = true) (hN : X.N.Nodup) (ha : PA X [a, b] (rA X.K W as)) (hi : X.N[i]? = some x := by rfl) (hj : X.N[j]? = some y := by rfl) (hij : i ≠ j := by decide)
    (hx : X.env.scope.names.lookup x = some .local := by rfl) (hy : X.env.scope.names.lookup y = some .local := by rfl)
    (hw : swappedStores [.Tuple [.Name x px, .Name y py] kt pt] (.Tuple [a, b] k2 pt2) X.env = pure (some [x, y]) := by rfl)
    (hs : swapsWithSole [.Tuple [.Name x px, .Name y py] kt pt] (.Tuple [a, b] k2 pt2) pos.line X.env = pure false := by rfl) :
    PS X (.Assign [.Tuple [.Name x px, .Name y py] kt pt] (.Tuple [a, b] k2 pt2) pos) (rS X.K W (fPar i j as)) :=
  PSw (ps_par hc hN hi hj hij hx hy ha hw hs) fun En σ H q => by
    refine rd_mono (rS_bind (R := RelDs) (f := as) (g := fun xs s h1 => match xs with | [a, b] => .nx ((s.set i (some a)).set j (some b)) h1 | _ => .bad) q) fun vs H1 ⟨m1, s, h1, d1, S1, r1, q1, p1⟩ => ?_
    split at p1
    · obtain ⟨v, w, rfl, rv, rw'⟩ := q1.two
      exact ⟨v, w, rfl, p1 _ _ _ Ext.refl S1 ((r1.set rv).set rw')⟩
    · exact p1.elim
end
end G9

set_option Elab.async false
set_option linter.all false
set_option maxRecDepth 100000
set_option maxHeartbeats 2000000
namespace G9
open PySem PySem.Spec PyProof.Rows L2
/-! ### dict(pairs) -/
def pairD : D → Option (Key × D)
  | .tup [k, v] => (toKey k).map fun k => (k, v)
  | _ => none
def pairsD (xs : List D) : Option (List (Key × D)) := optAll (xs.map pairD)
def bDict : List D → HC → Res D
  | [.ref n], h => (match asSeq h n with
    | some xs => (match pairsD xs with
      | some kvs => .ok (.ref h.length) (h ++ [.dk (mergeD kvs)])
      | none => .bad)
    | none => .bad)
  | _, _ => .bad
def rDictP (K : PySem.W.Frag) : List V → Hp → VK → Prop := fun xs H Q => ∃ (a : Addr) (ps : List Addr) (kvs : List (Key × V)), xs = [.ref a] ∧ SqL K H a (ps.map V.ref) ∧ Paired (fun p kv => SqT K H p [kV kv.1, kv.2]) ps kvs ∧
    ∀ p, H p = none → Q (.ref p) (upd H p (.dK (mergeK [] kvs)))
section
variable {K : PySem.W.Frag} {m : Mp} {h : HC} {H : Hp}
theorem pairD_ok {d : D} {kv : Key × D} {v : V} (e : pairD d = some kv) (r : RelD m H d v) : ∃ p w, v = .ref p ∧ H p = some (.tup [kV kv.1, w]) ∧ RelD m H kv.2 w := by
  unfold pairD at e
  split at e
  · rename_i k x
    cases q : toKey k with
    | none => simp [q] at e
    | some k' =>
      simp [q] at e
      subst e
      simp only [RelD] at r
      obtain ⟨p, vs, rfl, hp, hr⟩ := r
      simp only [RelDs] at hr
      obtain ⟨v1, vs1, rfl, r1, v2, vs2, rfl, r2, rfl⟩ := hr
      have := toKey_ok q r1
      subst this
      exact ⟨p, v2, rfl, hp, r2⟩
  · cases e
theorem pairsD_ok : ∀ {ds : List D} {kvs : List (Key × D)} {vs : List V}, pairsD ds = some kvs → RelDs m H ds vs → ∃ (ps : List Addr) (ws : List (Key × V)), vs = ps.map V.ref ∧ Paired (fun p (kv : Key × V) => SqT K H p [kV kv.1, kv.2]) ps ws ∧ RelK m H kvs ws
  | [], kvs, vs, e, r => by
    simp only [RelDs] at r
    simp [pairsD, optAll] at e
    subst e r
    exact ⟨[], [], rfl, .nil, rfl⟩
  | d :: ds, kvs, vs, e, r => by
    simp only [RelDs] at r
    obtain ⟨v, vs', rfl, r1, r2⟩ := r
    unfold pairsD at e
    rw [List.map_cons] at e
    cases q : pairD d with
    | none => simp [optAll, q] at e
    | some kv =>
      cases q2 : optAll (ds.map pairD) with
      | none => simp [optAll, q, q2] at e
      | some kvs' =>
        simp [optAll, q, q2] at e
        subst e
        obtain ⟨p, w, rfl, hp, hw⟩ := pairD_ok q r1
        obtain ⟨ps, ws, rfl, h1, h2⟩ := pairsD_ok (ds := ds) q2 r2
        refine ⟨p :: ps, (kv.1, w) :: ws, rfl, .cons (SqT.of hp) h1, ?_⟩
        simp only [RelK]
        exact ⟨_, _, rfl, rfl, hw, h2⟩
theorem RelK.mergeD_ : ∀ {more : List (Key × D)} {ms : List (Key × V)} {kvs : List (Key × D)} {vs : List (Key × V)}, RelK m H more ms → RelK m H kvs vs → RelK m H (more.foldl (fun acc kv => putD acc kv.1 kv.2) kvs) (ms.foldl (fun acc kv => putK acc kv.1 kv.2) vs)
  | [], ms, kvs, vs, r, q => by simp only [RelK] at r; subst r; exact q
  | x :: more, ms, kvs, vs, r, q => by
    simp only [RelK] at r
    obtain ⟨v, ws, rfl, hk, h1, h2⟩ := r
    rw [List.foldl_cons, List.foldl_cons, ← hk]
    exact RelK.mergeD_ h2 (q.put h1 _)
theorem cs_dict : ClS K (rDictP K) bDict := by
  intro W σ m h H ds vs Q S r p
  unfold bDict at p
  split at p
  · split at p
    · rename_i xs hx
      split at p
      · rename_i kvs hk
        obtain ⟨v, rfl, rv⟩ := r.one
        obtain ⟨a, us, rfl, _, hs, hr⟩ := S.seq rv hx
        obtain ⟨ps, ws, rfl, h1, h2⟩ := pairsD_ok (K := K) hk hr
        refine ⟨a, ps, ws, rfl, hs, h1, fun q hq => ?_⟩
        obtain ⟨S1, E1⟩ := S.newC (o := .dK (mergeK [] ws)) (c := .dk (mergeD kvs)) hq ⟨_, upd_same, RelK.mono_ (fun _ _ z => z) ⟨rfl, rfl⟩ (S.kept (S.newT (o := .dK (mergeK [] ws)) hq).2) _ _ (RelK.mergeD_ (kvs := []) (vs := []) h2 rfl)⟩
        refine p _ _ _ E1 S1 ?_
        simp only [RelD]
        exact ⟨q, by rw [S.len]; exact Mp.last, rfl⟩
      · exact p.elim
    · exact p.elim
  · exact p.elim
end
section
variable {X : Cx} {W : WX} {e : Expr} {es : List Expr} {as : EA} {p pos : Pos} {k : Nat}
theorem xdict (hc : X.calm = true) (hm : X.mg "dict" = none) (ha : PA X (e :: es) (rA X.K W as)) (hg : Gl X "dict" := by rfl) (he : starEach (e :: es) X.env = (false, eval e X.env) :: starEach es X.env := by rfl) (hpl : (backTo pos (starEach es X.env)).any (·.1) = false := by rfl) :
    PE X (.Call (.Name "dict" p) (e :: es) [] pos) (rE X.K W (fCl bDict as)) := se_clT (call_dictP hc) cs_dict hm (by decide +kernel) ha hg (by decide) (by decide) he hpl
end
end G9

set_option Elab.async false
set_option linter.all false
set_option maxRecDepth 100000
set_option maxHeartbeats 2000000
namespace G9
open PySem PySem.Spec PyProof.Rows L2
/-! ### list(range(n)) -/
def fListR (a : EE) : EE := fun s h => (a s h).bind fun x h1 => match x with
  | .int j => if 0 ≤ j ∧ j ≤ 100000 then .ok (.ref h1.length) (h1 ++ [.lst (rngD 0 j.toNat)]) else .bad
  | _ => .bad
theorem rel_rng {m : Mp} {H : Hp} {j : Int} : RelDs m H (rngD 0 j.toNat) (rgV 0 j) := by
  unfold rngD rgV
  rw [Int.sub_zero]
  generalize List.range j.toNat = l
  induction l with
  | nil => simp [RelDs]
  | cons x l ih =>
    rw [List.map_cons, List.map_cons]
    simp only [RelDs]
    exact ⟨_, _, rfl, by simp [RelD], ih⟩
section
variable {X : Cx} {W : WX} {a : Expr} {fa : EE} {p p2 pos q : Pos}
theorem se_listR (hc : X.calm = true) (hm : X.mg "list" = none) (hm2 : X.mg "range" = none) (ha : PE X a (rE X.K W fa)) (hg : Gl X "list" := by rfl) (hg2 : Gl X "range" := by rfl)
    (na : starEach [a] X.env = (false, eval a X.env) :: starEach [] X.env := by rfl) (nb : starEach [.Call (.Name "range" p2) [a] [] q] X.env = (false, eval (.Call (.Name "range" p2) [a] [] q) X.env) :: starEach [] X.env := by rfl) :
    PE X (.Call (.Name "list" p) [.Call (.Name "range" p2) [a] [] q] [] pos) (rE X.K W (fListR fa)) :=
  PEw (pe_listRg hc hg hm (prg_1 hg2 hm2 ha na) nb) fun σ H Q q => by
    refine rd_mono (rd_bind (R := RelD) (f := fa) (g := fun x s h1 => match x with | .int j => if 0 ≤ j ∧ j ≤ 100000 then .ok (D.ref h1.length) (h1 ++ [Cell.lst (rngD 0 j.toNat)]) else .bad | _ => .bad) q) fun x H1 ⟨m1, s, h1, d1, S1, r1, q1, p1⟩ => ?_
    split at p1
    · rename_i j
      split at p1
      · rename_i hj
        simp only [RelD] at q1
        refine ⟨j, q1, RgOk.of_le (by omega) (by omega) (by omega) hj.1, fun q hq => ?_⟩
        obtain ⟨S2, E2⟩ := S1.newC (o := .lst (rgV 0 j)) (c := .lst (rngD 0 j.toNat)) hq ⟨_, upd_same, rel_rng⟩
        refine p1 _ _ _ E2 S2 ?_
        simp only [RelD]
        exact ⟨q, by rw [S1.len]; exact Mp.last, rfl⟩
      · exact p1.elim
    · exact p1.elim
end
end G9

set_option Elab.async false
set_option linter.all false
set_option maxRecDepth 100000
set_option maxHeartbeats 2000000
namespace G9
open PySem PySem.Spec PyProof.Rows L2
/-! ### (number, text) >= (number, text); numbers -/
def geIS (a : Int) (x : Str) (b : Int) (y : Str) : Bool := if a = b then (if x = y then true else !decide (x.cps.toList < y.cps.toList)) else decide (b ≤ a)
def opGeA : D → D → HC → Res D
  | .int a, .int b, h => .ok (.bl (decide (b ≤ a))) h
  | .tup [.int a, .str x], .tup [.int b, .str y], h => .ok (.bl (geIS a x b y)) h
  | _, _, _ => .bad
def rGeIS (K : PySem.W.Frag) : R2 := fun x y H Q => ∃ (p q : Addr) (a b : Int) (s t : Str), x = .ref p ∧ y = .ref q ∧ SqT K H p [.int a, .str s] ∧ SqT K H q [.int b, .str t] ∧ Q (.bl (geIS a s b t)) H
theorem op_geIS {X : Cx} (hu : X.A.units < cLine) : OpR X (compareOp .GtE) (rGeIS X.K) := by
  intro pins s σ H x y v u Q I rx ry h
  obtain ⟨p, q, a, b, z, w, rfl, rfl, ha, hb, hq⟩ := h
  cases rx
  cases ry
  obtain ⟨its, r1, p1, _⟩ := I.tuple ha
  obtain ⟨its2, r2, p2, _⟩ := I.tuple hb
  cases r1 with
  | cons a1 r1 =>
    cases r1 with
    | cons a2 r1 =>
      cases r1
      cases r2 with
      | cons b1 r2 =>
        cases r2 with
        | cons b2 r2 =>
          cases r2
          obtain ⟨t1, rfl⟩ := a1
          obtain ⟨t2, rfl⟩ := a2
          obtain ⟨t3, rfl⟩ := b1
          obtain ⟨t4, rfl⟩ := b2
          have R := Ob.RcOp.tuples_ge (A := X.A) (s := s) (e := fun j => if j = 0 then (a == b) else (z == w)) (r := fun j => if j = 0 then decide (b ≤ a) else !decide (z.cps.toList < w.cps.toList)) p1 p2 hu
            (fun j h1 h2 => by
              match j, h1, h2 with
              | 0, _, _ => exact SeqAt.EqAt.int_int _ _ _ _
              | 1, _, _ => exact SeqAt.EqAt.str_str _ _ _ _
              | j + 2, h1, _ => exact absurd h1 (by simp))
            (fun j h1 h2 _ => by
              match j, h1, h2 with
              | 0, _, _ => exact Ob.RcOp.ge_int _ _ _ _
              | 1, _, _ => exact fun _ _ _ _ k => PySem.P.ge_str k
              | j + 2, h1, _ => exact absurd h1 (by simp))
          have e : Ob.lexAt (fun j => if j = 0 then (a == b) else (z == w)) (fun j => if j = 0 then decide (b ≤ a) else !decide (z.cps.toList < w.cps.toList)) (decide ([Value.int a t1, Value.str z t2].toArray.size ≥ [Value.int b t3, Value.str w t4].toArray.size)) 0 (min [Value.int a t1, Value.str z t2].toArray.size [Value.int b t3, Value.str w t4].toArray.size) = geIS a z b w := by
            simp only [List.size_toArray, List.length_cons, List.length_nil, Nat.min_self]
            simp [Ob.lexAt, geIS]
          rw [e] at R
          exact R X.prog X.w X.xe (EP X pins σ Q) ⟨.bl _, H, I, rfl, hq⟩
theorem os_geA {K : PySem.W.Frag} : OpS K (fun x y H Q => (rI0 fun i j => .bl (decide (j ≤ i))) x y H Q ∨ rGeIS K x y H Q) opGeA := by
  intro W σ m h H d1 d2 v1 v2 Q S r1 r2 p
  unfold opGeA at p
  split at p
  · simp only [RelD] at r1 r2
    exact .inl ⟨_, _, r1, r2, p _ _ _ Ext.refl S (by simp [RelD])⟩
  · simp only [RelD, RelDs] at r1 r2
    obtain ⟨p1, _, rfl, h1, _, _, rfl, e1, _, _, rfl, e2, rfl⟩ := r1
    obtain ⟨p2, _, rfl, h2, _, _, rfl, e3, _, _, rfl, e4, rfl⟩ := r2
    subst e1 e2 e3 e4
    exact .inr ⟨p1, p2, _, _, _, _, rfl, rfl, SqT.of h1, SqT.of h2, p _ _ _ Ext.refl S (by simp [RelD])⟩
  · exact p.elim
theorem op_geAll {X : Cx} (hu : X.A.units < cLine) : OpR X (compareOp .GtE) (fun x y H Q => (rI0 fun i j => .bl (decide (j ≤ i))) x y H Q ∨ rGeIS X.K x y H Q) := op_ge.or (op_geIS hu)
theorem c_geA {X : Cx} {k : Nat} (hr : Room k X.A) : CmpS X .GtE opGeA := ⟨_, op_geAll (by have := hu64 hr; omega), os_geA⟩
end G9

set_option Elab.async false
set_option linter.all false
set_option maxRecDepth 100000
set_option maxHeartbeats 2000000
namespace G9
open PySem PySem.Spec PyProof.Rows L2
/-! ### own classes: fields, methods, making -/
def putFD (f : Str) (d : D) : List (Str × D) → List (Str × D)
  | [] => [(f, d)]
  | p :: r => if p.1 = f then (p.1, d) :: r else p :: putFD f d r
def insAt (c : Str) (h : HC) (x : D) : Option (Nat × List (Str × D)) := match x with
  | .ref n => (match h[n]? with
    | some (.ins c' fs) => if c' = c then some (n, fs) else none
    | _ => none)
  | _ => none
section
variable {K : PySem.W.Frag} {m : Mp} {h : HC} {H : Hp}
theorem insAt_ok {c : Str} {x : D} {n : Nat} {fs : List (Str × D)} (e : insAt c h x = some (n, fs)) : x = .ref n ∧ h[n]? = some (.ins c fs) := by
  unfold insAt at e
  split at e
  · split at e
    · split at e
      · rename_i hc
        cases e
        subst hc
        exact ⟨rfl, by assumption⟩
      · cases e
    · cases e
  · cases e
theorem Sm.ins (S : Sm K m h H) {c : Str} {x : D} {v : V} {n : Nat} {fs : List (Str × D)} (r : RelD m H x v) (e : insAt c h x = some (n, fs)) : ∃ a dx vs, v = .ref a ∧ m.ad[n]? = some a ∧ H a = some (.ins (He.ga K c) dx vs) ∧ RelK m H fs vs := by
  obtain ⟨rfl, e'⟩ := insAt_ok e
  simp only [RelD] at r
  obtain ⟨a, ha, rfl⟩ := r
  obtain ⟨dx, vs, h1, h2⟩ := S.cell n _ a e' ha
  exact ⟨a, dx, vs, rfl, ha, h1, h2⟩
theorem RelK.look : ∀ {fs : List (Str × D)} {vs : List (Str × V)} (f : Str), RelK m H fs vs → (∀ d, fs.lookup f = some d → ∃ v, vs.lookup f = some v ∧ RelD m H d v) ∧ (fs.lookup f = none → vs.lookup f = none)
  | [], vs, f, r => by
    simp only [RelK] at r
    subst r
    exact ⟨fun d e => by simp at e, fun _ => rfl⟩
  | p :: fs, vs, f, r => by
    simp only [RelK] at r
    obtain ⟨v, ws, rfl, hk, h1, h2⟩ := r
    obtain ⟨i1, i2⟩ := RelK.look f h2
    obtain ⟨k, d⟩ := p
    obtain ⟨k', w⟩ := v
    dsimp only at hk h1
    subst hk
    by_cases hf : f = k
    · subst hf
      simp only [List.lookup_cons, beq_self_eq_true]
      refine ⟨fun d' e => ?_, fun e => by simp at e⟩
      simp only [Option.some.injEq] at e
      subst e
      exact ⟨w, rfl, h1⟩
    · have : (f == k) = false := by simpa using hf
      simp only [List.lookup_cons, this]
      exact ⟨i1, i2⟩
theorem RelK.putF {d : D} {v : V} (f : Str) (rd : RelD m H d v) : ∀ {fs : List (Str × D)} {vs : List (Str × V)}, RelK m H fs vs → RelK m H (putFD f d fs) (L2.putF f v vs)
  | [], vs, r => by
    simp only [RelK] at r
    subst r
    simp only [putFD, L2.putF, RelK]
    exact ⟨_, _, rfl, rfl, rd, rfl⟩
  | p :: fs, vs, r => by
    simp only [RelK] at r
    obtain ⟨w, ws, rfl, hk, h1, h2⟩ := r
    obtain ⟨k', w⟩ := w
    dsimp only at hk h1
    simp only [putFD, L2.putF]
    by_cases hf : p.1 = f
    · rw [if_pos hf, if_pos (by rw [← hk]; exact hf)]
      simp only [RelK]
      exact ⟨_, _, rfl, hk, rd, h2⟩
    · rw [if_neg hf, if_neg (by rw [← hk]; exact hf)]
      simp only [RelK]
      exact ⟨_, _, rfl, hk, h1, RelK.putF f rd h2⟩
end
/-- e.f -/
def fFld (c f : Str) (a : EE) : EE := fun s h => (a s h).bind fun x h1 => match insAt c h1 x with
  | some (_, fs) => (match fs.lookup f with
    | some d => .ok d h1
    | none => .bad)
  | none => .bad
/-- o.f = e -/
def fSetFld (c f : Str) (o v : EE) : ES := fun s h => ofR s (v s h) fun y h1 => ofR s (o s h1) fun x h2 => match insAt c h2 x with
  | some (n, fs) => if fs.length < 1000 then .nx s (h2.set n (.ins c (putFD f y fs))) else .bad
  | none => .bad
/-- o.f += e, numbers -/
def fAugFld (c f : Str) (o v : EE) : ES := fun s h => ofR s (o s h) fun x h1 => match insAt c h1 x with
  | some (n, fs) => (match fs.lookup f with
    | some (.int i) => ofR s (v s h1) fun y h2 => (match y, insAt c h2 x with
      | .int j, some (n, fs2) => if fs2.length < 1000 then .nx s (h2.set n (.ins c (putFD f (.int (i + j)) fs2))) else .bad
      | _, _ => .bad)
    | _ => .bad)
  | none => .bad
/-- o.m(e ..) -/
def fMeth (c m : Str) (n : Nat) (fm : List D → HC → Res D) (o : EE) (as : EA) : EE := fun s h => (o s h).bind fun x h1 => match insAt c h1 x with
  | some (_, fs) => if fs.lookup m = none then (as s h1).bind fun xs h2 => if xs.length = n then fm (x :: xs) h2 else .bad else .bad
  | none => .bad
/-- C(e ..) -/
def fMake (c : Str) (n : Nat) (fm : List D → HC → Res D) (as : EA) : EE := fun s h => (as s h).bind fun xs h1 => if xs.length = n then (fm (.ref h1.length :: xs) (h1 ++ [.ins c []])).bind fun v h2 => (match v with
  | .non => .ok (.ref h1.length) h2
  | _ => .bad) else .bad
section
variable {X : Cx} {W : WX} {o e v : Expr} {es : List Expr} {fo fv : EE} {as : EA} {c f mm : Str} {pos pos' apos p : Pos}
theorem se_fld (hc : Cls X.K (He.ga X.K c)) (hn : NoAttr X.K (He.ga X.K c) f) (ho : PE X o (rE X.K W fo)) (hb : attributeBase o f X.env (eval o X.env) = eval o X.env := by rfl) : PE X (.Attribute o f pos) (rE X.K W (fFld c f fo)) :=
  PEw (pe_fld ho hb) fun σ H Q q => by
    refine rd_mono (rd_bind (R := RelD) (f := fo) (g := fun x s h1 => match insAt c h1 x with | some (_, fs) => (match fs.lookup f with | some d => .ok d h1 | none => .bad) | none => .bad) q) fun x H1 ⟨m1, s, h1, d1, S1, r1, q1, p1⟩ => ?_
    split at p1
    · rename_i n fs e
      obtain ⟨a, dx, vs, rfl, ha, hi, hr⟩ := S1.ins q1 e
      split at p1
      · rename_i d hd
        obtain ⟨w, hw, rw'⟩ := (RelK.look f hr).1 d hd
        exact ⟨a, _, dx, vs, w, rfl, hi, hc, hn, hw, p1 _ _ _ Ext.refl S1 rw'⟩
      · exact p1.elim
    · exact p1.elim
/-- two things, then a store -/
theorem rE_of {K : PySem.W.Frag} {σ : L2.St} {m : Mp} {s : SD} {h : HC} {H : Hp} {Q : VK} {En : Ends} {k : D → HC → RS} (S : Sm K m h H) (r : Rs m H s σ) (p : postS K W m H En (ofR s (fo s h) k))
    (hq : ∀ m' h' H' d x, Ext m m' H H' → Sm K m' h' H' → Rs m' H' s σ → RelD m' H' d x → postS K W m' H' En (k d h') → Q x H') : rE K W fo σ H Q := by
  refine ⟨m, s, h, S, r, ?_⟩
  unfold ofR at p
  cases e : fo s h with
  | ok d h1 => rw [e] at p; exact fun m' H' x E S' q => hq m' h1 H' d x E S' (r.mono S E) q (postS_ext p E)
  | exc c h1 => rw [e] at p; exact fun m' H' E S' => p m' H' σ E S' (r.mono S E)
  | bad => rw [e] at p; exact p
theorem Sm.setI {K : PySem.W.Frag} {m : Mp} {h : HC} {H : Hp} (S : Sm K m h H) {n : Nat} {a : Addr} {C : Str} {dx dx' : Addr} {vs ws : List (Str × V)} {fs : List (Str × D)} (ha : m.ad[n]? = some a) (e : H a = some (.ins (He.ga K C) dx vs)) (r : RelK m H fs ws) :
    Sm K m (h.set n (.ins C fs)) (upd H a (.ins (He.ga K C) dx' ws)) ∧ Ext m m H (upd H a (.ins (He.ga K C) dx' ws)) := by
  have ht : ∀ p us, H p = some (.tup us) → upd H a (.ins (He.ga K C) dx' ws) p = some (.tup us) := fun p us z => by
    rw [upd_ne (fun q => by rw [q, e] at z; cases z)]
    exact z
  exact S.setC ha ⟨dx', ws, upd_same, RelK.mono_ (fun _ _ z => z) ⟨rfl, rfl⟩ ht _ _ r⟩
theorem ss_fld (hc : Cls X.K (He.ga X.K c)) (hn : NoAttr X.K (He.ga X.K c) f) (ho : PE X o (rE X.K W fo)) (hv : PE X v (rE X.K W fv)) (hs : swapsWith v (some (.Attribute o f pos')) pos.line X.env = pure false := by rfl) : PS X (.Assign [.Attribute o f pos'] v pos) (rS X.K W (fSetFld c f fo fv)) :=
  PSw (ps_fld ho hv hs) fun En σ H q => by
    obtain ⟨m, s, h, S, r, p⟩ := q
    refine rE_of S r p fun m1 h1 H1 y vy E1 S1 r1 q1 p1 => rE_of S1 r1 p1 fun m2 h2 H2 x vx E2 S2 r2 q2 p2 => ?_
    split at p2
    · rename_i n fs e
      obtain ⟨a, dx, vs, rfl, ha, hi, hr⟩ := S2.ins q2 e
      split at p2
      · rename_i hl
        obtain ⟨S3, E3⟩ := S2.setI (dx' := dx) ha hi (hr.putF f (q1.mono S1 E2))
        exact ⟨a, _, dx, vs, rfl, hi, hc, hn, by rw [← hr.len]; exact hl, p2 _ _ _ E3 S3 (r2.mono S2 E3)⟩
      · exact p2.elim
    · exact p2.elim
theorem ss_fldaug (hc : Cls X.K (He.ga X.K c)) (hn : NoAttr X.K (He.ga X.K c) f) (ho : PE X o (rE X.K W fo)) (hv : PE X v (rE X.K W fv)) : PS X (.AugAssign (.Attribute o f apos) .Add v pos) (rS X.K W (fAugFld c f fo fv)) :=
  PSw (ps_fldaug ho hv in_add) fun En σ H q => by
    obtain ⟨m, s, h, S, r, p⟩ := q
    refine rE_of S r p fun m1 h1 H1 x vx E1 S1 r1 q1 p1 => ?_
    split at p1
    · rename_i n fs e
      obtain ⟨a, dx, vs, rfl, ha, hi, hr⟩ := S1.ins q1 e
      split at p1
      · rename_i i hd
        obtain ⟨w, hw, rw'⟩ := (RelK.look f hr).1 _ hd
        simp only [RelD] at rw'
        subst rw'
        refine ⟨a, _, dx, vs, _, rfl, hi, hc, hn, hw, rE_of S1 r1 p1 fun m2 h2 H2 y vy E2 S2 r2 q2 p2 => ?_⟩
        split at p2
        · rename_i j n2 fs2 e2
          obtain ⟨a2, dx2, vs2, ea, ha2, hi2, hr2⟩ := S2.ins (q1.mono S1 E2) e2
          cases ea
          simp only [RelD] at q2
          split at p2
          · rename_i hl
            obtain ⟨S3, E3⟩ := S2.setI (dx' := dx2) ha2 hi2 (hr2.putF f (d := .int (i + j)) (v := .int (i + j)) (by simp only [RelD]))
            exact ⟨i, j, rfl, q2, dx2, vs2, hi2, by rw [← hr2.len]; exact hl, p2 _ _ _ E3 S3 (r2.mono S2 E3)⟩
          · exact p2.elim
        · exact p2.elim
      · exact p1.elim
    · exact p1.elim
/-- a method that may be called -/
structure Mth (P : Program) (w : World) (K : PySem.W.Frag) (mg : Str → Option Value) (base : Heap) (c m : Str) (k n : Nat) (fm : List D → HC → Res D) : Prop where
  ex : ∃ (fd : FuncData) (ps : List Str), FnOk P w K mg base (L2.CX P w) k (He.ma K (He.ga K c) m) fd ps (spF K fm n) ∧ Meth K (He.ga K c) m (He.ma K (He.ga K c) m) ∧ Binds K fd ps []
def tMethS (C : Addr) (m : Str) (sp : Sp) (E : L2.St → XK) (ta : TE) (t : TA) : TE := fun σ H Q => ta σ H fun x H1 => ∃ a dx fs, x = .ref a ∧ H1 a = some (.ins C dx fs) ∧ fs.lookup m = none ∧ t σ H1 fun vs H2 => sp (x :: vs) H2 Q (E σ)
section
variable {CX : CXT} {k : Nat} {C fa : Addr} {fd : FuncData} {ps : List Str} {sp : Sp} {E : L2.St → XK} {ta : TE} {t : TA}
theorem pm_call {pl : Sem Bool} (he : PE X o ta) (c : Cls X.K C) (hm : Meth X.K C mm fa) (F : FnOk X.prog X.w X.K X.mg X.base CX k fa fd ps sp) (hr : Room k X.A) (hb : Binds X.K fd ps []) (hx : ∀ σ, PassesAt CX X σ (E σ)) (ha : PA X (e :: es) t)
    (hst : starEach (e :: es) X.env = (false, eval e X.env) :: starEach es X.env) (hpl : (backTo pos (starEach es X.env)).any (·.1) = false)
    (ht : eval (.Call (.Attribute o mm apos) (e :: es) [] pos) X.env = (do let ov ← eval o X.env; standAt apos.atName; let (f, first) ← holding [ov] (getMethod ov mm pl); callWith pos f first (backTo pos (starEach (e :: es) X.env)) (backToKw pos (keywordEach [] X.env)))) :
    PE X (.Call (.Attribute o mm apos) (e :: es) [] pos) (tMethS C mm sp E ta t) := ⟨fun pins s σ H Q I h => PySem.W.methodCall_KW (pl := pl) (thn (he.run pins s σ H _ I h) fun u s1 ⟨x, H1, I1, rx, a, dx, fs, ex, ea, l, q⟩ => by
      subst ex
      obtain rfl : u = Value.ref a := rx
      exact getmeth_ok I1 ea c hm l (PySem.W.callWith_K (first := [.ref a]) (h₀ := X.base) I.ok.mod.kin hm.kp (thn (ha.run pos pins s1 σ H1 _ I1 q) fun us s2 ⟨vs, H2, I2, r, q2⟩ => ⟨I2.kIn, run_fnS (us := .ref a :: us) (vs := .ref a :: vs) F hr hb (hx σ) I2 (.cons rfl r) q2⟩) hst hpl)) ht⟩
theorem pm_call0 {pl : Sem Bool} (he : PE X o ta) (c : Cls X.K C) (hm : Meth X.K C mm fa) (F : FnOk X.prog X.w X.K X.mg X.base CX k fa fd ps sp) (hr : Room k X.A) (hb : Binds X.K fd ps []) (hx : ∀ σ, PassesAt CX X σ (E σ))
    (ht : eval (.Call (.Attribute o mm apos) [] [] pos) X.env = (do let ov ← eval o X.env; standAt apos.atName; let (f, first) ← holding [ov] (getMethod ov mm pl); callWith pos f first (backTo pos (starEach [] X.env)) (backToKw pos (keywordEach [] X.env)))) :
    PE X (.Call (.Attribute o mm apos) [] [] pos) (tMethS C mm sp E ta tNil) := ⟨fun pins s σ H Q I h => PySem.W.methodCall_KW (pl := pl) (thn (he.run pins s σ H _ I h) fun u s1 ⟨x, H1, I1, rx, a, dx, fs, ex, ea, l, q⟩ => by
      subst ex
      obtain rfl : u = Value.ref a := rx
      exact getmeth_ok I1 ea c hm l (PySem.W.callWith_K0 (first := [.ref a]) I1.kIn hm.kp (run_fnS (us := [.ref a]) (vs := [.ref a]) F hr hb (hx σ) I1 (.cons rfl .nil) q))) ht⟩
end
theorem se_meth {k n : Nat} {fm : List D → HC → Res D} {pl : Sem Bool} (F : Mth X.prog X.w X.K X.mg X.base c mm k (n + 1) fm) (hc : Cls X.K (He.ga X.K c)) (hr : Room k X.A) (tk : Takes X W) (ho : PE X o (rE X.K W fo)) (ha : PA X (e :: es) (rA X.K W as))
    (hst : starEach (e :: es) X.env = (false, eval e X.env) :: starEach es X.env := by rfl) (hpl : (backTo pos (starEach es X.env)).any (·.1) = false := by rfl)
    (ht : eval (.Call (.Attribute o mm apos) (e :: es) [] pos) X.env = (do let ov ← eval o X.env; standAt apos.atName; let (f, first) ← holding [ov] (getMethod ov mm pl); callWith pos f first (backTo pos (starEach (e :: es) X.env)) (backToKw pos (keywordEach [] X.env))) := by rfl) :
    PE X (.Call (.Attribute o mm apos) (e :: es) [] pos) (rE X.K W (fMeth c mm n fm fo as)) := by
  obtain ⟨fd, ps, G, hm, hb⟩ := F.ex
  refine PEw (pm_call ho hc hm G hr hb (fun σ => passAt tk σ) ha hst hpl ht) fun σ H Q q => ?_
  refine rd_mono (rd_bind (R := RelD) (f := fo) (g := fun x s h1 => match insAt c h1 x with | some (_, fs) => if fs.lookup mm = none then (as s h1).bind fun xs h2 => if xs.length = n then fm (x :: xs) h2 else .bad else .bad | none => .bad) q) fun x H1 ⟨m1, s, h1, d1, S1, r1, q1, p1⟩ => ?_
  split at p1
  · rename_i i fs e
    obtain ⟨a, dx, vs, rfl, hA, hi, hrel⟩ := S1.ins q1 e
    split at p1
    · rename_i hl
      refine ⟨a, dx, vs, rfl, hi, (RelK.look mm hrel).2 hl, ⟨m1, s, h1, S1, r1, ?_⟩⟩
      cases e2 : as s h1 with
      | ok xs h2 =>
        rw [e2] at p1
        refine fun m2 H2 ys E2 S2 q2 => ?_
        have p2 := post_ext p1 E2
        dsimp only [Res.bind] at p2
        split at p2
        · rename_i hlen
          refine ⟨m2, h2, d1 :: xs, S2, ?_, by simp [hlen], postF_of p2⟩
          simp only [RelDs]
          exact ⟨_, _, rfl, q1.mono S1 E2, q2⟩
        · exact p2.elim
      | exc cc h2 => rw [e2] at p1; exact p1
      | bad => rw [e2] at p1; exact p1
    · exact p1.elim
  · exact p1.elim
theorem se_meth0 {k : Nat} {fm : List D → HC → Res D} {pl : Sem Bool} (F : Mth X.prog X.w X.K X.mg X.base c mm k 1 fm) (hc : Cls X.K (He.ga X.K c)) (hr : Room k X.A) (tk : Takes X W) (ho : PE X o (rE X.K W fo))
    (ht : eval (.Call (.Attribute o mm apos) [] [] pos) X.env = (do let ov ← eval o X.env; standAt apos.atName; let (f, first) ← holding [ov] (getMethod ov mm pl); callWith pos f first (backTo pos (starEach [] X.env)) (backToKw pos (keywordEach [] X.env))) := by rfl) :
    PE X (.Call (.Attribute o mm apos) [] [] pos) (rE X.K W (fMeth c mm 0 fm fo fNil)) := by
  obtain ⟨fd, ps, G, hm, hb⟩ := F.ex
  refine PEw (pm_call0 ho hc hm G hr hb (fun σ => passAt tk σ) ht) fun σ H Q q => ?_
  refine rd_mono (rd_bind (R := RelD) (f := fo) (g := fun x s h1 => match insAt c h1 x with | some (_, fs) => if fs.lookup mm = none then (fNil s h1).bind fun xs h2 => if xs.length = 0 then fm (x :: xs) h2 else .bad else .bad | none => .bad) q) fun x H1 ⟨m1, s, h1, d1, S1, r1, q1, p1⟩ => ?_
  split at p1
  · rename_i i fs e
    obtain ⟨a, dx, vs, rfl, hA, hi, hrel⟩ := S1.ins q1 e
    split at p1
    · rename_i hl
      refine ⟨a, dx, vs, rfl, hi, (RelK.look mm hrel).2 hl, m1, h1, [d1], S1, ?_, rfl, postF_of p1⟩
      simp only [RelDs]
      exact ⟨_, _, rfl, q1, rfl⟩
    · exact p1.elim
  · exact p1.elim
end
end G9

set_option Elab.async false
set_option linter.all false
set_option maxRecDepth 100000
set_option maxHeartbeats 2000000
namespace G9
open PySem PySem.Spec PyProof.Rows L2
section
variable {X : Cx} {W : WX} {e : Expr} {es : List Expr} {as : EA} {c : Str} {pos p : Pos} {CX : CXT} {k : Nat} {C f : Addr} {fd : FuncData} {ps : List Str} {sp : Sp} {E : L2.St → XK} {t : TA} {x : Str}
/-- a new instance, by its __init__, which may raise -/
theorem rn_make {pins : List (Addr × Obj)} {σ : L2.St} {H : Hp} {s : Shared} {Q : VK} {us : List Value} {vs : List V} (M : Mk X.K C f) (F : FnOk X.prog X.w X.K X.mg X.base CX k f fd ps sp) (hr : Room (k + 1) X.A) (hb : Binds X.K fd ps [])
    (hx : PassesAt CX X σ (E σ)) (I : L2.Inv X pins σ H s) (r : Vals vs us)
    (hq : ∀ y dy, H y = none → H dy = none → dy ≠ y → sp (.ref y :: vs) (upd (upd H dy (.own y)) y (.ins C dy [])) (fun v H2 => v = .non ∧ Q (.ref y) H2) (E σ)) : wpAny (model X.prog X.w) X.A (call (.ref C) us) (EP X pins σ Q) X.xe s := by
  have n1 := I.hok.fresh (Nat.le_succ s.heap.objs.size)
  have n2 := I.hok.fresh (Nat.le_refl s.heap.objs.size)
  have q1 := hq _ _ n1 n2 (Nat.ne_of_lt (Nat.lt_succ_self _))
  have J := Inv.made (C := C) I
  have rr : Vals (V.ref (s.heap.objs.size + 1) :: vs) (Value.ref (s.heap.objs.size + 1) :: us) := .cons rfl r
  have hl : (Value.ref (s.heap.objs.size + 1) :: us).length = ps.length := by have z := rr.length; rw [F.len _ _ _ _ q1] at z; exact z.symm
  have bb := hb _ (Value.ref (s.heap.objs.size + 1) :: us) J.kIn (by rw [List.append_nil]; exact hl)
  rw [List.append_nil] at bb
  refine wpAny_call (make_map (f := f) I.kIn M.makes M.init (beq_iff_eq.mp M.fn) (codeAny_mono (F.run _ X.stack _ _ ⟨Value.ref (s.heap.objs.size + 1) :: us, []⟩ (Value.ref (s.heap.objs.size + 1) :: us) _ _ (E σ) (hr.make C us []) (J.env0.make C us []) bb rr q1) fun z s' hz => ?_))
  match z, hz with
  | .error e, hz => exact hx pins _ _ e s' J hz
  | .ok (.ret u), hz =>
    obtain ⟨v, H', I3, rv, ev, q3⟩ := J.after hz
    subst ev
    exact ⟨rv, ⟨V.ref (s.heap.objs.size + 1), H', I3, rfl, q3⟩⟩
  | .ok .next, hz => exact hz.elim
  | .ok .brk, hz => exact hz.elim
  | .ok .cont, hz => exact hz.elim
def tMakeS (C : Addr) (sp : Sp) (E : L2.St → XK) (t : TA) : TE := fun σ H Q => t σ H fun vs H1 => ∀ y dy, H1 y = none → H1 dy = none → dy ≠ y → sp (.ref y :: vs) (upd (upd H1 dy (.own y)) y (.ins C dy [])) (fun v H2 => v = .non ∧ Q (.ref y) H2) (E σ)
theorem pm_make (M : Mk X.K C f) (F : FnOk X.prog X.w X.K X.mg X.base CX k f fd ps sp) (hr : Room (k + 1) X.A) (hg : Gl X x) (hm : X.mg x = some (.ref C)) (hb : Binds X.K fd ps []) (hx : ∀ σ, PassesAt CX X σ (E σ)) (ha : PA X (e :: es) t) (hdb : (x == ("__debug__" : Str)) = false)
    (he : starEach (e :: es) X.env = (false, eval e X.env) :: starEach es X.env) (hpl : (backTo pos (starEach es X.env)).any (·.1) = false) : PE X (.Call (.Name x p) (e :: es) [] pos) (tMakeS C sp E t) :=
  ⟨fun pins s σ H Q I h => wpAny_Call_Name_kw (ld_glob I hg hm (PySem.W.callWith_K (h₀ := X.base) I.ok.mod.kin M.kp (thn (ha.run pos pins s σ H _ I h) fun us s1 ⟨vs, H1, I1, r, q⟩ => ⟨I1.kIn, rn_make M F hr hb (hx σ) I1 r q⟩) he hpl) hdb)⟩
/-- a class whose instances may be made -/
structure Mkr (P : Program) (w : World) (K : PySem.W.Frag) (mg : Str → Option Value) (base : Heap) (c : Str) (k n : Nat) (fm : List D → HC → Res D) : Prop where
  ex : ∃ (fd : FuncData) (ps : List Str), FnOk P w K mg base (L2.CX P w) k (He.ma K (He.ga K c) "__init__") fd ps (spF K fm n) ∧ Mk K (He.ga K c) (He.ma K (He.ga K c) "__init__") ∧ mg c = some (.ref (He.ga K c)) ∧ Binds K fd ps []
theorem se_make {n : Nat} {fm : List D → HC → Res D} (F : Mkr X.prog X.w X.K X.mg X.base c k (n + 1) fm) (hr : Room (k + 1) X.A) (tk : Takes X W) (ha : PA X (e :: es) (rA X.K W as)) (hg : Gl X c := by rfl) (hdb : (c == ("__debug__" : Str)) = false := by decide)
    (he : starEach (e :: es) X.env = (false, eval e X.env) :: starEach es X.env := by rfl) (hpl : (backTo pos (starEach es X.env)).any (·.1) = false := by rfl) : PE X (.Call (.Name c p) (e :: es) [] pos) (rE X.K W (fMake c n fm as)) := by
  obtain ⟨fd, ps, G, M, hm, hb⟩ := F.ex
  refine PEw (pm_make M G hr hg hm hb (fun σ => passAt tk σ) ha hdb he hpl) fun σ H Q q => ?_
  refine rd_mono (rd_bind (R := RelDs) (f := as) (g := fun xs s h1 => if xs.length = n then (fm (.ref h1.length :: xs) (h1 ++ [.ins c []])).bind fun v h2 => (match v with | .non => .ok (D.ref h1.length) h2 | _ => .bad) else .bad) q) fun vs H1 ⟨m1, s, h1, ds, S1, r1, q1, p1⟩ => ?_
  intro y dy hy hdy hne
  split at p1
  · rename_i hl
    obtain ⟨S2, E2⟩ := S1.newT (o := .own y) hdy
    have hy2 : upd H1 dy (.own y) y = none := by rw [upd_ne (Ne.symm hne)]; exact hy
    obtain ⟨S3, E3⟩ := S2.newC (o := .ins (He.ga X.K c) dy []) (c := .ins c []) hy2 ⟨dy, [], upd_same, rfl⟩
    have E23 := E2.trans E3
    have hlast : (m1.snoc y).ad[h1.length]? = some y := by rw [S1.len]; exact Mp.last
    refine ⟨m1.snoc y, h1 ++ [.ins c []], .ref h1.length :: ds, S3, ?_, by simp [hl], ?_⟩
    · simp only [RelDs]
      refine ⟨_, _, rfl, ?_, q1.mono S1 E23⟩
      simp only [RelD]
      exact ⟨y, hlast, rfl⟩
    · have p2 := post_ext p1 E23
      unfold postF
      cases e2 : fm (.ref h1.length :: ds) (h1 ++ [.ins c []]) with
      | ok v h2 =>
        rw [e2] at p2
        dsimp only [Res.bind] at p2
        intro m' H' w E' S' rv
        split at p2
        · simp only [RelD] at rv
          refine ⟨rv, p2 m' H' _ E' S' ?_⟩
          simp only [RelD]
          exact ⟨y, E'.le _ _ hlast, rfl⟩
        · exact p2.elim
      | exc cc h2 =>
        rw [e2] at p2
        intro m' H' E' S'
        exact p2 m' H' E' S'
      | bad => rw [e2] at p2; exact p2
  · exact p1.elim
end
end G9

set_option Elab.async false
set_option linter.all false
set_option maxRecDepth 100000
set_option maxHeartbeats 2000000
namespace G9
open PySem PySem.Spec PyProof.Rows L2
/-! ### targets that are stored into: names, d[k], xs[i] -/
abbrev EK := D → SD → HC → RS
abbrev EKs := List D → SD → HC → RS
def postK (K : PySem.W.Frag) (m : Mp) (H : Hp) (Q : L2.St → Hp → Prop) : RS → Prop
  | .nx s h => ∀ m' H' σ', Ext m m' H H' → Sm K m' h H' → Rs m' H' s σ' → Q σ' H'
  | _ => False
def rK (K : PySem.W.Frag) (k : EK) : TG := fun v σ H Q => ∃ m s h d, Sm K m h H ∧ Rs m H s σ ∧ RelD m H d v ∧ postK K m H Q (k d s h)
def rKs (K : PySem.W.Frag) (k : EKs) : TGs := fun v σ H Q => ∃ m s h d, Sm K m h H ∧ Rs m H s σ ∧ RelDs m H d v ∧ postK K m H Q (k d s h)
def kN (i : Nat) : EK := fun d s h => .nx (s.set i (some d)) h
def stD (x y d : D) (h : HC) : Option HC := match x with
  | .ref n => (match h[n]? with
    | some (.dk kvs) => (toKey y).bind fun k => if kvs.length < 100000 then some (h.set n (.dk (putD kvs k d))) else none
    | some (.dt kvs) => (match y with
      | .tup ks => (optKeys ks).bind fun k => if kvs.length < 100000 then some (h.set n (.dt (putD kvs k d))) else none
      | _ => none)
    | _ => none)
  | _ => none
def stL (x y d : D) (h : HC) : Option HC := match x, y with
  | .ref n, .int i => (match h[n]? with
    | some (.lst xs) => (match ixN xs.length i with
      | some j => some (h.set n (.lst (xs.set j d)))
      | none => none)
    | _ => none)
  | _, _ => none
def kSub (st : D → D → D → HC → Option HC) (o i : EE) : EK := fun d s h => match o s h with
  | .ok x h1 => (match i s h1 with
    | .ok y h2 => (match st x y d h2 with
      | some h3 => .nx s h3
      | none => .bad)
    | _ => .bad)
  | _ => .bad
def ksN : EKs := fun ds s h => match ds with
  | [] => .nx s h
  | _ => .bad
def ksC (k : EK) (ks : EKs) : EKs := fun ds s h => match ds with
  | d :: r => (match k d s h with
    | .nx s1 h1 => ks r s1 h1
    | _ => .bad)
  | [] => .bad
def kT (n : Nat) (ks : EKs) : EK := fun d s h => match d with
  | .tup xs => if xs.length = n then ks xs s h else .bad
  | _ => .bad
def fAsgK (k : EK) (a : EE) : ES := fun s h => ofR s (a s h) fun d h1 => k d s h1
section
variable {K : PySem.W.Frag} {m : Mp} {h : HC} {H : Hp}
theorem postK_ext {Q : L2.St → Hp → Prop} {m1 : Mp} {H1 : Hp} {r : RS} (p : postK K m H Q r) (E : Ext m m1 H H1) : postK K m1 H1 Q r := by
  cases r with
  | nx s h => exact fun m' H' σ' E' => p m' H' σ' (E.trans E')
  | _ => exact p
theorem Sm.setD {κ : Type} (S : Sm K m h H) {n : Nat} {a : Addr} {c : Cell} {o : HO} (ha : m.ad[n]? = some a) (hnt : ∀ us, H a ≠ some (.tup us)) (hc : (∀ p us, H p = some (.tup us) → upd H a o p = some (.tup us)) → CellAtD K m (upd H a o) a c) :
    Sm K m (h.set n c) (upd H a o) ∧ Ext m m H (upd H a o) :=
  S.setC ha (hc fun p us z => by
    rw [upd_ne (show p ≠ a from fun q => hnt us (by rw [← q]; exact z))]
    exact z)
theorem stD_ok {x y d : D} {vx vy v : V} {h3 : HC} (S : Sm K m h H) (rx : RelD m H x vx) (ry : RelD m H y vy) (rv : RelD m H d v) (e : stD x y d h = some h3) : ∃ a H', vx = .ref a ∧ DPut H a vy v H' ∧ Sm K m h3 H' ∧ Ext m m H H' := by
  unfold stD at e
  split at e
  · rename_i n
    simp only [RelD] at rx
    obtain ⟨a, ha, rfl⟩ := rx
    split at e
    · rename_i kvs hk
      cases q : toKey y with
      | none => simp [q] at e
      | some k =>
        simp only [q, Option.bind_some] at e
        split at e
        · rename_i hl
          cases e
          obtain ⟨vs, h1, h2⟩ := S.cell n _ a hk ha
          have := toKey_ok q ry
          subst this
          obtain ⟨S1, E1⟩ := S.setD (κ := Unit) (o := .dK (putK vs k v)) (c := .dk (putD kvs k d)) ha (fun us z => by rw [h1] at z; cases z) fun ht => ⟨_, upd_same, RelK.mono_ (fun _ _ z => z) ⟨rfl, rfl⟩ ht _ _ (h2.put rv k)⟩
          exact ⟨a, _, rfl, DPut.k h1 (by rw [← h2.len]; exact Nat.lt_of_lt_of_le hl (by rw [sizeLine_eq]; decide)), S1, E1⟩
        · cases e
    · rename_i kvs hk
      split at e
      · rename_i ks
        cases q : optKeys ks with
        | none => simp [q] at e
        | some k =>
          simp only [q, Option.bind_some] at e
          split at e
          · rename_i hl
            cases e
            obtain ⟨vs, h1, h2⟩ := S.cell n _ a hk ha
            simp only [RelD] at ry
            obtain ⟨b, us, rfl, hb, hr⟩ := ry
            have := optKeys_ok hr q
            subst this
            obtain ⟨S1, E1⟩ := S.setD (κ := Unit) (o := .dT (putK vs k v)) (c := .dt (putD kvs k d)) ha (fun us z => by rw [h1] at z; cases z) fun ht => ⟨_, upd_same, RelK.mono_ (fun _ _ z => z) ⟨rfl, rfl⟩ ht _ _ (h2.put rv k)⟩
            exact ⟨a, _, rfl, DPut.t h1 hb (by rw [← h2.len]; exact Nat.lt_of_lt_of_le hl (by rw [sizeLine_eq]; decide)), S1, E1⟩
          · cases e
      · cases e
    · cases e
  · cases e
theorem RelDs.setR {d : D} {v : V} (rd : RelD m H d v) : ∀ {ds : List D} {vs : List V} (j : Nat), RelDs m H ds vs → RelDs m H (ds.set j d) (vs.set j v)
  | [], vs, j, r => by simp only [RelDs] at r; subst r; simp [RelDs]
  | x :: ds, vs, j, r => by
    simp only [RelDs] at r
    obtain ⟨w, ws, rfl, h1, h2⟩ := r
    cases j with
    | zero => simp only [List.set_cons_zero, RelDs]; exact ⟨_, _, rfl, rd, h2⟩
    | succ j => simp only [List.set_cons_succ, RelDs]; exact ⟨_, _, rfl, h1, RelDs.setR rd j h2⟩
theorem stL_ok {x y d : D} {vx vy v : V} {h3 : HC} (S : Sm K m h H) (rx : RelD m H x vx) (ry : RelD m H y vy) (rv : RelD m H d v) (e : stL x y d h = some h3) : ∃ p xs k j, vx = .ref p ∧ vy = .int k ∧ H p = some (.lst xs) ∧ ixN xs.length k = some j ∧ Sm K m h3 (upd H p (.lst (xs.set j v))) ∧ Ext m m H (upd H p (.lst (xs.set j v))) := by
  unfold stL at e
  split at e
  · rename_i n i
    simp only [RelD] at rx ry
    obtain ⟨a, ha, rfl⟩ := rx
    split at e
    · rename_i xs hx
      split at e
      · rename_i j hj
        cases e
        obtain ⟨vs, h1, h2⟩ := S.cell n _ a hx ha
        obtain ⟨S1, E1⟩ := S.setD (κ := Unit) (o := .lst (vs.set j v)) (c := .lst (xs.set j d)) ha (fun us z => by rw [h1] at z; cases z) fun ht => ⟨_, upd_same, RelDs.mono_ (fun _ _ z => z) ⟨rfl, rfl⟩ ht _ _ (h2.setR rv j)⟩
        exact ⟨a, vs, i, j, rfl, ry, h1, by rw [← h2.len]; exact hj, S1, E1⟩
      · cases e
    · cases e
  · cases e
end
section
variable {X : Cx} {W : WX} {e o i a : Expr} {es : List Expr} {k : EK} {ks : EKs} {fo fi fa : EE} {pos : Pos}
theorem sk_name {j : Nat} {x : Str} (hN : X.N.Nodup) (hi : X.N[j]? = some x := by rfl) (hx : Loc X.env.scope x := by first | exact Or.inl rfl | exact Or.inr rfl) (hf : X.fn x = true ∨ X.env.scope.names.lookup x = some .local := by first | exact .inl rfl | exact .inr rfl | assumption) :
    PG X (.Name x pos) (rK X.K (kN j)) := PGw (pg_name hN hi hx hf) fun v σ H Q q => by
  obtain ⟨m, s, h, d, S, r, rd, p⟩ := q
  exact p _ _ _ Ext.refl S (r.set rd)
theorem rE_k {K : PySem.W.Frag} {σ : L2.St} {m : Mp} {s : SD} {h : HC} {H : Hp} {Q : VK} (S : Sm K m h H) (r : Rs m H s σ)
    (hq : match fo s h with | .ok d h' => ∀ m' H' x, Ext m m' H H' → Sm K m' h' H' → RelD m' H' d x → Q x H' | _ => False) : rE K W fo σ H Q := by
  refine ⟨m, s, h, S, r, ?_⟩
  cases e : fo s h with
  | ok d h1 => rw [e] at hq; exact fun m' H' x E S' q => hq m' H' x E S' q
  | exc c h1 => rw [e] at hq; exact hq.elim
  | bad => rw [e] at hq; exact hq
theorem sk_subD (hu : X.A.units + 1 < cLine) (ho : PE X o (rE X.K W fo)) (hi : PE X i (rE X.K W fi))
    (ha : ∀ v, assign (.Subscript o i pos) X.env v = (do let ov ← holding [v] (eval o X.env); let iv ← holding [v, ov] (eval i X.env); standAt pos; holding [v, ov, iv] (setItem ov iv v); release [v, ov, iv] []) := by intro _; rfl) :
    PG X (.Subscript o i pos) (rK X.K (kSub stD fo fi)) := PGw (pg_sub ho hi (set_dict hu) ha) fun v σ H Q q => by
  obtain ⟨m, s, h, d, S, r, rd, p⟩ := q
  unfold kSub at p
  refine rE_k S r ?_
  cases e1 : fo s h with
  | ok x h1 =>
    rw [e1] at p
    intro m1 H1 vx E1 S1 q1
    have p1 := postK_ext p E1
    dsimp only at p1
    refine rE_k S1 (r.mono S E1) ?_
    cases e2 : fi s h1 with
    | ok y h2 =>
      rw [e2] at p1
      intro m2 H2 vy E2 S2 q2
      have p2 := postK_ext p1 E2
      dsimp only at p2
      cases e3 : stD x y d h2 with
      | none => rw [e3] at p2; exact p2.elim
      | some h3 =>
        rw [e3] at p2
        obtain ⟨b, H', rfl, g, S3, E3⟩ := stD_ok S2 (q1.mono S1 E2) q2 (rd.mono S (E1.trans E2)) e3
        exact ⟨b, H', rfl, g, p2 _ _ _ E3 S3 (r.mono S ((E1.trans E2).trans E3))⟩
    | exc c h2 => rw [e2] at p1; exact p1
    | bad => rw [e2] at p1; exact p1
  | exc c h1 => rw [e1] at p; exact p
  | bad => rw [e1] at p; exact p
theorem sk_subL (ho : PE X o (rE X.K W fo)) (hi : PE X i (rE X.K W fi))
    (ha : ∀ v, assign (.Subscript o i pos) X.env v = (do let ov ← holding [v] (eval o X.env); let iv ← holding [v, ov] (eval i X.env); standAt pos; holding [v, ov, iv] (setItem ov iv v); release [v, ov, iv] []) := by intro _; rfl) :
    PG X (.Subscript o i pos) (rK X.K (kSub stL fo fi)) := PGw (pg_sub ho hi set_list ha) fun v σ H Q q => by
  obtain ⟨m, s, h, d, S, r, rd, p⟩ := q
  unfold kSub at p
  refine rE_k S r ?_
  cases e1 : fo s h with
  | ok x h1 =>
    rw [e1] at p
    intro m1 H1 vx E1 S1 q1
    have p1 := postK_ext p E1
    dsimp only at p1
    refine rE_k S1 (r.mono S E1) ?_
    cases e2 : fi s h1 with
    | ok y h2 =>
      rw [e2] at p1
      intro m2 H2 vy E2 S2 q2
      have p2 := postK_ext p1 E2
      dsimp only at p2
      cases e3 : stL x y d h2 with
      | none => rw [e3] at p2; exact p2.elim
      | some h3 =>
        rw [e3] at p2
        obtain ⟨b, xs, k, j, h1', h2', h3', h4', S3, E3⟩ := stL_ok S2 (q1.mono S1 E2) q2 (rd.mono S (E1.trans E2)) e3
        exact ⟨b, xs, k, j, h1', h2', h3', h4', p2 _ _ _ E3 S3 (r.mono S ((E1.trans E2).trans E3))⟩
    | exc c h2 => rw [e2] at p1; exact p1
    | bad => rw [e2] at p1; exact p1
  | exc c h1 => rw [e1] at p; exact p
  | bad => rw [e1] at p; exact p
theorem sks_nil : PGs X [] (rKs X.K ksN) := PGsw pgs_nil fun v σ H Q q => by
  obtain ⟨m, s, h, d, S, r, rd, p⟩ := q
  cases d with
  | nil =>
    simp only [RelDs] at rd
    exact ⟨rd, p _ _ _ Ext.refl S r⟩
  | cons a b => exact p.elim
theorem sks_cons (h1 : PG X e (rK X.K k)) (h2 : PGs X es (rKs X.K ks)) (hs : (assignEach (e :: es) X.env).map (·.2) = assign e X.env :: (assignEach es X.env).map (·.2) := by rfl) : PGs X (e :: es) (rKs X.K (ksC k ks)) :=
  PGsw (pgs_cons h1 h2 hs) fun v σ H Q q => by
    obtain ⟨m, s, h, d, S, r, rd, p⟩ := q
    cases d with
    | nil => exact p.elim
    | cons x xs =>
      simp only [RelDs] at rd
      obtain ⟨va, vb, rfl, ra, rb⟩ := rd
      refine ⟨va, vb, rfl, m, s, h, x, S, r, ra, ?_⟩
      unfold ksC at p
      dsimp only at p
      cases e1 : k x s h with
      | nx s1 h1 => rw [e1] at p; exact fun m' H' σ' E S' r' => ⟨m', s1, h1, xs, S', r', rb.mono S E, postK_ext p E⟩
      | _ => rw [e1] at p; exact p
theorem sk_tup {n kk : Nat} (hc : X.calm = true) (h : PGs X es (rKs X.K ks)) (hn : (assignEach es X.env).length = n := by rfl) (hst : (assignEach es X.env).findIdx? (·.1) = none := by rfl) : PG X (.Tuple es kk pos) (rK X.K (kT n ks)) :=
  PGw (pg_tup hc h hn hst) fun v σ H Q q => by
    obtain ⟨m, s, h, d, S, r, rd, p⟩ := q
    cases d with
    | tup xs =>
      simp only [RelD] at rd
      obtain ⟨b, us, rfl, hb, hr⟩ := rd
      unfold kT at p
      dsimp only at p
      split at p
      · rename_i hl
        exact ⟨b, us, rfl, SqT.of hb, by rw [← hr.len]; exact hl, m, s, h, xs, S, r, hr, p⟩
      · exact p.elim
    | _ => exact p.elim
theorem ss_asgK {tg : Expr} (he : PE X a (rE X.K W fa)) (hg : PG X tg (rK X.K k)) (hs : swapsWithSole [tg] a pos.line X.env = pure false := by rfl) (hw : swappedStores [tg] a X.env = pure none := by rfl)
    (h1 : (assignEach [tg] X.env).map (·.2) = [assign tg X.env] := by rfl) (hk : ∀ d s h, match k d s h with | .nx _ _ => True | .bad => True | _ => False) : PS X (.Assign [tg] a pos) (rS X.K W (fAsgK k fa)) := PSw (ps_asg he hg hs hw h1) fun En σ H q => by
  refine rd_mono (rS_bind (R := RelD) (f := fa) (g := fun d s h1 => k d s h1) q) fun x H1 ⟨m1, s, h1, d1, S1, r1, q1, p1⟩ => ?_
  refine ⟨m1, s, h1, d1, S1, r1, q1, ?_⟩
  have := hk d1 s h1
  cases e : k d1 s h1 with
  | nx s' h' => rw [e] at p1; exact p1
  | bad => rw [e] at p1; exact p1
  | _ => rw [e] at this; exact this.elim
theorem kok_n {j : Nat} : ∀ d s h, match kN j d s h with | .nx _ _ => True | .bad => True | _ => False := fun _ _ _ => trivial
theorem kok_sub {st : D → D → D → HC → Option HC} : ∀ d s h, match kSub st fo fi d s h with | .nx _ _ => True | .bad => True | _ => False := fun d s h => by
  unfold kSub
  cases fo s h with
  | ok x h1 =>
    dsimp only
    cases fi s h1 with
    | ok y h2 => dsimp only; cases st x y d h2 <;> trivial
    | _ => trivial
  | _ => trivial
theorem kok_nil : ∀ d s h, match ksN d s h with | .nx _ _ => True | .bad => True | _ => False := fun d s h => by
  unfold ksN
  cases d <;> trivial
theorem kok_cons (hk : ∀ d s h, match k d s h with | .nx _ _ => True | .bad => True | _ => False) (hks : ∀ d s h, match ks d s h with | .nx _ _ => True | .bad => True | _ => False) : ∀ d s h, match ksC k ks d s h with | .nx _ _ => True | .bad => True | _ => False := fun d s h => by
  unfold ksC
  cases d with
  | nil => trivial
  | cons x xs =>
    dsimp only
    cases k x s h with
    | nx s1 h1 => exact hks xs s1 h1
    | _ => trivial
theorem kok_t {n : Nat} (hks : ∀ d s h, match ks d s h with | .nx _ _ => True | .bad => True | _ => False) : ∀ d s h, match kT n ks d s h with | .nx _ _ => True | .bad => True | _ => False := fun d s h => by
  unfold kT
  cases d with
  | tup xs =>
    dsimp only
    by_cases hl : xs.length = n
    · rw [if_pos hl]; exact hks xs s h
    · rw [if_neg hl]; trivial
  | _ => trivial
end
end G9

set_option Elab.async false
set_option linter.all false
set_option maxRecDepth 100000
set_option maxHeartbeats 2000000
namespace G9
open PySem PySem.Spec PyProof.Rows L2
/-! ### int(x), str(n) -/
def bInt : List D → HC → Res D
  | [.int i], h => .ok (.int i) h
  | [.bl b], h => .ok (.int (if b then 1 else 0)) h
  | _, _ => .bad
def bStr : List D → HC → Res D
  | [.int i], h => if i.natAbs.log2 < 1920 then .ok (.str (toString i)) h else .bad
  | _, _ => .bad
/-! ### list.remove, of numbers -/
def mRemove : D → List D → HC → Res D
  | .ref n, [.int k], h => (match h[n]? with
    | some (.lst xs) => (match intsD xs with
      | some ns => (match ns.findIdx? fun x => decide (x = k) with
        | some j => .ok .non (h.set n (.lst (xs.eraseIdx j)))
        | none => .bad)
      | none => .bad)
    | _ => .bad)
  | _, _, _ => .bad
section
variable {K : PySem.W.Frag}
theorem cs_int : ClS K (fun xs H Q => (∃ i, xs = [.int i] ∧ Q (.int i) H) ∨ ∃ k, xs = [.bl k] ∧ Q (.int (if k then 1 else 0)) H) bInt := by
  intro W σ m h H ds vs Q S r p
  unfold bInt at p
  split at p
  · obtain ⟨v, rfl, rv⟩ := r.one
    simp only [RelD] at rv
    subst rv
    exact .inl ⟨_, rfl, p _ _ _ Ext.refl S (by simp [RelD])⟩
  · obtain ⟨v, rfl, rv⟩ := r.one
    simp only [RelD] at rv
    subst rv
    exact .inr ⟨_, rfl, p _ _ _ Ext.refl S (by simp [RelD])⟩
  · exact p.elim
theorem cs_str : ClS K (fun xs H Q => ∃ i, xs = [.int i] ∧ i.natAbs.log2 < 1920 ∧ Q (.str (toString i)) H) bStr := by
  intro W σ m h H ds vs Q S r p
  unfold bStr at p
  split at p
  · obtain ⟨v, rfl, rv⟩ := r.one
    simp only [RelD] at rv
    subst rv
    split at p
    · rename_i hl
      exact ⟨_, rfl, hl, p _ _ _ Ext.refl S (by simp [RelD])⟩
    · exact p.elim
  · exact p.elim
theorem eraseIdx_rel {m : Mp} {H : Hp} : ∀ {ds : List D} {vs : List V} (j : Nat), RelDs m H ds vs → RelDs m H (ds.eraseIdx j) (vs.eraseIdx j)
  | [], vs, j, r => by simp only [RelDs] at r; subst r; simp [RelDs]
  | x :: ds, vs, j, r => by
    simp only [RelDs] at r
    obtain ⟨w, ws, rfl, h1, h2⟩ := r
    cases j with
    | zero => exact h2
    | succ j => simp only [List.eraseIdx_cons_succ, RelDs]; exact ⟨_, _, rfl, h1, eraseIdx_rel j h2⟩
theorem erase_map {α β : Type} (f : α → β) : ∀ (l : List α) (j : Nat), (l.map f).eraseIdx j = (l.eraseIdx j).map f
  | [], j => by simp
  | x :: l, 0 => by simp
  | x :: l, j + 1 => by simp [erase_map f l j]
theorem ms_remove : MtS K rRemI mRemove := by
  intro W σ m h H d ds v vs Q S rd r p
  unfold mRemove at p
  split at p
  · split at p
    · rename_i xs hx
      split at p
      · rename_i ns hn
        split at p
        · rename_i j hj
          obtain ⟨a, us, rfl, ha, hv, hr⟩ := S.lst rd hx
          obtain ⟨y, rfl, ry⟩ := r.one
          simp only [RelD] at ry
          have e := intsD_ok hr hn
          subst e
          have h1 := List.findIdx?_eq_some_iff_getElem.mp hj
          obtain ⟨hlt, hk, hno⟩ := h1
          have e2 : (ns.map V.int).eraseIdx j = (ns.eraseIdx j).map V.int := erase_map _ _ _
          obtain ⟨S1, E1⟩ := S.setL ha hv (e2 ▸ eraseIdx_rel j hr)
          refine ⟨a, ns, _, j, rfl, by rw [ry], hv, ?_, ?_, p _ _ _ E1 S1 (by simp [RelD])⟩
          · rw [List.getElem?_eq_getElem hlt]
            simp at hk
            rw [hk]
          · intro i hi
            have := hno i hi
            rw [List.getElem?_eq_getElem (by omega)]
            simp at this
            simpa using this
        · exact p.elim
      · exact p.elim
    · exact p.elim
  · exact p.elim
end
section
variable {X : Cx} {W : WX} {e : Expr} {es : List Expr} {as : EA} {p pos : Pos}
theorem xint (hm : X.mg "int" = none) (ha : PA X (e :: es) (rA X.K W as)) (hg : Gl X "int" := by rfl) (he : starEach (e :: es) X.env = (false, eval e X.env) :: starEach es X.env := by rfl) (hpl : (backTo pos (starEach es X.env)).any (·.1) = false := by rfl) :
    PE X (.Call (.Name "int" p) (e :: es) [] pos) (rE X.K W (fCl bInt as)) := se_clT call_int1 cs_int hm (by decide +kernel) ha hg (by decide) (by decide) he hpl
theorem xstr (hm : X.mg "str" = none) (ha : PA X (e :: es) (rA X.K W as)) (hg : Gl X "str" := by rfl) (he : starEach (e :: es) X.env = (false, eval e X.env) :: starEach es X.env := by rfl) (hpl : (backTo pos (starEach es X.env)).any (·.1) = false := by rfl) :
    PE X (.Call (.Name "str" p) (e :: es) [] pos) (rE X.K W (fCl bStr as)) := se_clT call_str_int cs_str hm (by decide +kernel) ha hg (by decide) (by decide) he hpl
end
/-! ### d[k] += e, numbers -/
def fAugD (o i v : EE) : ES := fun s h => ofR s (o s h) fun x h1 => ofR s (i s h1) fun y h2 => match dGet h2 x y with
  | some (some (.int a)) => ofR s (v s h2) fun z h3 => (match z with
    | .int b => (match stD x y (.int (a + b)) h3 with
      | some h4 => .nx s h4
      | none => .bad)
    | _ => .bad)
  | _ => .bad
section
variable {X : Cx} {W : WX} {o i v : Expr} {fo fi fv : EE} {tpos pos : Pos}
theorem ss_augD (hu : X.A.units + 1 < cLine) (ho : PE X o (rE X.K W fo)) (hi : PE X i (rE X.K W fi)) (hv : PE X v (rE X.K W fv)) (ha : ∀ ov iv new, augStore i ov iv new = (do holding [new, ov, iv] (setItem ov iv new); release [new, ov, iv] []; pure .next) := by intro _ _ _; rfl) :
    PS X (.AugAssign (.Subscript o i tpos) .Add v pos) (rS X.K W (fAugD fo fi fv)) := PSw (ps_daug hu ho hi hv in_add ha) fun En σ H q => by
  obtain ⟨m, s, h, S, r, p⟩ := q
  refine rE_of S r p fun m1 h1 H1 x vx E1 S1 r1 q1 p1 => rE_of S1 r1 p1 fun m2 h2 H2 y vy E2 S2 r2 q2 p2 => ?_
  split at p2
  · rename_i a hg
    obtain ⟨b, rfl, w, g, hw⟩ := dGet_ok S2 (q1.mono S1 E2) q2 hg
    simp only [RelD] at hw
    subst hw
    refine ⟨b, _, rfl, g, rE_of S2 r2 p2 fun m3 h3 H3 z vz E3 S3 r3 q3 p3 => ?_⟩
    split at p3
    · rename_i c
      split at p3
      · rename_i h4 hst
        simp only [RelD] at q3
        obtain ⟨b', H', eb, gp, S4, E4⟩ := stD_ok (v := .int (a + c)) S3 (q1.mono S1 (E2.trans E3)) (q2.mono S2 E3) (by simp only [RelD]) hst
        cases eb
        exact ⟨a, c, rfl, q3, H', gp, p3 _ _ _ E4 S4 (r3.mono S3 E4)⟩
      · exact p3.elim
    · exact p3.elim
  · exact p2.elim
end
end G9

set_option Elab.async false
set_option linter.all false
set_option maxRecDepth 100000
set_option maxHeartbeats 2000000
namespace G9
open PySem L2
/-! ### methods of texts -/
/-- x.strip(signs) -/
def mStrip : D → List D → HC → Res D
  | .str a, [.str b], h => if a.length ≤ 1000 then .ok (.str (Txt.stripChars a b)) h else .bad
  | _, _, _ => .bad
section
variable {K : PySem.W.Frag}
theorem size1000 : 1000 ≤ sizeLine := by decide
theorem ms_strip : MtS K (fun x xs H Q => ∃ a b, x = .str a ∧ xs = [.str b] ∧ a.length ≤ sizeLine ∧ Q (.str (Txt.stripChars a b)) H) mStrip := by
  intro W σ m h H d ds v vs Q S rd r p
  unfold mStrip at p
  split at p
  · split at p
    · rename_i hl
      obtain ⟨w, rfl, rw'⟩ := r.one
      simp only [RelD] at rd rw'
      exact ⟨_, _, rd, by rw [rw'], Nat.le_trans hl size1000, p _ _ _ Ext.refl S (by simp [RelD])⟩
    · exact p.elim
  · exact p.elim
end
end G9

set_option Elab.async false
set_option linter.all false
set_option maxRecDepth 100000
set_option maxHeartbeats 0
namespace G9
open PySem L2

def tabL : Tab := tabOf (([("NoCode", "NoText", false), ("NoCode", "NoDeeds", false), ("NoCode", "NoCount", false), ("NoCode", "NoHouse", false), ("NoCode", "NoCode", true), ("NoCode", "NoSetting", false), ("NoCount", "NoText", false), ("NoCount", "NoDeeds", false), ("NoCount", "NoCount", true), ("NoCount", "NoHouse", false), ("NoCount", "NoCode", false), ("NoCount", "NoSetting", false), ("NoHouse", "NoText", false), ("NoHouse", "NoDeeds", false), ("NoHouse", "NoCount", false), ("NoHouse", "NoHouse", true)] : List (Str × Str × Bool)) ++ ([("NoHouse", "NoCode", false), ("NoHouse", "NoSetting", false), ("NoSetting", "NoText", false), ("NoSetting", "NoDeeds", false), ("NoSetting", "NoCount", false), ("NoSetting", "NoHouse", false), ("NoSetting", "NoCode", false), ("NoSetting", "NoSetting", true), ("NoText", "NoText", true), ("NoText", "NoDeeds", false), ("NoText", "NoCount", false), ("NoText", "NoHouse", false), ("NoText", "NoCode", false), ("NoText", "NoSetting", false)] : List (Str × Str × Bool)))
def m_law_pick : List D → HC → Res D := fnRun 2
    (fRet (fOp opMod (fOp opDiv (fVar 0) (fC (.int 97))) (fVar 1)))
def m_law_seed : List D → HC → Res D := fnRun 2
    (fRet (fOp opMod (fOp opPow (fOp opMod (fOp opAdd (fOp opAdd (fOp opMul (fVar 0) (fC (.int 1103515245))) (fOp opMul (fC (.int 7919)) (fVar 1))) (fC (.int 12345))) (fC (.int 2147483647))) (fC (.int 5))) (fC (.int 2147483647))))
def m_law_code : List D → HC → Res D := fnRun 2
    (fRet (fMt "str" mJoin (fC (.str "")) (fCons (fLc (fItR1 (fOp opAdd (fC (.int 1)) (fOp opMod (fOp opDiv (fVar 0) (fC (.int 5))) (fC (.int 4))))) [1] (gN 1) fYes (fOp opIx (fC (.str "sl")) (fCall 2 m_law_pick (fCons (fCall 2 m_law_seed (fCons (fVar 0) (fCons (fVar 1) fNil))) (fCons (fC (.int 2)) fNil))))) fNil)))
def m_law_setting : List D → HC → Res D := fnRun 4
    (fSeq (fSet 1 (fLst fNil))
    (fSeq (fFor (fItR1 (fOp opAdd (fC (.int 2)) (fOp opMod (fOp opDiv (fVar 0) (fC (.int 7))) (fC (.int 7))))) (gN 2) (fSeq (fSet 3 (fCall 1 m_law_code (fCons (fCall 2 m_law_seed (fCons (fVar 0) (fCons (fOp opAdd (fC (.int 10)) (fVar 2)) fNil))) fNil)))
    (fIfS (fBo (fOp opNotIn (fVar 3) (fVar 1))) (fExpr (fMt "list" mAppend (fVar 1) (fCons (fVar 3) fNil))) fNx)))
    (fSeq (fIfS (fBo (fOp opLt (fCl bLen (fCons (fVar 1) fNil)) (fC (.int 2)))) (fSet 1 (fOp opAdd (fVar 1) (fSl (fLc (fItT (fTup (fCons (fC (.str "sl")) (fCons (fC (.str "ls")) fNil)))) [3] (gN 3) (fBo (fOp opNotIn (fVar 3) (fVar 1))) (fVar 3)) fNoP (fPart (fC (.int 1)))))) fNx)
    (fRet (fTup (fCons (fCl bTuple (fCons (fVar 1) fNil)) (fCons (fOp opEq (fOp opMod (fOp opDiv (fVar 0) (fC (.int 11))) (fC (.int 2))) (fC (.int 0))) (fCons (fOp opAdd (fC (.int 1)) (fCall 2 m_law_pick (fCons (fCall 2 m_law_seed (fCons (fVar 0) (fCons (fC (.int 30)) fNil))) (fCons (fOp opIx (fLst (fCons (fC (.int 60)) (fCons (fC (.int 9)) fNil))) (fOp opMod (fOp opDiv (fVar 0) (fC (.int 13))) (fC (.int 2)))) fNil)))) fNil))))))))
def m_law_cell : List D → HC → Res D := fnRun 2
    (fSeq (fIfS (fBo (fOp opLt (fVar 1) (fCl bLen (fCons (fVar 0) fNil)))) (fRet (fOp opIx (fVar 0) (fVar 1))) fNx)
    (fRet (fC (.int 0))))
def m_law_in : List D → HC → Res D := fnRun 3
    (fRet (fAndV (fIsi "int" (fVar 0)) (fAndV (fNotV (fIsi "bool" (fVar 0))) (fChain opLe opLe (fVar 1) (fVar 0) (fVar 2)))))
def m_law_is_setting : List D → HC → Res D := fnRun 2
    (fSeq (fIfS (fOr (fNot (fTru (fIsi "tuple" (fVar 0)))) (fOr (fBo (fOp opNe (fCl bLen (fCons (fVar 0) fNil)) (fC (.int 3)))) (fNot (fTru (fIsi "tuple" (fOp opIx (fVar 0) (fC (.int 0)))))))) (fRet (fC (.bl false))) fNx)
    (fSeq (fIfS (fNot (fBo (fChain opLe opLe (fC (.int 2)) (fCl bLen (fCons (fOp opIx (fVar 0) (fC (.int 0))) fNil)) (fC (.int 8))))) (fRet (fC (.bl false))) fNx)
    (fSeq (fFor (fItT (fOp opIx (fVar 0) (fC (.int 0)))) (gN 1) (fIfS (fOr (fNot (fTru (fIsi "str" (fVar 1)))) (fOr (fNot (fBo (fChain opLe opLe (fC (.int 1)) (fCl bLen (fCons (fVar 1) fNil)) (fC (.int 4))))) (fBo (fOp opNe (fMt "str" mStrip (fVar 1) (fCons (fC (.str "sl")) fNil)) (fC (.str "")))))) (fRet (fC (.bl false))) fNx))
    (fSeq (fIfS (fOr (fNot (fTru (fIsi "bool" (fOp opIx (fVar 0) (fC (.int 1)))))) (fNot (fTru (fCall 3 m_law_in (fCons (fOp opIx (fVar 0) (fC (.int 2))) (fCons (fC (.int 1)) (fCons (fC (.int 60)) fNil))))))) (fRet (fC (.bl false))) fNx)
    (fRet (fOp opEq (fLenSet (fOp opIx (fVar 0) (fC (.int 0)))) (fCl bLen (fCons (fOp opIx (fVar 0) (fC (.int 0))) fNil))))))))
def m_is_code : List D → HC → Res D := fnRun 2
    (fSeq (fIfS (fOr (fNot (fTru (fIsi "str" (fVar 0)))) (fNot (fBo (fChain opLe opLe (fC (.int 1)) (fCl bLen (fCons (fVar 0) fNil)) (fC (.int 4)))))) (fRet (fC (.bl false))) fNx)
    (fRet (fNotV (fLc (fItS (fVar 0)) [1] (gN 1) (fBo (fOp opNotIn (fVar 1) (fC (.str "sl")))) (fVar 1)))))
def m_is_within : List D → HC → Res D := fnRun 3
    (fRet (fAndV (fIsi "int" (fVar 0)) (fAndV (fNotV (fIsi "bool" (fVar 0))) (fChain opLe opLe (fVar 1) (fVar 0) (fVar 2)))))
def m_is_setting : List D → HC → Res D := fnRun 2
    (fSeq (fIfS (fOr (fNot (fTru (fIsi "tuple" (fVar 0)))) (fOr (fBo (fOp opNe (fCl bLen (fCons (fVar 0) fNil)) (fC (.int 3)))) (fNot (fTru (fIsi "tuple" (fOp opIx (fVar 0) (fC (.int 0)))))))) (fRet (fC (.bl false))) fNx)
    (fSeq (fIfS (fOr (fNot (fBo (fChain opLe opLe (fC (.int 2)) (fCl bLen (fCons (fOp opIx (fVar 0) (fC (.int 0))) fNil)) (fC (.int 8))))) (fTru (fLc (fItT (fOp opIx (fVar 0) (fC (.int 0)))) [1] (gN 1) (fNot (fTru (fCall 1 m_is_code (fCons (fVar 1) fNil)))) (fVar 1)))) (fRet (fC (.bl false))) fNx)
    (fSeq (fIfS (fBo (fOp opNe (fLenSet (fOp opIx (fVar 0) (fC (.int 0)))) (fCl bLen (fCons (fOp opIx (fVar 0) (fC (.int 0))) fNil)))) (fRet (fC (.bl false))) fNx)
    (fRet (fAndV (fIsi "bool" (fOp opIx (fVar 0) (fC (.int 1)))) (fCall 3 m_is_within (fCons (fOp opIx (fVar 0) (fC (.int 2))) (fCons (fC (.int 1)) (fCons (fC (.int 60)) fNil)))))))))
def m_look : List D → HC → Res D := fnRun 1
    (fIfS (fNot (fTru (fCall 1 m_is_setting (fCons (fVar 0) fNil)))) (fRaise "NoSetting") fNx)
def m_Line_init : List D → HC → Res D := fnRun 2
    (fSeq (fExpr (fCall 1 m_look (fCons (fVar 1) fNil)))
    (fSeq (fSetFld "Line" "setting" (fVar 0) (fVar 1))
    (fSeq (fSetFld "Line" "tick_now" (fVar 0) (fC (.int 0)))
    (fSeq (fSetFld "Line" "off" (fVar 0) (fLst fNil))
    (fSeq (fSetFld "Line" "asker" (fVar 0) (fC .non))
    (fSeq (fSetFld "Line" "dialled" (fVar 0) (fC .non))
    (fSeq (fSetFld "Line" "rung" (fVar 0) (fC .non))
    (fSeq (fSetFld "Line" "outside" (fVar 0) (fC (.str "")))
    (fSeq (fSetFld "Line" "inside" (fVar 0) (fLst fNil))
    (fSeq (fSetFld "Line" "queue" (fVar 0) (fLst fNil))
    (fSetFld "Line" "let" (fVar 0) (fLst fNil))))))))))))
def m_beats : List D → HC → Res D := fnRun 3
    (fSeq (fSet 1 (fLst fNil))
    (fSeq (fFor (fItS (fVar 0)) (gN 2) (fExpr (fMt "list" mExtend (fVar 1) (fCons (fOp opAdd (fOp opMul (fLst (fCons (fC (.bl true)) fNil)) (fIf (fBo (fOp opEq (fVar 2) (fC (.str "l")))) (fC (.int 3)) (fC (.int 1)))) (fLst (fCons (fC (.bl false)) fNil))) fNil))))
    (fRet (fOp opAdd (fVar 1) (fOp opMul (fLst (fCons (fC (.bl false)) fNil)) (fOp opSub (fC (.int 4)) (fC (.int 1))))))))
def m_ring : List D → HC → Res D := fnRun 4
    (fSeq (fIfS (fNot (fTru (fCall 1 m_is_code (fCons (fVar 0) fNil)))) (fRaise "NoCode") fNx)
    (fSeq (fIfS (fNot (fTru (fCall 3 m_is_within (fCons (fVar 1) (fCons (fC (.int 0)) (fCons (fC (.int 400)) fNil)))))) (fRaise "NoCount") fNx)
    (fSeq (fSet 2 (fCall 1 m_beats (fCons (fVar 0) fNil)))
    (fRet (fLc (fItR1 (fVar 1)) [3] (gN 3) fYes (fOp opIx (fVar 2) (fOp opMod (fVar 3) (fCl bLen (fCons (fVar 2) fNil)))))))))
def m_meant : List D → HC → Res D := fnRun 5
    (fSeq (fExpr (fCall 1 m_look (fCons (fVar 0) fNil)))
    (fSeq (fIfS (fOr (fNot (fTru (fIsi "list" (fVar 1)))) (fOr (fBo (fOp opGt (fCl bLen (fCons (fVar 1) fNil)) (fC (.int 400)))) (fTru (fLc (fItL (fVar 1)) [2] (gN 2) (fNot (fTru (fIsi "bool" (fVar 2)))) (fVar 2))))) (fRaise "NoCode") fNx)
    (fRet (fLc (fItET (fOp opIx (fVar 0) (fC (.int 0)))) [3, 4] (gT (gsC (gN 3) (gsC (gN 4) gsN))) (fBo (fOp opEq (fCall 2 m_ring (fCons (fVar 4) (fCons (fCl bLen (fCons (fVar 1) fNil)) fNil))) (fVar 1))) (fVar 3)))))
def m_look_house : List D → HC → Res D := fnRun 2
    (fIfS (fNot (fTru (fCall 3 m_is_within (fCons (fVar 1) (fCons (fC (.int 0)) (fCons (fOp opSub (fCl bLen (fCons (fOp opIx (fVar 0) (fC (.int 0))) fNil)) (fC (.int 1))) fNil)))))) (fRaise "NoHouse") fNx)
def m_sure_behind : List D → HC → Res D := fnRun 4
    (fSeq (fExpr (fCall 1 m_look (fCons (fVar 0) fNil)))
    (fSeq (fExpr (fCall 2 m_look_house (fCons (fVar 0) (fCons (fVar 1) fNil))))
    (fSeq (fSet 2 (fCall 2 m_ring (fCons (fOp opIx (fOp opIx (fVar 0) (fC (.int 0))) (fVar 1)) (fCons (fC (.int 400)) fNil))))
    (fSeq (fSet 3 (fC (.int 0)))
    (fSeq (fWhile (fBo (fOp opNe (fCall 2 m_meant (fCons (fVar 0) (fCons (fSl (fVar 2) fNoP (fPart (fVar 3))) fNil))) (fLst (fCons (fVar 1) fNil)))) (fAugI (fun a b => a + b) 3 (fC (.int 1))) 1000)
    (fRet (fVar 3)))))))
def m_all_codes : List D → HC → Res D := fnRun 4
    (fSeq (fSet 0 (fLst (fCons (fC (.str "")) fNil)))
    (fSeq (fSet 1 (fLst fNil))
    (fSeq (fFor (fItR1 (fC (.int 4))) (gN 2) (fSeq (fSet 0 (fOp opAdd (fLc (fItL (fVar 0)) [3] (gN 3) fYes (fOp opAdd (fVar 3) (fC (.str "l")))) (fLc (fItL (fVar 0)) [3] (gN 3) fYes (fOp opAdd (fVar 3) (fC (.str "s"))))))
    (fExpr (fMt "list" mExtend (fVar 1) (fCons (fVar 0) fNil)))))
    (fRet (fVar 1)))))
def m_codes_for : List D → HC → Res D := fnRun 8
    (fSeq (fIfS (fOr (fNot (fTru (fIsi "list" (fVar 0)))) (fOr (fNot (fBo (fChain opLe opLe (fC (.int 2)) (fCl bLen (fCons (fVar 0) fNil)) (fC (.int 8))))) (fTru (fLc (fItL (fVar 0)) [4] (gN 4) (fNot (fTru (fCall 3 m_is_within (fCons (fVar 4) (fCons (fC (.int 0)) (fCons (fC (.int 999)) fNil)))))) (fVar 4))))) (fRaise "NoCount") fNx)
    (fSeq (fSet 1 (fCl bSortA (fCons (fLc (fItL (fCall0 m_all_codes)) [5] (gN 5) fYes (fTup (fCons (fCl bLen (fCons (fCall 1 m_beats (fCons (fVar 5) fNil)) fNil)) (fCons (fVar 5) fNil)))) fNil)))
    (fSeq (fSet 2 (fCl bSortA (fCons (fLc (fItEL (fVar 0)) [6, 4] (gT (gsC (gN 6) (gsC (gN 4) gsN))) fYes (fTup (fCons (fNeg (fVar 4)) (fCons (fVar 6) fNil)))) fNil)))
    (fSeq (fSet 3 (fCl bDict (fCons (fLc (fItEL (fVar 2)) [7, 4, 6] (gT (gsC (gN 7) (gsC (gT (gsC (gN 4) (gsC (gN 6) gsN))) gsN))) fYes (fTup (fCons (fVar 6) (fCons (fOp opIx (fOp opIx (fVar 1) (fVar 7)) (fC (.int 1))) fNil)))) fNil)))
    (fRet (fCl bTuple (fCons (fLc (fItR1 (fCl bLen (fCons (fVar 0) fNil))) [6] (gN 6) fYes (fOp opDGet (fVar 3) (fVar 6))) fNil)))))))
def m_law_looked : List D → HC → Res D := fnRun 2
    (fSeq (fIfS (fBo (fOp opLt (fVar 0) (fC (.int 4)))) (fSeq (fIfS (fBo (fOp opEq (fVar 0) (fC (.int 0)))) (fRet (fMake "Line" 1 m_Line_init (fCons (fVar 1) fNil))) fNx)
    (fSeq (fIfS (fBo (fOp opEq (fVar 0) (fC (.int 1)))) (fRet (fCall 2 m_meant (fCons (fOp opIx (fVar 1) (fC (.int 0))) (fCons (fOp opIx (fVar 1) (fC (.int 1))) fNil)))) fNx)
    (fRet (fIf (fBo (fOp opEq (fVar 0) (fC (.int 2)))) (fCall 2 m_ring (fCons (fOp opIx (fVar 1) (fC (.int 0))) (fCons (fOp opIx (fVar 1) (fC (.int 1))) fNil))) (fCall 2 m_sure_behind (fCons (fOp opIx (fVar 1) (fC (.int 0))) (fCons (fOp opIx (fVar 1) (fC (.int 1))) fNil))))))) fNx)
    (fSeq (fIfS (fBo (fOp opLt (fVar 0) (fC (.int 8)))) (fSeq (fIfS (fBo (fOp opEq (fVar 0) (fC (.int 4)))) (fRet (fCall 1 m_codes_for (fCons (fVar 1) fNil))) fNx)
    (fSeq (fIfS (fBo (fOp opEq (fVar 0) (fC (.int 5)))) fBadS fNx)
    (fRet fBad))) fNx)
    (fRet fBad)))
def m_law_word : List D → HC → Res D := fnRun 3
    (fSeq (fSet 2 (fC (.str "")))
    (fSeq (fTry tabL (fExpr (fCall 2 m_law_looked (fCons (fVar 0) (fCons (fVar 1) fNil))))
    [("NoSetting", (fSet 2 (fC (.str "setting")))), ("NoCode", (fSet 2 (fC (.str "code")))), ("NoHouse", (fSet 2 (fC (.str "house")))), ("NoCount", (fSet 2 (fC (.str "count")))), ("NoDeeds", (fSet 2 (fC (.str "deeds")))), ("NoText", (fSet 2 (fC (.str "text"))))])
    (fRet (fVar 2))))
def m_law_beats : List D → HC → Res D := fnRun 3
    (fSeq (fSet 1 (fLst fNil))
    (fSeq (fFor (fItS (fVar 0)) (gN 2) (fSet 1 (fOp opAdd (fOp opAdd (fVar 1) (fOp opMul (fLst (fCons (fC (.bl true)) fNil)) (fOp opDGet (fDisp [((fC (.str "s")), (fC (.int 1))), ((fC (.str "l")), (fC (.int 3)))]) (fVar 2)))) (fLst (fCons (fC (.bl false)) fNil)))))
    (fRet (fOp opAdd (fVar 1) (fLst (fCons (fC (.bl false)) (fCons (fC (.bl false)) (fCons (fC (.bl false)) fNil))))))))
def m_law_ring : List D → HC → Res D := fnRun 4
    (fSeq (fSet 2 (fCall 1 m_law_beats (fCons (fVar 0) fNil)))
    (fRet (fLc (fItR1 (fVar 1)) [3] (gN 3) fYes (fOp opIx (fVar 2) (fOp opMod (fVar 3) (fCl bLen (fCons (fVar 2) fNil)))))))
def m_law : List D → HC → Res D := fnRun 19
    (fSeq (fSet 1 (fCall 1 m_law_setting (fCons (fCall 2 m_law_seed (fCons (fCall 2 m_law_cell (fCons (fVar 0) (fCons (fC (.int 0)) fNil))) (fCons (fC (.int 0)) fNil))) fNil)))
    (fSeq (fSet 2 (fLst (fCons (fC .non) (fCons (fTup fNil) (fCons (fTup (fCons (fC (.str "s")) fNil)) (fCons (fTup (fCons (fC (.str "s")) (fCons (fC (.str "s")) fNil))) (fCons (fTup (fCons (fC (.str "s")) (fCons (fC (.str "")) fNil))) (fCons (fTup (fCons (fC (.str "s")) (fCons (fC (.str "x")) fNil))) (fCons (fTup (fCons (fC (.str "sssss")) (fCons (fC (.str "s")) fNil))) (fCons (fC (.bl true)) (fCons (fC (.int 0)) (fCons (fC (.int 1)) (fCons (fC (.int 60)) (fCons (fC (.int 61)) (fCons (fLst (fCons (fC (.str "s")) (fCons (fC (.str "l")) fNil))) fNil)))))))))))))))
    (fSeq (fSet 2 (fOp opAdd (fVar 2) (fLst (fCons (fTup (fCons (fC (.str "l")) (fCons (fC (.str "s")) fNil))) (fCons (fNeg (fC (.int 1))) fNil)))))
    (fSeq (fSet 3 (fOp opMod (fCall 2 m_law_cell (fCons (fVar 0) (fCons (fC (.int 1)) fNil))) (fC (.int 3))))
    (fSeq (fSet 4 (fOp opAdd (fOp opAdd (fSl (fVar 1) fNoP (fPart (fVar 3))) (fTup (fCons (fOp opIx (fVar 2) (fOp opMod (fCall 2 m_law_cell (fCons (fVar 0) (fCons (fC (.int 2)) fNil))) (fC (.int 15)))) fNil))) (fSl (fVar 1) (fPart (fOp opAdd (fVar 3) (fC (.int 1)))) fNoP)))
    (fSeq (fSet 4 (fOp opIx (fLst (fCons (fVar 4) (fCons (fVar 4) (fCons (fCl bList (fCons (fVar 1) fNil)) (fCons (fSl (fVar 1) fNoP (fPart (fC (.int 2)))) (fCons (fOp opAdd (fVar 1) (fTup (fCons (fC (.int 1)) fNil))) fNil)))))) (fOp opMod (fCall 2 m_law_cell (fCons (fVar 0) (fCons (fC (.int 3)) fNil))) (fC (.int 5)))))
    (fSeq (fSet 5 (fCall 1 m_law_is_setting (fCons (fVar 4) fNil)))
    (fSeq (fIfS (fBo (fOp opNe (fLst (fCons (fCall 1 m_is_setting (fCons (fVar 1) fNil)) (fCons (fCall 1 m_is_setting (fCons (fVar 4) fNil)) (fCons (fOp opEq (fCall 2 m_law_word (fCons (fC (.int 0)) (fCons (fVar 4) fNil))) (fC (.str ""))) fNil)))) (fLst (fCons (fC (.bl true)) (fCons (fVar 5) (fCons (fVar 5) fNil)))))) (fRet (fC (.bl false))) fNx)
    (fSeq (fPar 6 7 (fCons (fOp opIx (fVar 1) (fC (.int 0))) (fCons (fOp opMod (fCall 2 m_law_cell (fCons (fVar 0) (fCons (fC (.int 4)) fNil))) (fCl bLen (fCons (fOp opIx (fVar 1) (fC (.int 0))) fNil))) fNil)))
    (fSeq (fSet 8 (fOp opIx (fLst (fCons (fOp opMod (fCall 2 m_law_cell (fCons (fVar 0) (fCons (fC (.int 5)) fNil))) (fC (.int 30))) (fCons (fOp opMod (fCall 2 m_law_cell (fCons (fVar 0) (fCons (fC (.int 5)) fNil))) (fC (.int 401))) fNil))) (fOp opMod (fCall 2 m_law_cell (fCons (fVar 0) (fCons (fC (.int 6)) fNil))) (fC (.int 2)))))
    (fSeq (fSet 9 (fCall 2 m_law_ring (fCons (fOp opIx (fVar 6) (fVar 7)) (fCons (fVar 8) fNil))))
    (fSeq (fIfS (fBo (fOp opNe (fCall 2 m_ring (fCons (fOp opIx (fVar 6) (fVar 7)) (fCons (fVar 8) fNil))) (fVar 9))) (fRet (fC (.bl false))) fNx)
    (fSeq (fIfS (fAnd (fBo (fOp opGt (fVar 8) (fC (.int 0)))) (fBo (fOp opEq (fOp opMod (fCall 2 m_law_cell (fCons (fVar 0) (fCons (fC (.int 7)) fNil))) (fC (.int 3))) (fC (.int 0))))) (fSeq (fSet 3 (fOp opMod (fCall 2 m_law_cell (fCons (fVar 0) (fCons (fC (.int 8)) fNil))) (fVar 8)))
    (fSet 9 (fOp opAdd (fOp opAdd (fSl (fVar 9) fNoP (fPart (fVar 3))) (fLst (fCons (fNotV (fOp opIx (fVar 9) (fVar 3))) fNil))) (fSl (fVar 9) (fPart (fOp opAdd (fVar 3) (fC (.int 1)))) fNoP)))) fNx)
    (fSeq (fSet 10 (fLc (fItET (fVar 6)) [11, 12] (gT (gsC (gN 11) (gsC (gN 12) gsN))) (fBo (fOp opEq (fCall 2 m_law_ring (fCons (fVar 12) (fCons (fVar 8) fNil))) (fVar 9))) (fVar 11)))
    (fSeq (fIfS (fBo (fOp opNe (fLc (fItT (fTup (fCons (fCall 2 m_ring (fCons (fOp opIx (fVar 6) (fVar 7)) (fCons (fC (.int 400)) fNil))) (fCons (fCl bList (fCons (fVar 9) fNil)) fNil)))) [18] (gN 18) fYes (fCall 2 m_meant (fCons (fVar 1) (fCons (fVar 18) fNil)))) (fLst (fCons (fLst (fCons (fVar 7) fNil)) (fCons (fVar 10) fNil))))) (fRet (fC (.bl false))) fNx)
    (fSeq (fFor (fItET (fVar 6)) (gT (gsC (gN 11) (gsC (gN 12) gsN))) (fSeq (fSet 13 (fCall 2 m_sure_behind (fCons (fVar 1) (fCons (fVar 11) fNil))))
    (fFor (fItT (fTup (fCons (fOp opSub (fVar 13) (fC (.int 1))) (fCons (fVar 13) fNil)))) (gN 8) (fSeq (fSet 14 (fLc (fItT (fVar 6)) [18] (gN 18) (fBo (fOp opEq (fCall 2 m_law_ring (fCons (fVar 18) (fCons (fCl bMax (fCons (fC (.int 0)) (fCons (fVar 8) fNil))) fNil))) (fCall 2 m_law_ring (fCons (fVar 12) (fCons (fCl bMax (fCons (fC (.int 0)) (fCons (fVar 8) fNil))) fNil))))) (fVar 18)))
    (fIfS (fBo (fOp opNe (fOp opEq (fCl bLen (fCons (fVar 14) fNil)) (fC (.int 1))) (fOp opEq (fVar 8) (fVar 13)))) (fRet (fC (.bl false))) fNx)))))
    (fSeq (fSet 15 (fOp opIx (fLst (fCons (fC .non) (fCons (fTup (fCons (fC (.bl true)) fNil)) (fCons (fLst (fCons (fC (.int 1)) fNil)) (fCons (fOp opMul (fLst (fCons (fC (.bl true)) fNil)) (fC (.int 401))) (fCons (fC (.str "")) (fCons (fLst (fCons (fC .non) fNil)) (fCons (fC (.int 7)) fNil)))))))) (fOp opMod (fCall 2 m_law_cell (fCons (fVar 0) (fCons (fC (.int 9)) fNil))) (fC (.int 7)))))
    (fSeq (fSet 16 (fOp opIx (fLst (fCons (fNeg (fC (.int 1))) (fCons (fC (.int 401)) (fCons (fC .non) (fCons (fC (.bl true)) fNil))))) (fOp opMod (fCall 2 m_law_cell (fCons (fVar 0) (fCons (fC (.int 10)) fNil))) (fC (.int 4)))))
    (fSeq (fSet 17 (fLst (fCons (fCall 2 m_law_word (fCons (fC (.int 1)) (fCons (fTup (fCons (fC .non) (fCons (fVar 15) fNil))) fNil))) (fCons (fCall 2 m_law_word (fCons (fC (.int 1)) (fCons (fTup (fCons (fVar 1) (fCons (fVar 15) fNil))) fNil))) (fCons (fCall 2 m_law_word (fCons (fC (.int 2)) (fCons (fTup (fCons (fC (.str "")) (fCons (fVar 16) fNil))) fNil))) fNil)))))
    (fSeq (fSet 17 (fOp opAdd (fVar 17) (fLst (fCons (fCall 2 m_law_word (fCons (fC (.int 2)) (fCons (fTup (fCons (fC (.str "s")) (fCons (fVar 16) fNil))) fNil))) (fCons (fCall 2 m_law_word (fCons (fC (.int 3)) (fCons (fTup (fCons (fC .non) (fCons (fVar 16) fNil))) fNil))) (fCons (fCall 2 m_law_word (fCons (fC (.int 3)) (fCons (fTup (fCons (fVar 1) (fCons (fVar 16) fNil))) fNil))) fNil))))))
    (fRet (fOp opEq (fVar 17) (fLst (fCons (fC (.str "setting")) (fCons (fC (.str "code")) (fCons (fC (.str "code")) (fCons (fC (.str "count")) (fCons (fC (.str "setting")) (fCons (fC (.str "house")) fNil)))))))))))))))))))))))))))))
end G9

set_option Elab.async false
set_option linter.all false
set_option maxRecDepth 100000
set_option maxHeartbeats 0
namespace G9
open PySem PySem.Spec PyProof.Rows L2

def topS (i : Nat) : Stmt := PySem.Challenge.pw_ringhouses_k02_codes.main.body.getD i (.Pass ⟨0, 0, 0, 0⟩)
abbrev s_law_pick : Stmt := topS 49
abbrev nm_law_pick : List Str := ["seed", "many"]
abbrev s_law_seed : Stmt := topS 48
abbrev nm_law_seed : List Str := ["seed", "k"]
abbrev s_law_code : Stmt := topS 51
abbrev nm_law_code : List Str := ["seed", "k"]
abbrev s_law_setting : Stmt := topS 52
abbrev nm_law_setting : List Str := ["seed", "codes", "k", "code"]
abbrev s_law_cell : Stmt := topS 47
abbrev nm_law_cell : List Str := ["script", "k"]
abbrev s_law_in : Stmt := topS 50
abbrev nm_law_in : List Str := ["thing", "low", "high"]
abbrev s_law_is_setting : Stmt := topS 55
abbrev nm_law_is_setting : List Str := ["thing", "code"]
abbrev s_is_code : Stmt := topS 19
abbrev nm_is_code : List Str := ["thing", "sign"]
abbrev s_is_within : Stmt := topS 18
abbrev nm_is_within : List Str := ["thing", "low", "high"]
abbrev s_is_setting : Stmt := topS 20
abbrev nm_is_setting : List Str := ["thing", "code"]
abbrev s_look : Stmt := topS 21
abbrev nm_look : List Str := ["setting"]
abbrev s_Line_init : Stmt := inClass (topS 31) 0
abbrev nm_Line_init : List Str := ["self", "setting"]
abbrev s_beats : Stmt := topS 23
abbrev nm_beats : List Str := ["code", "found", "sign"]
abbrev s_ring : Stmt := topS 24
abbrev nm_ring : List Str := ["code", "ticks", "one", "tick"]
abbrev s_meant : Stmt := topS 25
abbrev nm_meant : List Str := ["setting", "row", "one", "house", "code"]
abbrev s_look_house : Stmt := topS 22
abbrev nm_look_house : List Str := ["setting", "house"]
abbrev s_sure_behind : Stmt := topS 26
abbrev nm_sure_behind : List Str := ["setting", "house", "row", "ticks"]
abbrev s_all_codes : Stmt := topS 27
abbrev nm_all_codes : List Str := ["found", "codes", "many", "code"]
abbrev s_codes_for : Stmt := topS 28
abbrev nm_codes_for : List Str := ["uses", "codes", "order", "found", "one", "code", "house", "at"]
abbrev s_law_looked : Stmt := topS 57
abbrev nm_law_looked : List Str := ["way", "thing"]
abbrev s_law_word : Stmt := topS 56
abbrev nm_law_word : List Str := ["way", "thing", "caught"]
abbrev s_law_beats : Stmt := topS 53
abbrev nm_law_beats : List Str := ["code", "found", "sign"]
abbrev s_law_ring : Stmt := topS 54
abbrev nm_law_ring : List Str := ["code", "ticks", "one", "tick"]
abbrev s_law : Stmt := topS 58
abbrev nm_law : List Str := ["script", "setting", "odds", "at", "other", "good", "codes", "house", "ticks", "row", "due", "k", "code", "sure", "alike", "bad", "many", "words", "one"]
/-- what the top has written -/
structure Ctx (K : PySem.W.Frag) (mg : Str → Option Value) : Prop where
  b_bool : mg "bool" = none
  b_dict : mg "dict" = none
  b_enumerate : mg "enumerate" = none
  b_int : mg "int" = none
  b_isinstance : mg "isinstance" = none
  b_len : mg "len" = none
  b_list : mg "list" = none
  b_max : mg "max" = none
  b_range : mg "range" = none
  b_set : mg "set" = none
  b_sorted : mg "sorted" = none
  b_str : mg "str" = none
  b_tuple : mg "tuple" = none
  c_LONG : ∃ t, mg "LONG" = some (.int 3 t)
  c_MOST_DEEDS : ∃ t, mg "MOST_DEEDS" = some (.int 100 t)
  c_MOST_SIGNS : ∃ t, mg "MOST_SIGNS" = some (.int 4 t)
  c_REST : ∃ t, mg "REST" = some (.int 4 t)
  x_NoText : mg "NoText" = some (.ref (He.ga K "NoText"))
  x_NoDeeds : mg "NoDeeds" = some (.ref (He.ga K "NoDeeds"))
  x_NoCount : mg "NoCount" = some (.ref (He.ga K "NoCount"))
  x_NoHouse : mg "NoHouse" = some (.ref (He.ga K "NoHouse"))
  x_NoCode : mg "NoCode" = some (.ref (He.ga K "NoCode"))
  x_NoSetting : mg "NoSetting" = some (.ref (He.ga K "NoSetting"))
  tab : TabOk K tabL
  e_NoCode : ExF K mg "NoCode"
  e_NoCount : ExF K mg "NoCount"
  e_NoHouse : ExF K mg "NoHouse"
  e_NoSetting : ExF K mg "NoSetting"
  e_NoText : ExF K mg "NoText"
  cl_Line : Cls K (He.ga K "Line")
  na_Line_asker : NoAttr K (He.ga K "Line") "asker"
  na_Line_dialled : NoAttr K (He.ga K "Line") "dialled"
  na_Line_inside : NoAttr K (He.ga K "Line") "inside"
  na_Line_let : NoAttr K (He.ga K "Line") "let"
  na_Line_off : NoAttr K (He.ga K "Line") "off"
  na_Line_outside : NoAttr K (He.ga K "Line") "outside"
  na_Line_queue : NoAttr K (He.ga K "Line") "queue"
  na_Line_rung : NoAttr K (He.ga K "Line") "rung"
  na_Line_setting : NoAttr K (He.ga K "Line") "setting"
  na_Line_tick_now : NoAttr K (He.ga K "Line") "tick_now"
  mk_Line : Mk K (He.ga K "Line") (He.ma K (He.ga K "Line") "__init__")
  gc_Line : mg "Line" = some (.ref (He.ga K "Line"))
  g_law_pick : mg "_law_pick" = some (.ref (He.ga K "_law_pick"))
  g_law_seed : mg "_law_seed" = some (.ref (He.ga K "_law_seed"))
  g_law_code : mg "_law_code" = some (.ref (He.ga K "_law_code"))
  g_law_setting : mg "_law_setting" = some (.ref (He.ga K "_law_setting"))
  g_law_cell : mg "_law_cell" = some (.ref (He.ga K "_law_cell"))
  g_law_in : mg "_law_in" = some (.ref (He.ga K "_law_in"))
  g_law_is_setting : mg "_law_is_setting" = some (.ref (He.ga K "_law_is_setting"))
  g_is_code : mg "is_code" = some (.ref (He.ga K "is_code"))
  g_is_within : mg "is_within" = some (.ref (He.ga K "is_within"))
  g_is_setting : mg "is_setting" = some (.ref (He.ga K "is_setting"))
  g_look : mg "look" = some (.ref (He.ga K "look"))
  g_beats : mg "beats" = some (.ref (He.ga K "beats"))
  g_ring : mg "ring" = some (.ref (He.ga K "ring"))
  g_meant : mg "meant" = some (.ref (He.ga K "meant"))
  g_look_house : mg "look_house" = some (.ref (He.ga K "look_house"))
  g_sure_behind : mg "sure_behind" = some (.ref (He.ga K "sure_behind"))
  g_all_codes : mg "all_codes" = some (.ref (He.ga K "all_codes"))
  g_codes_for : mg "codes_for" = some (.ref (He.ga K "codes_for"))
  g_law_looked : mg "_law_looked" = some (.ref (He.ga K "_law_looked"))
  g_law_word : mg "_law_word" = some (.ref (He.ga K "_law_word"))
  g_law_beats : mg "_law_beats" = some (.ref (He.ga K "_law_beats"))
  g_law_ring : mg "_law_ring" = some (.ref (He.ga K "_law_ring"))
  g_law : mg "law" = some (.ref (He.ga K "law"))
  f_law_pick : ∃ fd, FunD K "_law_pick" "_law_pick" (defArgs s_law_pick) (defBody s_law_pick) (defScope s_law_pick) [] [] (He.ga K "_law_pick") fd
  f_law_seed : ∃ fd, FunD K "_law_seed" "_law_seed" (defArgs s_law_seed) (defBody s_law_seed) (defScope s_law_seed) [] [] (He.ga K "_law_seed") fd
  f_law_code : ∃ fd, FunD K "_law_code" "_law_code" (defArgs s_law_code) (defBody s_law_code) (defScope s_law_code) [] [] (He.ga K "_law_code") fd
  f_law_setting : ∃ fd, FunD K "_law_setting" "_law_setting" (defArgs s_law_setting) (defBody s_law_setting) (defScope s_law_setting) [] [] (He.ga K "_law_setting") fd
  f_law_cell : ∃ fd, FunD K "_law_cell" "_law_cell" (defArgs s_law_cell) (defBody s_law_cell) (defScope s_law_cell) [] [] (He.ga K "_law_cell") fd
  f_law_in : ∃ fd, FunD K "_law_in" "_law_in" (defArgs s_law_in) (defBody s_law_in) (defScope s_law_in) [] [] (He.ga K "_law_in") fd
  f_law_is_setting : ∃ fd, FunD K "_law_is_setting" "_law_is_setting" (defArgs s_law_is_setting) (defBody s_law_is_setting) (defScope s_law_is_setting) [] [] (He.ga K "_law_is_setting") fd
  f_is_code : ∃ fd, FunD K "is_code" "is_code" (defArgs s_is_code) (defBody s_is_code) (defScope s_is_code) [] [] (He.ga K "is_code") fd
  f_is_within : ∃ fd, FunD K "is_within" "is_within" (defArgs s_is_within) (defBody s_is_within) (defScope s_is_within) [] [] (He.ga K "is_within") fd
  f_is_setting : ∃ fd, FunD K "is_setting" "is_setting" (defArgs s_is_setting) (defBody s_is_setting) (defScope s_is_setting) [] [] (He.ga K "is_setting") fd
  f_look : ∃ fd, FunD K "look" "look" (defArgs s_look) (defBody s_look) (defScope s_look) [] [] (He.ga K "look") fd
  f_Line_init : ∃ fd, FunD K "__init__" "Line.__init__" (defArgs s_Line_init) (defBody s_Line_init) (defScope s_Line_init) [] [] (He.ma K (He.ga K "Line") "__init__") fd
  f_beats : ∃ fd, FunD K "beats" "beats" (defArgs s_beats) (defBody s_beats) (defScope s_beats) [] [] (He.ga K "beats") fd
  f_ring : ∃ fd, FunD K "ring" "ring" (defArgs s_ring) (defBody s_ring) (defScope s_ring) [] [] (He.ga K "ring") fd
  f_meant : ∃ fd, FunD K "meant" "meant" (defArgs s_meant) (defBody s_meant) (defScope s_meant) [] [] (He.ga K "meant") fd
  f_look_house : ∃ fd, FunD K "look_house" "look_house" (defArgs s_look_house) (defBody s_look_house) (defScope s_look_house) [] [] (He.ga K "look_house") fd
  f_sure_behind : ∃ fd, FunD K "sure_behind" "sure_behind" (defArgs s_sure_behind) (defBody s_sure_behind) (defScope s_sure_behind) [] [] (He.ga K "sure_behind") fd
  f_all_codes : ∃ fd, FunD K "all_codes" "all_codes" (defArgs s_all_codes) (defBody s_all_codes) (defScope s_all_codes) [] [] (He.ga K "all_codes") fd
  f_codes_for : ∃ fd, FunD K "codes_for" "codes_for" (defArgs s_codes_for) (defBody s_codes_for) (defScope s_codes_for) [] [] (He.ga K "codes_for") fd
  f_law_looked : ∃ fd, FunD K "_law_looked" "_law_looked" (defArgs s_law_looked) (defBody s_law_looked) (defScope s_law_looked) [] [] (He.ga K "_law_looked") fd
  f_law_word : ∃ fd, FunD K "_law_word" "_law_word" (defArgs s_law_word) (defBody s_law_word) (defScope s_law_word) [] [] (He.ga K "_law_word") fd
  f_law_beats : ∃ fd, FunD K "_law_beats" "_law_beats" (defArgs s_law_beats) (defBody s_law_beats) (defScope s_law_beats) [] [] (He.ga K "_law_beats") fd
  f_law_ring : ∃ fd, FunD K "_law_ring" "_law_ring" (defArgs s_law_ring) (defBody s_law_ring) (defScope s_law_ring) [] [] (He.ga K "_law_ring") fd
  f_law : ∃ fd, FunD K "law" "law" (defArgs s_law) (defBody s_law) (defScope s_law) [] [] (He.ga K "law") fd
def d_law_pick : He.DefD := ⟨("_law_pick", none), "_law_pick", "_law_pick", defArgs s_law_pick, defBody s_law_pick, defScope s_law_pick, [], []⟩
def d_law_seed : He.DefD := ⟨("_law_seed", none), "_law_seed", "_law_seed", defArgs s_law_seed, defBody s_law_seed, defScope s_law_seed, [], []⟩
def d_law_code : He.DefD := ⟨("_law_code", none), "_law_code", "_law_code", defArgs s_law_code, defBody s_law_code, defScope s_law_code, [], []⟩
def d_law_setting : He.DefD := ⟨("_law_setting", none), "_law_setting", "_law_setting", defArgs s_law_setting, defBody s_law_setting, defScope s_law_setting, [], []⟩
def d_law_cell : He.DefD := ⟨("_law_cell", none), "_law_cell", "_law_cell", defArgs s_law_cell, defBody s_law_cell, defScope s_law_cell, [], []⟩
def d_law_in : He.DefD := ⟨("_law_in", none), "_law_in", "_law_in", defArgs s_law_in, defBody s_law_in, defScope s_law_in, [], []⟩
def d_law_is_setting : He.DefD := ⟨("_law_is_setting", none), "_law_is_setting", "_law_is_setting", defArgs s_law_is_setting, defBody s_law_is_setting, defScope s_law_is_setting, [], []⟩
def d_is_code : He.DefD := ⟨("is_code", none), "is_code", "is_code", defArgs s_is_code, defBody s_is_code, defScope s_is_code, [], []⟩
def d_is_within : He.DefD := ⟨("is_within", none), "is_within", "is_within", defArgs s_is_within, defBody s_is_within, defScope s_is_within, [], []⟩
def d_is_setting : He.DefD := ⟨("is_setting", none), "is_setting", "is_setting", defArgs s_is_setting, defBody s_is_setting, defScope s_is_setting, [], []⟩
def d_look : He.DefD := ⟨("look", none), "look", "look", defArgs s_look, defBody s_look, defScope s_look, [], []⟩
def d_Line_init : He.DefD := ⟨("Line", some "__init__"), "__init__", "Line.__init__", defArgs s_Line_init, defBody s_Line_init, defScope s_Line_init, [], []⟩
def d_beats : He.DefD := ⟨("beats", none), "beats", "beats", defArgs s_beats, defBody s_beats, defScope s_beats, [], []⟩
def d_ring : He.DefD := ⟨("ring", none), "ring", "ring", defArgs s_ring, defBody s_ring, defScope s_ring, [], []⟩
def d_meant : He.DefD := ⟨("meant", none), "meant", "meant", defArgs s_meant, defBody s_meant, defScope s_meant, [], []⟩
def d_look_house : He.DefD := ⟨("look_house", none), "look_house", "look_house", defArgs s_look_house, defBody s_look_house, defScope s_look_house, [], []⟩
def d_sure_behind : He.DefD := ⟨("sure_behind", none), "sure_behind", "sure_behind", defArgs s_sure_behind, defBody s_sure_behind, defScope s_sure_behind, [], []⟩
def d_all_codes : He.DefD := ⟨("all_codes", none), "all_codes", "all_codes", defArgs s_all_codes, defBody s_all_codes, defScope s_all_codes, [], []⟩
def d_codes_for : He.DefD := ⟨("codes_for", none), "codes_for", "codes_for", defArgs s_codes_for, defBody s_codes_for, defScope s_codes_for, [], []⟩
def d_law_looked : He.DefD := ⟨("_law_looked", none), "_law_looked", "_law_looked", defArgs s_law_looked, defBody s_law_looked, defScope s_law_looked, [], []⟩
def d_law_word : He.DefD := ⟨("_law_word", none), "_law_word", "_law_word", defArgs s_law_word, defBody s_law_word, defScope s_law_word, [], []⟩
def d_law_beats : He.DefD := ⟨("_law_beats", none), "_law_beats", "_law_beats", defArgs s_law_beats, defBody s_law_beats, defScope s_law_beats, [], []⟩
def d_law_ring : He.DefD := ⟨("_law_ring", none), "_law_ring", "_law_ring", defArgs s_law_ring, defBody s_law_ring, defScope s_law_ring, [], []⟩
def d_law : He.DefD := ⟨("law", none), "law", "law", defArgs s_law, defBody s_law, defScope s_law, [], []⟩
def fns : List He.DefD := [d_law_pick, d_law_seed, d_law_code, d_law_setting, d_law_cell, d_law_in, d_law_is_setting, d_is_code, d_is_within, d_is_setting, d_look, d_Line_init, d_beats, d_ring, d_meant, d_look_house, d_sure_behind, d_all_codes, d_codes_for, d_law_looked, d_law_word, d_law_beats, d_law_ring, d_law]
def fas : List He.Fa := [.free "bool", .free "dict", .free "enumerate", .free "int", .free "isinstance", .free "len", .free "list", .free "max", .free "range", .free "set", .free "sorted", .free "str", .free "tuple", .int "LONG" 3, .int "MOST_DEEDS" 100, .int "MOST_SIGNS" 4, .int "REST" 4, .glo "NoText", .glo "NoDeeds", .glo "NoCount", .glo "NoHouse", .glo "NoCode", .glo "NoSetting", .exm "NoCode" "NoText" false, .exm "NoCode" "NoDeeds" false, .exm "NoCode" "NoCount" false, .exm "NoCode" "NoHouse" false, .exm "NoCode" "NoCode" true, .exm "NoCode" "NoSetting" false, .exm "NoCount" "NoText" false, .exm "NoCount" "NoDeeds" false, .exm "NoCount" "NoCount" true, .exm "NoCount" "NoHouse" false, .exm "NoCount" "NoCode" false, .exm "NoCount" "NoSetting" false, .exm "NoHouse" "NoText" false, .exm "NoHouse" "NoDeeds" false, .exm "NoHouse" "NoCount" false, .exm "NoHouse" "NoHouse" true, .exm "NoHouse" "NoCode" false, .exm "NoHouse" "NoSetting" false, .exm "NoSetting" "NoText" false, .exm "NoSetting" "NoDeeds" false, .exm "NoSetting" "NoCount" false, .exm "NoSetting" "NoHouse" false, .exm "NoSetting" "NoCode" false, .exm "NoSetting" "NoSetting" true, .exm "NoText" "NoText" true, .exm "NoText" "NoDeeds" false, .exm "NoText" "NoCount" false, .exm "NoText" "NoHouse" false, .exm "NoText" "NoCode" false, .exm "NoText" "NoSetting" false, .glo "NoCode", .exc "NoCode", .glo "NoCount", .exc "NoCount", .glo "NoHouse", .exc "NoHouse", .glo "NoSetting", .exc "NoSetting", .glo "NoText", .exc "NoText", .cls "Line", .noat "Line" "asker", .noat "Line" "dialled", .noat "Line" "inside", .noat "Line" "let", .noat "Line" "off", .noat "Line" "outside", .noat "Line" "queue", .noat "Line" "rung", .noat "Line" "setting", .noat "Line" "tick_now", .mkr "Line", .glo "Line", .glo "_law_pick", .glo "_law_seed", .glo "_law_code", .glo "_law_setting", .glo "_law_cell", .glo "_law_in", .glo "_law_is_setting", .glo "is_code", .glo "is_within", .glo "is_setting", .glo "look", .glo "beats", .glo "ring", .glo "meant", .glo "look_house", .glo "sure_behind", .glo "all_codes", .glo "codes_for", .glo "_law_looked", .glo "_law_word", .glo "_law_beats", .glo "_law_ring", .glo "law"]
theorem ctx_of {K : PySem.W.Frag} {h : Heap} {mg : Str → Option Value} (X : K.In h) (G : h.Ns mainGlobals mg) (c : He.SaysD fas fns K) : Ctx K mg :=
  ⟨He.free_ok X G (c.fact 0 (f := .free "bool") rfl),
   He.free_ok X G (c.fact 1 (f := .free "dict") rfl),
   He.free_ok X G (c.fact 2 (f := .free "enumerate") rfl),
   He.free_ok X G (c.fact 3 (f := .free "int") rfl),
   He.free_ok X G (c.fact 4 (f := .free "isinstance") rfl),
   He.free_ok X G (c.fact 5 (f := .free "len") rfl),
   He.free_ok X G (c.fact 6 (f := .free "list") rfl),
   He.free_ok X G (c.fact 7 (f := .free "max") rfl),
   He.free_ok X G (c.fact 8 (f := .free "range") rfl),
   He.free_ok X G (c.fact 9 (f := .free "set") rfl),
   He.free_ok X G (c.fact 10 (f := .free "sorted") rfl),
   He.free_ok X G (c.fact 11 (f := .free "str") rfl),
   He.free_ok X G (c.fact 12 (f := .free "tuple") rfl),
   He.int_ok X G (c.fact 13 (f := .int "LONG" 3) rfl),
   He.int_ok X G (c.fact 14 (f := .int "MOST_DEEDS" 100) rfl),
   He.int_ok X G (c.fact 15 (f := .int "MOST_SIGNS" 4) rfl),
   He.int_ok X G (c.fact 16 (f := .int "REST" 4) rfl),
   He.glo_ok X G (c.fact 17 (f := .glo "NoText") rfl),
   He.glo_ok X G (c.fact 18 (f := .glo "NoDeeds") rfl),
   He.glo_ok X G (c.fact 19 (f := .glo "NoCount") rfl),
   He.glo_ok X G (c.fact 20 (f := .glo "NoHouse") rfl),
   He.glo_ok X G (c.fact 21 (f := .glo "NoCode") rfl),
   He.glo_ok X G (c.fact 22 (f := .glo "NoSetting") rfl),
   tabOf_ok (tabs_cons (He.exm_ok (c.fact 23 (f := .exm "NoCode" "NoText" false) rfl)) (tabs_cons (He.exm_ok (c.fact 24 (f := .exm "NoCode" "NoDeeds" false) rfl)) (tabs_cons (He.exm_ok (c.fact 25 (f := .exm "NoCode" "NoCount" false) rfl)) (tabs_cons (He.exm_ok (c.fact 26 (f := .exm "NoCode" "NoHouse" false) rfl)) (tabs_cons (He.exm_ok (c.fact 27 (f := .exm "NoCode" "NoCode" true) rfl)) (tabs_cons (He.exm_ok (c.fact 28 (f := .exm "NoCode" "NoSetting" false) rfl)) (tabs_cons (He.exm_ok (c.fact 29 (f := .exm "NoCount" "NoText" false) rfl)) (tabs_cons (He.exm_ok (c.fact 30 (f := .exm "NoCount" "NoDeeds" false) rfl)) (tabs_cons (He.exm_ok (c.fact 31 (f := .exm "NoCount" "NoCount" true) rfl)) (tabs_cons (He.exm_ok (c.fact 32 (f := .exm "NoCount" "NoHouse" false) rfl)) (tabs_cons (He.exm_ok (c.fact 33 (f := .exm "NoCount" "NoCode" false) rfl)) (tabs_cons (He.exm_ok (c.fact 34 (f := .exm "NoCount" "NoSetting" false) rfl)) (tabs_cons (He.exm_ok (c.fact 35 (f := .exm "NoHouse" "NoText" false) rfl)) (tabs_cons (He.exm_ok (c.fact 36 (f := .exm "NoHouse" "NoDeeds" false) rfl)) (tabs_cons (He.exm_ok (c.fact 37 (f := .exm "NoHouse" "NoCount" false) rfl)) (tabs_cons (He.exm_ok (c.fact 38 (f := .exm "NoHouse" "NoHouse" true) rfl)) (tabs_cons (He.exm_ok (c.fact 39 (f := .exm "NoHouse" "NoCode" false) rfl)) (tabs_cons (He.exm_ok (c.fact 40 (f := .exm "NoHouse" "NoSetting" false) rfl)) (tabs_cons (He.exm_ok (c.fact 41 (f := .exm "NoSetting" "NoText" false) rfl)) (tabs_cons (He.exm_ok (c.fact 42 (f := .exm "NoSetting" "NoDeeds" false) rfl)) (tabs_cons (He.exm_ok (c.fact 43 (f := .exm "NoSetting" "NoCount" false) rfl)) (tabs_cons (He.exm_ok (c.fact 44 (f := .exm "NoSetting" "NoHouse" false) rfl)) (tabs_cons (He.exm_ok (c.fact 45 (f := .exm "NoSetting" "NoCode" false) rfl)) (tabs_cons (He.exm_ok (c.fact 46 (f := .exm "NoSetting" "NoSetting" true) rfl)) (tabs_cons (He.exm_ok (c.fact 47 (f := .exm "NoText" "NoText" true) rfl)) (tabs_cons (He.exm_ok (c.fact 48 (f := .exm "NoText" "NoDeeds" false) rfl)) (tabs_cons (He.exm_ok (c.fact 49 (f := .exm "NoText" "NoCount" false) rfl)) (tabs_cons (He.exm_ok (c.fact 50 (f := .exm "NoText" "NoHouse" false) rfl)) (tabs_cons (He.exm_ok (c.fact 51 (f := .exm "NoText" "NoCode" false) rfl)) (tabs_cons (He.exm_ok (c.fact 52 (f := .exm "NoText" "NoSetting" false) rfl)) tabs_nil)))))))))))))))))))))))))))))),
   exf_of X G (c.fact 53 (f := .glo "NoCode") rfl) (c.fact 54 (f := .exc "NoCode") rfl),
   exf_of X G (c.fact 55 (f := .glo "NoCount") rfl) (c.fact 56 (f := .exc "NoCount") rfl),
   exf_of X G (c.fact 57 (f := .glo "NoHouse") rfl) (c.fact 58 (f := .exc "NoHouse") rfl),
   exf_of X G (c.fact 59 (f := .glo "NoSetting") rfl) (c.fact 60 (f := .exc "NoSetting") rfl),
   exf_of X G (c.fact 61 (f := .glo "NoText") rfl) (c.fact 62 (f := .exc "NoText") rfl),
   He.cls_ok (c.fact 63 (f := .cls "Line") rfl),
   He.noat_ok (c.fact 64 (f := .noat "Line" "asker") rfl),
   He.noat_ok (c.fact 65 (f := .noat "Line" "dialled") rfl),
   He.noat_ok (c.fact 66 (f := .noat "Line" "inside") rfl),
   He.noat_ok (c.fact 67 (f := .noat "Line" "let") rfl),
   He.noat_ok (c.fact 68 (f := .noat "Line" "off") rfl),
   He.noat_ok (c.fact 69 (f := .noat "Line" "outside") rfl),
   He.noat_ok (c.fact 70 (f := .noat "Line" "queue") rfl),
   He.noat_ok (c.fact 71 (f := .noat "Line" "rung") rfl),
   He.noat_ok (c.fact 72 (f := .noat "Line" "setting") rfl),
   He.noat_ok (c.fact 73 (f := .noat "Line" "tick_now") rfl),
   He.mkr_ok (c.fact 74 (f := .mkr "Line") rfl),
   He.glo_ok X G (c.fact 75 (f := .glo "Line") rfl),
   He.glo_ok X G (c.fact 76 (f := .glo "_law_pick") rfl),
   He.glo_ok X G (c.fact 77 (f := .glo "_law_seed") rfl),
   He.glo_ok X G (c.fact 78 (f := .glo "_law_code") rfl),
   He.glo_ok X G (c.fact 79 (f := .glo "_law_setting") rfl),
   He.glo_ok X G (c.fact 80 (f := .glo "_law_cell") rfl),
   He.glo_ok X G (c.fact 81 (f := .glo "_law_in") rfl),
   He.glo_ok X G (c.fact 82 (f := .glo "_law_is_setting") rfl),
   He.glo_ok X G (c.fact 83 (f := .glo "is_code") rfl),
   He.glo_ok X G (c.fact 84 (f := .glo "is_within") rfl),
   He.glo_ok X G (c.fact 85 (f := .glo "is_setting") rfl),
   He.glo_ok X G (c.fact 86 (f := .glo "look") rfl),
   He.glo_ok X G (c.fact 87 (f := .glo "beats") rfl),
   He.glo_ok X G (c.fact 88 (f := .glo "ring") rfl),
   He.glo_ok X G (c.fact 89 (f := .glo "meant") rfl),
   He.glo_ok X G (c.fact 90 (f := .glo "look_house") rfl),
   He.glo_ok X G (c.fact 91 (f := .glo "sure_behind") rfl),
   He.glo_ok X G (c.fact 92 (f := .glo "all_codes") rfl),
   He.glo_ok X G (c.fact 93 (f := .glo "codes_for") rfl),
   He.glo_ok X G (c.fact 94 (f := .glo "_law_looked") rfl),
   He.glo_ok X G (c.fact 95 (f := .glo "_law_word") rfl),
   He.glo_ok X G (c.fact 96 (f := .glo "_law_beats") rfl),
   He.glo_ok X G (c.fact 97 (f := .glo "_law_ring") rfl),
   He.glo_ok X G (c.fact 98 (f := .glo "law") rfl),
   c.def_ 0 (d := d_law_pick) rfl,
   c.def_ 1 (d := d_law_seed) rfl,
   c.def_ 2 (d := d_law_code) rfl,
   c.def_ 3 (d := d_law_setting) rfl,
   c.def_ 4 (d := d_law_cell) rfl,
   c.def_ 5 (d := d_law_in) rfl,
   c.def_ 6 (d := d_law_is_setting) rfl,
   c.def_ 7 (d := d_is_code) rfl,
   c.def_ 8 (d := d_is_within) rfl,
   c.def_ 9 (d := d_is_setting) rfl,
   c.def_ 10 (d := d_look) rfl,
   c.def_ 11 (d := d_Line_init) rfl,
   c.def_ 12 (d := d_beats) rfl,
   c.def_ 13 (d := d_ring) rfl,
   c.def_ 14 (d := d_meant) rfl,
   c.def_ 15 (d := d_look_house) rfl,
   c.def_ 16 (d := d_sure_behind) rfl,
   c.def_ 17 (d := d_all_codes) rfl,
   c.def_ 18 (d := d_codes_for) rfl,
   c.def_ 19 (d := d_law_looked) rfl,
   c.def_ 20 (d := d_law_word) rfl,
   c.def_ 21 (d := d_law_beats) rfl,
   c.def_ 22 (d := d_law_ring) rfl,
   c.def_ 23 (d := d_law) rfl⟩
theorem sc_law_pick : FnScope nm_law_pick ["seed", "many"] (defScope s_law_pick) := ⟨rfl, rfl, rfl, by decide +kernel, rfl, by decide +kernel, by decide +kernel⟩
theorem sc_law_seed : FnScope nm_law_seed ["seed", "k"] (defScope s_law_seed) := ⟨rfl, rfl, rfl, by decide +kernel, rfl, by decide +kernel, by decide +kernel⟩
theorem sc_law_code : FnScope nm_law_code ["seed"] (defScope s_law_code) := ⟨rfl, rfl, rfl, by decide +kernel, rfl, by decide +kernel, by decide +kernel⟩
theorem sc_law_setting : FnScope nm_law_setting ["seed"] (defScope s_law_setting) := ⟨rfl, rfl, rfl, by decide +kernel, rfl, by decide +kernel, by decide +kernel⟩
theorem sc_law_cell : FnScope nm_law_cell ["script", "k"] (defScope s_law_cell) := ⟨rfl, rfl, rfl, by decide +kernel, rfl, by decide +kernel, by decide +kernel⟩
theorem sc_law_in : FnScope nm_law_in ["thing", "low", "high"] (defScope s_law_in) := ⟨rfl, rfl, rfl, by decide +kernel, rfl, by decide +kernel, by decide +kernel⟩
theorem sc_law_is_setting : FnScope nm_law_is_setting ["thing"] (defScope s_law_is_setting) := ⟨rfl, rfl, rfl, by decide +kernel, rfl, by decide +kernel, by decide +kernel⟩
theorem sc_is_code : FnScope nm_is_code ["thing"] (defScope s_is_code) := ⟨rfl, rfl, rfl, by decide +kernel, rfl, by decide +kernel, by decide +kernel⟩
theorem sc_is_within : FnScope nm_is_within ["thing", "low", "high"] (defScope s_is_within) := ⟨rfl, rfl, rfl, by decide +kernel, rfl, by decide +kernel, by decide +kernel⟩
theorem sc_is_setting : FnScope nm_is_setting ["thing"] (defScope s_is_setting) := ⟨rfl, rfl, rfl, by decide +kernel, rfl, by decide +kernel, by decide +kernel⟩
theorem sc_look : FnScope nm_look ["setting"] (defScope s_look) := ⟨rfl, rfl, rfl, by decide +kernel, rfl, by decide +kernel, by decide +kernel⟩
theorem sc_Line_init : FnScope nm_Line_init ["self", "setting"] (defScope s_Line_init) := ⟨rfl, rfl, rfl, by decide +kernel, rfl, by decide +kernel, by decide +kernel⟩
theorem sc_beats : FnScope nm_beats ["code"] (defScope s_beats) := ⟨rfl, rfl, rfl, by decide +kernel, rfl, by decide +kernel, by decide +kernel⟩
theorem sc_ring : FnScope nm_ring ["code", "ticks"] (defScope s_ring) := ⟨rfl, rfl, rfl, by decide +kernel, rfl, by decide +kernel, by decide +kernel⟩
theorem sc_meant : FnScope nm_meant ["setting", "row"] (defScope s_meant) := ⟨rfl, rfl, rfl, by decide +kernel, rfl, by decide +kernel, by decide +kernel⟩
theorem sc_look_house : FnScope nm_look_house ["setting", "house"] (defScope s_look_house) := ⟨rfl, rfl, rfl, by decide +kernel, rfl, by decide +kernel, by decide +kernel⟩
theorem sc_sure_behind : FnScope nm_sure_behind ["setting", "house"] (defScope s_sure_behind) := ⟨rfl, rfl, rfl, by decide +kernel, rfl, by decide +kernel, by decide +kernel⟩
theorem sc_all_codes : FnScope nm_all_codes [] (defScope s_all_codes) := ⟨rfl, rfl, rfl, by decide +kernel, rfl, by decide +kernel, by decide +kernel⟩
theorem sc_codes_for : FnScope nm_codes_for ["uses"] (defScope s_codes_for) := ⟨rfl, rfl, rfl, by decide +kernel, rfl, by decide +kernel, by decide +kernel⟩
theorem sc_law_looked : FnScope nm_law_looked ["way", "thing"] (defScope s_law_looked) := ⟨rfl, rfl, rfl, by decide +kernel, rfl, by decide +kernel, by decide +kernel⟩
theorem sc_law_word : FnScope nm_law_word ["way", "thing"] (defScope s_law_word) := ⟨rfl, rfl, rfl, by decide +kernel, rfl, by decide +kernel, by decide +kernel⟩
theorem sc_law_beats : FnScope nm_law_beats ["code"] (defScope s_law_beats) := ⟨rfl, rfl, rfl, by decide +kernel, rfl, by decide +kernel, by decide +kernel⟩
theorem sc_law_ring : FnScope nm_law_ring ["code", "ticks"] (defScope s_law_ring) := ⟨rfl, rfl, rfl, by decide +kernel, rfl, by decide +kernel, by decide +kernel⟩
theorem sc_law : FnScope nm_law ["script"] (defScope s_law) := ⟨rfl, rfl, rfl, by decide +kernel, rfl, by decide +kernel, by decide +kernel⟩
section
variable {P : Program} {w : World} {K : PySem.W.Frag} {mg : Str → Option Value} {base : Heap}
theorem ok_law_pick (T : Ctx K mg) : Fn P w K mg base "_law_pick" 1 2 m_law_pick := by
  obtain ⟨fd, F⟩ := T.f_law_pick
  refine ⟨_, fd, ["seed", "many"], fn_ok (k := 0) (N := nm_law_pick) F sc_law_pick (fun cdv A outer s H E hr => ?_), T.g_law_pick, F.kp, F.bindsN fun _ _ _ _ _ _ us hl => match us, hl with | [_, _], _ => rfl⟩
  exact (ss_one (ss_ret (xmod (xdiv (sv 0) se_int) (sv 1))))
theorem ok_law_seed (T : Ctx K mg) : Fn P w K mg base "_law_seed" 1 2 m_law_seed := by
  obtain ⟨fd, F⟩ := T.f_law_seed
  refine ⟨_, fd, ["seed", "k"], fn_ok (k := 0) (N := nm_law_seed) F sc_law_seed (fun cdv A outer s H E hr => ?_), T.g_law_seed, F.kp, F.bindsN fun _ _ _ _ _ _ us hl => match us, hl with | [_, _], _ => rfl⟩
  exact (ss_one (ss_ret (xmod (xpow (xmod (xadd (xadd (xmul (sv 0) se_int) (xmul se_int (sv 1))) se_int) se_int) se_int) se_int)))
theorem ok_law_code (T : Ctx K mg) : Fn P w K mg base "_law_code" 2 1 m_law_code := by
  obtain ⟨fd, F⟩ := T.f_law_code
  refine ⟨_, fd, ["seed"], fn_ok (k := 1) (N := nm_law_code) F sc_law_code (fun cdv A outer s H E hr => ?_), T.g_law_code, F.kp, F.bindsN fun _ _ _ _ _ _ us hl => match us, hl with | [_], _ => rfl⟩
  exact (ss_one (ss_ret (se_mt PySem.F.plainAttrs_str PySem.F.slot_str_join PySem.F.type_str_join mt_join ms_join se_str (sa_cons (se_lc (own := [("k", 1)]) rfl sc_law_code.nd (blkOk_by (N := nm_law_code) (sc := defScope s_law_code) (by decide +kernel)) (si_range1 T.b_range (xadd se_int (xmod (xdiv (sv 0) se_int) se_int))) (fun _ _ _ _ _ => (sg_name sc_law_code.nd)) (fun _ _ _ _ _ => sts_nil) (fun _ _ _ _ _ => (se_ix se_str (se_call (ok_law_pick T) (hr.mono (by decide)) takes0 (sa_cons (se_call (ok_law_seed T) (hr.mono (by decide)) takes0 (sa_cons (sv 0) (sa_cons (sv 1) sa_nil))) (sa_cons se_int sa_nil)))))) sa_nil))))
theorem ok_law_setting (T : Ctx K mg) : Fn P w K mg base "_law_setting" 3 1 m_law_setting := by
  obtain ⟨fd, F⟩ := T.f_law_setting
  refine ⟨_, fd, ["seed"], fn_ok (k := 2) (N := nm_law_setting) F sc_law_setting (fun cdv A outer s H E hr => ?_), T.g_law_setting, F.kp, F.bindsN fun _ _ _ _ _ _ us hl => match us, hl with | [_], _ => rfl⟩
  exact (ss_cons (ss_set sc_law_setting.nd (se_lst sa_nil))
    (ss_cons (ss_for (vs := [2]) (passes_of rfl) rfl (si_range1 T.b_range (xadd se_int (xmod (xdiv (sv 0) se_int) se_int))) (sg_name sc_law_setting.nd) (ss_cons (ss_set sc_law_setting.nd (se_call (ok_law_code T) (hr.mono (by decide)) (takes_of rfl rfl rfl rfl) (sa_cons (se_call (ok_law_seed T) (hr.mono (by decide)) (takes_of rfl rfl rfl rfl) (sa_cons (sv 0) (sa_cons (xadd se_int (sv 2)) sa_nil))) sa_nil)))
    (ss_one (ss_if (tc (c_notIn hr) (sv 3) (sv 1)) (ss_one (ss_expr (se_mt PySem.F.plainAttrs_list PySem.F.slot_list_append PySem.F.type_list_append mt_append ms_append (sv 1) (sa_cons (sv 3) sa_nil)))) ss_nil))))
    (ss_cons (ss_if (tc c_lt (xlen T.b_len (sa_cons (sv 1) sa_nil)) se_int) (ss_one (ss_set sc_law_setting.nd (xadd (sv 1) (se_sl (se_lc (own := [("code", 3)]) rfl sc_law_setting.nd (blkOk_by (N := nm_law_setting) (sc := defScope s_law_setting) (by decide +kernel)) (si_tup (se_tup (sa_cons se_str (sa_cons se_str sa_nil)))) (fun _ _ _ _ _ => (sg_name sc_law_setting.nd)) (fun _ _ _ _ _ => (sts_one (tc (c_notIn hr) (sv 3) (sv 1)))) (fun _ _ _ _ _ => (sv 3))) so_none (so_some se_int))))) ss_nil)
    (ss_one (ss_ret (se_tup (sa_cons (xtuple T.b_tuple (sa_cons (sv 1) sa_nil)) (sa_cons (xc (c_eq hr) (xmod (xdiv (sv 0) se_int) se_int) se_int) (sa_cons (xadd se_int (se_call (ok_law_pick T) (hr.mono (by decide)) (takes_of rfl rfl rfl rfl) (sa_cons (se_call (ok_law_seed T) (hr.mono (by decide)) (takes_of rfl rfl rfl rfl) (sa_cons (sv 0) (sa_cons se_int sa_nil))) (sa_cons (se_ix (se_lst (sa_cons se_int (sa_cons se_int sa_nil))) (xmod (xdiv (sv 0) se_int) se_int)) sa_nil)))) sa_nil)))))))))
theorem ok_law_cell (T : Ctx K mg) : Fn P w K mg base "_law_cell" 1 2 m_law_cell := by
  obtain ⟨fd, F⟩ := T.f_law_cell
  refine ⟨_, fd, ["script", "k"], fn_ok (k := 0) (N := nm_law_cell) F sc_law_cell (fun cdv A outer s H E hr => ?_), T.g_law_cell, F.kp, F.bindsN fun _ _ _ _ _ _ us hl => match us, hl with | [_, _], _ => rfl⟩
  exact (ss_cons (ss_if (tc c_lt (sv 1) (xlen T.b_len (sa_cons (sv 0) sa_nil))) (ss_one (ss_ret (se_ix (sv 0) (sv 1)))) ss_nil)
    (ss_one (ss_ret se_int)))
theorem ok_law_in (T : Ctx K mg) : Fn P w K mg base "_law_in" 1 3 m_law_in := by
  obtain ⟨fd, F⟩ := T.f_law_in
  refine ⟨_, fd, ["thing", "low", "high"], fn_ok (k := 0) (N := nm_law_in) F sc_law_in (fun cdv A outer s H E hr => ?_), T.g_law_in, F.kp, F.bindsN fun _ _ _ _ _ _ us hl => match us, hl with | [_, _, _], _ => rfl⟩
  exact (ss_one (ss_ret (se_andV (se_isi T.b_isinstance T.b_int bt_int (sv 0)) (se_andV (se_notV (se_isi T.b_isinstance T.b_bool bt_bool (sv 0))) (se_one (xc2 c_le c_le (sv 1) (sv 0) (sv 2)))))))
theorem ok_law_is_setting (T : Ctx K mg) : Fn P w K mg base "_law_is_setting" 2 1 m_law_is_setting := by
  obtain ⟨fd, F⟩ := T.f_law_is_setting
  refine ⟨_, fd, ["thing"], fn_ok (k := 1) (N := nm_law_is_setting) F sc_law_is_setting (fun cdv A outer s H E hr => ?_), T.g_law_is_setting, F.kp, F.bindsN fun _ _ _ _ _ _ us hl => match us, hl with | [_], _ => rfl⟩
  exact (ss_cons (ss_if (PW.pt (sw_or (st_not (st_tru (se_isi T.b_isinstance T.b_tuple bt_tuple (sv 0)))) (sw_or (tc (c_ne hr) (xlen T.b_len (sa_cons (sv 0) sa_nil)) se_int) (sw_or1 (st_not (st_tru (se_isi T.b_isinstance T.b_tuple bt_tuple (se_ix (sv 0) se_int)))))))) (ss_one (ss_ret se_bl)) ss_nil)
    (ss_cons (ss_if (st_not (tc2 c_le c_le se_int (xlen T.b_len (sa_cons (se_ix (sv 0) se_int) sa_nil)) se_int)) (ss_one (ss_ret se_bl)) ss_nil)
    (ss_cons (ss_for (vs := [1]) (passes_of rfl) rfl (si_tup (se_ix (sv 0) se_int)) (sg_name sc_law_is_setting.nd) (ss_one (ss_if (PW.pt (sw_or (st_not (st_tru (se_isi T.b_isinstance T.b_str bt_str (sv 1)))) (sw_or (st_not (tc2 c_le c_le se_int (xlen T.b_len (sa_cons (sv 1) sa_nil)) se_int)) (sw_or1 (tc (c_ne hr) (se_mt PySem.F.plainAttrs_str PySem.F.slot_str_strip PySem.F.type_str_strip mt_stripChars ms_strip (sv 1) (sa_cons se_str sa_nil)) se_str))))) (ss_one (ss_ret se_bl)) ss_nil)))
    (ss_cons (ss_if (PW.pt (sw_or (st_not (st_tru (se_isi T.b_isinstance T.b_bool bt_bool (se_ix (sv 0) se_int)))) (sw_or1 (st_not (st_tru (se_call (ok_law_in T) (hr.mono (by decide)) (takes_of rfl rfl rfl rfl) (sa_cons (se_ix (sv 0) se_int) (sa_cons se_int (sa_cons se_int sa_nil))))))))) (ss_one (ss_ret se_bl)) ss_nil)
    (ss_one (ss_ret (xc (c_eq hr) (se_lenSet rfl T.b_len T.b_set (se_ix (sv 0) se_int)) (xlen T.b_len (sa_cons (se_ix (sv 0) se_int) sa_nil)))))))))
theorem ok_is_code (T : Ctx K mg) : Fn P w K mg base "is_code" 1 1 m_is_code := by
  obtain ⟨fd, F⟩ := T.f_is_code
  refine ⟨_, fd, ["thing"], fn_ok (k := 0) (N := nm_is_code) F sc_is_code (fun cdv A outer s H E hr => ?_), T.g_is_code, F.kp, F.bindsN fun _ _ _ _ _ _ us hl => match us, hl with | [_], _ => rfl⟩
  exact (ss_cons (ss_if (PW.pt (sw_or (st_not (st_tru (se_isi T.b_isinstance T.b_str bt_str (sv 0)))) (sw_or1 (st_not (tc2 c_le c_le se_int (xlen T.b_len (sa_cons (sv 0) sa_nil)) (se_gint T.c_MOST_SIGNS)))))) (ss_one (ss_ret se_bl)) ss_nil)
    (ss_one (ss_ret (se_notV (se_lc (own := [("sign", 1)]) rfl sc_is_code.nd (blkOk_by (N := nm_is_code) (sc := defScope s_is_code) (by decide +kernel)) (si_str (sv 0)) (fun _ _ _ _ _ => (sg_name sc_is_code.nd)) (fun _ _ _ _ _ => (sts_one (tc (c_notIn hr) (sv 1) se_str))) (fun _ _ _ _ _ => (sv 1)))))))
theorem ok_is_within (T : Ctx K mg) : Fn P w K mg base "is_within" 1 3 m_is_within := by
  obtain ⟨fd, F⟩ := T.f_is_within
  refine ⟨_, fd, ["thing", "low", "high"], fn_ok (k := 0) (N := nm_is_within) F sc_is_within (fun cdv A outer s H E hr => ?_), T.g_is_within, F.kp, F.bindsN fun _ _ _ _ _ _ us hl => match us, hl with | [_, _, _], _ => rfl⟩
  exact (ss_one (ss_ret (se_andV (se_isi T.b_isinstance T.b_int bt_int (sv 0)) (se_andV (se_notV (se_isi T.b_isinstance T.b_bool bt_bool (sv 0))) (se_one (xc2 c_le c_le (sv 1) (sv 0) (sv 2)))))))
theorem ok_is_setting (T : Ctx K mg) : Fn P w K mg base "is_setting" 2 1 m_is_setting := by
  obtain ⟨fd, F⟩ := T.f_is_setting
  refine ⟨_, fd, ["thing"], fn_ok (k := 1) (N := nm_is_setting) F sc_is_setting (fun cdv A outer s H E hr => ?_), T.g_is_setting, F.kp, F.bindsN fun _ _ _ _ _ _ us hl => match us, hl with | [_], _ => rfl⟩
  exact (ss_cons (ss_if (PW.pt (sw_or (st_not (st_tru (se_isi T.b_isinstance T.b_tuple bt_tuple (sv 0)))) (sw_or (tc (c_ne hr) (xlen T.b_len (sa_cons (sv 0) sa_nil)) se_int) (sw_or1 (st_not (st_tru (se_isi T.b_isinstance T.b_tuple bt_tuple (se_ix (sv 0) se_int)))))))) (ss_one (ss_ret se_bl)) ss_nil)
    (ss_cons (ss_if (PW.pt (sw_or (st_not (tc2 c_le c_le se_int (xlen T.b_len (sa_cons (se_ix (sv 0) se_int) sa_nil)) se_int)) (sw_or1 (st_tru (se_lc (own := [("code", 1)]) rfl sc_is_setting.nd (blkOk_by (N := nm_is_setting) (sc := defScope s_is_setting) (by decide +kernel)) (si_tup (se_ix (sv 0) se_int)) (fun _ _ _ _ _ => (sg_name sc_is_setting.nd)) (fun _ _ _ _ _ => (sts_one (st_not (st_tru (se_call (ok_is_code T) (hr.mono (by decide)) takes0 (sa_cons (sv 1) sa_nil)))))) (fun _ _ _ _ _ => (sv 1))))))) (ss_one (ss_ret se_bl)) ss_nil)
    (ss_cons (ss_if (tc (c_ne hr) (se_lenSet rfl T.b_len T.b_set (se_ix (sv 0) se_int)) (xlen T.b_len (sa_cons (se_ix (sv 0) se_int) sa_nil))) (ss_one (ss_ret se_bl)) ss_nil)
    (ss_one (ss_ret (se_andV (se_isi T.b_isinstance T.b_bool bt_bool (se_ix (sv 0) se_int)) (se_one (se_call (ok_is_within T) (hr.mono (by decide)) (takes_of rfl rfl rfl rfl) (sa_cons (se_ix (sv 0) se_int) (sa_cons se_int (sa_cons se_int sa_nil)))))))))))
theorem ok_look (T : Ctx K mg) : Fn P w K mg base "look" 3 1 m_look := by
  obtain ⟨fd, F⟩ := T.f_look
  refine ⟨_, fd, ["setting"], fn_ok (k := 2) (N := nm_look) F sc_look (fun cdv A outer s H E hr => ?_), T.g_look, F.kp, F.bindsN fun _ _ _ _ _ _ us hl => match us, hl with | [_], _ => rfl⟩
  exact (ss_one (ss_if (st_not (st_tru (se_call (ok_is_setting T) (hr.mono (by decide)) (takes_of rfl rfl rfl rfl) (sa_cons (sv 0) sa_nil)))) (ss_one (ss_raise T.e_NoSetting rfl (takes_of rfl rfl rfl rfl))) ss_nil))
theorem ok_Line_init (T : Ctx K mg) : Mkr P w K mg base "Line" 4 2 m_Line_init := by
  obtain ⟨fd, F⟩ := T.f_Line_init
  refine ⟨fd, ["self", "setting"], fn_ok (k := 3) (N := nm_Line_init) F sc_Line_init (fun cdv A outer s H E hr => ?_), T.mk_Line, T.gc_Line, F.bindsN fun _ _ _ _ _ _ us hl => match us, hl with | [_, _], _ => rfl⟩
  exact (ss_cons (ss_expr (se_call (ok_look T) (hr.mono (by decide)) (takes_of rfl rfl rfl rfl) (sa_cons (sv 1) sa_nil)))
    (ss_cons (ss_fld T.cl_Line T.na_Line_setting (sv 0) (sv 1))
    (ss_cons (ss_fld T.cl_Line T.na_Line_tick_now (sv 0) se_int)
    (ss_cons (ss_fld T.cl_Line T.na_Line_off (sv 0) (se_lst sa_nil))
    (ss_cons (ss_fld T.cl_Line T.na_Line_asker (sv 0) se_non)
    (ss_cons (ss_fld T.cl_Line T.na_Line_dialled (sv 0) se_non)
    (ss_cons (ss_fld T.cl_Line T.na_Line_rung (sv 0) se_non)
    (ss_cons (ss_fld T.cl_Line T.na_Line_outside (sv 0) se_str)
    (ss_cons (ss_fld T.cl_Line T.na_Line_inside (sv 0) (se_lst sa_nil))
    (ss_cons (ss_fld T.cl_Line T.na_Line_queue (sv 0) (se_lst sa_nil))
    (ss_one (ss_fld T.cl_Line T.na_Line_let (sv 0) (se_lst sa_nil)))))))))))))
theorem ok_beats (T : Ctx K mg) : Fn P w K mg base "beats" 1 1 m_beats := by
  obtain ⟨fd, F⟩ := T.f_beats
  refine ⟨_, fd, ["code"], fn_ok (k := 0) (N := nm_beats) F sc_beats (fun cdv A outer s H E hr => ?_), T.g_beats, F.kp, F.bindsN fun _ _ _ _ _ _ us hl => match us, hl with | [_], _ => rfl⟩
  exact (ss_cons (ss_set sc_beats.nd (se_lst sa_nil))
    (ss_cons (ss_for (vs := [2]) (passes_of rfl) rfl (si_str (sv 0)) (sg_name sc_beats.nd) (ss_one (ss_expr (se_mt PySem.F.plainAttrs_list PySem.F.slot_list_extend PySem.F.type_list_extend mt_extend ms_extend (sv 1) (sa_cons (xadd (xmul (se_lst (sa_cons se_bl sa_nil)) (se_if (tc (c_eq hr) (sv 2) se_str) (se_gint T.c_LONG) se_int)) (se_lst (sa_cons se_bl sa_nil))) sa_nil)))))
    (ss_one (ss_ret (xadd (sv 1) (xmul (se_lst (sa_cons se_bl sa_nil)) (xsub (se_gint T.c_REST) se_int)))))))
theorem ok_ring (T : Ctx K mg) : Fn P w K mg base "ring" 2 2 m_ring := by
  obtain ⟨fd, F⟩ := T.f_ring
  refine ⟨_, fd, ["code", "ticks"], fn_ok (k := 1) (N := nm_ring) F sc_ring (fun cdv A outer s H E hr => ?_), T.g_ring, F.kp, F.bindsN fun _ _ _ _ _ _ us hl => match us, hl with | [_, _], _ => rfl⟩
  exact (ss_cons (ss_if (st_not (st_tru (se_call (ok_is_code T) (hr.mono (by decide)) (takes_of rfl rfl rfl rfl) (sa_cons (sv 0) sa_nil)))) (ss_one (ss_raise T.e_NoCode rfl (takes_of rfl rfl rfl rfl))) ss_nil)
    (ss_cons (ss_if (st_not (st_tru (se_call (ok_is_within T) (hr.mono (by decide)) (takes_of rfl rfl rfl rfl) (sa_cons (sv 1) (sa_cons se_int (sa_cons se_int sa_nil)))))) (ss_one (ss_raise T.e_NoCount rfl (takes_of rfl rfl rfl rfl))) ss_nil)
    (ss_cons (ss_set sc_ring.nd (se_call (ok_beats T) (hr.mono (by decide)) (takes_of rfl rfl rfl rfl) (sa_cons (sv 0) sa_nil)))
    (ss_one (ss_ret (se_lc (own := [("tick", 3)]) rfl sc_ring.nd (blkOk_by (N := nm_ring) (sc := defScope s_ring) (by decide +kernel)) (si_range1 T.b_range (sv 1)) (fun _ _ _ _ _ => (sg_name sc_ring.nd)) (fun _ _ _ _ _ => sts_nil) (fun _ _ _ _ _ => (se_ix (sv 2) (xmod (sv 3) (xlen T.b_len (sa_cons (sv 2) sa_nil)))))))))))
theorem ok_meant (T : Ctx K mg) : Fn P w K mg base "meant" 4 2 m_meant := by
  obtain ⟨fd, F⟩ := T.f_meant
  refine ⟨_, fd, ["setting", "row"], fn_ok (k := 3) (N := nm_meant) F sc_meant (fun cdv A outer s H E hr => ?_), T.g_meant, F.kp, F.bindsN fun _ _ _ _ _ _ us hl => match us, hl with | [_, _], _ => rfl⟩
  exact (ss_cons (ss_expr (se_call (ok_look T) (hr.mono (by decide)) (takes_of rfl rfl rfl rfl) (sa_cons (sv 0) sa_nil)))
    (ss_cons (ss_if (PW.pt (sw_or (st_not (st_tru (se_isi T.b_isinstance T.b_list bt_list (sv 1)))) (sw_or (tc c_gt (xlen T.b_len (sa_cons (sv 1) sa_nil)) se_int) (sw_or1 (st_tru (se_lc (own := [("one", 2)]) rfl sc_meant.nd (blkOk_by (N := nm_meant) (sc := defScope s_meant) (by decide +kernel)) (si_list (sv 1)) (fun _ _ _ _ _ => (sg_name sc_meant.nd)) (fun _ _ _ _ _ => (sts_one (st_not (st_tru (se_isi T.b_isinstance T.b_bool bt_bool (sv 2)))))) (fun _ _ _ _ _ => (sv 2)))))))) (ss_one (ss_raise T.e_NoCode rfl (takes_of rfl rfl rfl rfl))) ss_nil)
    (ss_one (ss_ret (se_lc (own := [("house", 3), ("code", 4)]) rfl sc_meant.nd (blkOk_by (N := nm_meant) (sc := defScope s_meant) (by decide +kernel)) (si_enumT T.b_enumerate (se_ix (sv 0) se_int)) (fun _ _ _ _ _ => (sg_tup rfl (sgs_cons (sg_name sc_meant.nd) (sgs_cons (sg_name sc_meant.nd) sgs_nil)) (gl_cons (gl_cons gl_nil)))) (fun _ _ _ _ _ => (sts_one (tc (c_eq hr) (se_call (ok_ring T) (hr.mono (by decide)) takes0 (sa_cons (sv 4) (sa_cons (xlen T.b_len (sa_cons (sv 1) sa_nil)) sa_nil))) (sv 1)))) (fun _ _ _ _ _ => (sv 3)))))))
theorem ok_look_house (T : Ctx K mg) : Fn P w K mg base "look_house" 2 2 m_look_house := by
  obtain ⟨fd, F⟩ := T.f_look_house
  refine ⟨_, fd, ["setting", "house"], fn_ok (k := 1) (N := nm_look_house) F sc_look_house (fun cdv A outer s H E hr => ?_), T.g_look_house, F.kp, F.bindsN fun _ _ _ _ _ _ us hl => match us, hl with | [_, _], _ => rfl⟩
  exact (ss_one (ss_if (st_not (st_tru (se_call (ok_is_within T) (hr.mono (by decide)) (takes_of rfl rfl rfl rfl) (sa_cons (sv 1) (sa_cons se_int (sa_cons (xsub (xlen T.b_len (sa_cons (se_ix (sv 0) se_int) sa_nil)) se_int) sa_nil)))))) (ss_one (ss_raise T.e_NoHouse rfl (takes_of rfl rfl rfl rfl))) ss_nil))
theorem ok_sure_behind (T : Ctx K mg) : Fn P w K mg base "sure_behind" 5 2 m_sure_behind := by
  obtain ⟨fd, F⟩ := T.f_sure_behind
  refine ⟨_, fd, ["setting", "house"], fn_ok (k := 4) (N := nm_sure_behind) F sc_sure_behind (fun cdv A outer s H E hr => ?_), T.g_sure_behind, F.kp, F.bindsN fun _ _ _ _ _ _ us hl => match us, hl with | [_, _], _ => rfl⟩
  exact (ss_cons (ss_expr (se_call (ok_look T) (hr.mono (by decide)) (takes_of rfl rfl rfl rfl) (sa_cons (sv 0) sa_nil)))
    (ss_cons (ss_expr (se_call (ok_look_house T) (hr.mono (by decide)) (takes_of rfl rfl rfl rfl) (sa_cons (sv 0) (sa_cons (sv 1) sa_nil))))
    (ss_cons (ss_set sc_sure_behind.nd (se_call (ok_ring T) (hr.mono (by decide)) (takes_of rfl rfl rfl rfl) (sa_cons (se_ix (se_ix (sv 0) se_int) (sv 1)) (sa_cons se_int sa_nil))))
    (ss_cons (ss_set sc_sure_behind.nd se_int)
    (ss_cons (ss_while 1000 (passes_of rfl) (tc (c_ne hr) (se_call (ok_meant T) (hr.mono (by decide)) (takes_of rfl rfl rfl rfl) (sa_cons (sv 0) (sa_cons (se_sl (sv 2) so_none (so_some (sv 3))) sa_nil))) (se_lst (sa_cons (sv 1) sa_nil))) (ss_one (ss_augAdd sc_sure_behind.nd se_int)))
    (ss_one (ss_ret (sv 3))))))))
theorem ok_all_codes (T : Ctx K mg) : Fn P w K mg base "all_codes" 1 0 m_all_codes := by
  obtain ⟨fd, F⟩ := T.f_all_codes
  refine ⟨_, fd, [], fn_ok (k := 0) (N := nm_all_codes) F sc_all_codes (fun cdv A outer s H E hr => ?_), T.g_all_codes, F.kp, F.bindsN fun _ _ _ _ _ _ us hl => match us, hl with | [], _ => rfl⟩
  exact (ss_cons (ss_set sc_all_codes.nd (se_lst (sa_cons se_str sa_nil)))
    (ss_cons (ss_set sc_all_codes.nd (se_lst sa_nil))
    (ss_cons (ss_for (vs := [2]) (passes_of rfl) rfl (si_range1 T.b_range (se_gint T.c_MOST_SIGNS)) (sg_name sc_all_codes.nd) (ss_cons (ss_set sc_all_codes.nd (xadd (se_lc (own := [("code", 3)]) rfl sc_all_codes.nd (blkOk_by (N := nm_all_codes) (sc := defScope s_all_codes) (by decide +kernel)) (si_list (sv 0)) (fun _ _ _ _ _ => (sg_name sc_all_codes.nd)) (fun _ _ _ _ _ => sts_nil) (fun _ _ _ _ _ => (xadd (sv 3) se_str))) (se_lc (own := [("code", 3)]) rfl sc_all_codes.nd (blkOk_by (N := nm_all_codes) (sc := defScope s_all_codes) (by decide +kernel)) (si_list (sv 0)) (fun _ _ _ _ _ => (sg_name sc_all_codes.nd)) (fun _ _ _ _ _ => sts_nil) (fun _ _ _ _ _ => (xadd (sv 3) se_str)))))
    (ss_one (ss_expr (se_mt PySem.F.plainAttrs_list PySem.F.slot_list_extend PySem.F.type_list_extend mt_extend ms_extend (sv 1) (sa_cons (sv 0) sa_nil))))))
    (ss_one (ss_ret (sv 1))))))
theorem ok_codes_for (T : Ctx K mg) : Fn P w K mg base "codes_for" 2 1 m_codes_for := by
  obtain ⟨fd, F⟩ := T.f_codes_for
  refine ⟨_, fd, ["uses"], fn_ok (k := 1) (N := nm_codes_for) F sc_codes_for (fun cdv A outer s H E hr => ?_), T.g_codes_for, F.kp, F.bindsN fun _ _ _ _ _ _ us hl => match us, hl with | [_], _ => rfl⟩
  exact (ss_cons (ss_if (PW.pt (sw_or (st_not (st_tru (se_isi T.b_isinstance T.b_list bt_list (sv 0)))) (sw_or (st_not (tc2 c_le c_le se_int (xlen T.b_len (sa_cons (sv 0) sa_nil)) se_int)) (sw_or1 (st_tru (se_lc (own := [("one", 4)]) rfl sc_codes_for.nd (blkOk_by (N := nm_codes_for) (sc := defScope s_codes_for) (by decide +kernel)) (si_list (sv 0)) (fun _ _ _ _ _ => (sg_name sc_codes_for.nd)) (fun _ _ _ _ _ => (sts_one (st_not (st_tru (se_call (ok_is_within T) (hr.mono (by decide)) takes0 (sa_cons (sv 4) (sa_cons se_int (sa_cons se_int sa_nil)))))))) (fun _ _ _ _ _ => (sv 4)))))))) (ss_one (ss_raise T.e_NoCount rfl (takes_of rfl rfl rfl rfl))) ss_nil)
    (ss_cons (ss_set sc_codes_for.nd (xsortA hr T.b_sorted (sa_cons (se_lc (own := [("code", 5)]) rfl sc_codes_for.nd (blkOk_by (N := nm_codes_for) (sc := defScope s_codes_for) (by decide +kernel)) (si_list (se_call0 (ok_all_codes T) (hr.mono (by decide)) (takes_of rfl rfl rfl rfl))) (fun _ _ _ _ _ => (sg_name sc_codes_for.nd)) (fun _ _ _ _ _ => sts_nil) (fun _ _ _ _ _ => (se_tup (sa_cons (xlen T.b_len (sa_cons (se_call (ok_beats T) (hr.mono (by decide)) takes0 (sa_cons (sv 5) sa_nil)) sa_nil)) (sa_cons (sv 5) sa_nil))))) sa_nil)))
    (ss_cons (ss_set sc_codes_for.nd (xsortA hr T.b_sorted (sa_cons (se_lc (own := [("house", 6), ("one", 4)]) rfl sc_codes_for.nd (blkOk_by (N := nm_codes_for) (sc := defScope s_codes_for) (by decide +kernel)) (si_enumL T.b_enumerate (sv 0)) (fun _ _ _ _ _ => (sg_tup rfl (sgs_cons (sg_name sc_codes_for.nd) (sgs_cons (sg_name sc_codes_for.nd) sgs_nil)) (gl_cons (gl_cons gl_nil)))) (fun _ _ _ _ _ => sts_nil) (fun _ _ _ _ _ => (se_tup (sa_cons (xneg (sv 4)) (sa_cons (sv 6) sa_nil))))) sa_nil)))
    (ss_cons (ss_set sc_codes_for.nd (xdict rfl T.b_dict (sa_cons (se_lc (own := [("at", 7), ("one", 4), ("house", 6)]) rfl sc_codes_for.nd (blkOk_by (N := nm_codes_for) (sc := defScope s_codes_for) (by decide +kernel)) (si_enumL T.b_enumerate (sv 2)) (fun _ _ _ _ _ => (sg_tup rfl (sgs_cons (sg_name sc_codes_for.nd) (sgs_cons (sg_tup rfl (sgs_cons (sg_name sc_codes_for.nd) (sgs_cons (sg_name sc_codes_for.nd) sgs_nil)) (gl_cons (gl_cons gl_nil))) sgs_nil)) (gl_cons (gl_cons gl_nil)))) (fun _ _ _ _ _ => sts_nil) (fun _ _ _ _ _ => (se_tup (sa_cons (sv 6) (sa_cons (se_ix (se_ix (sv 1) (sv 7)) se_int) sa_nil))))) sa_nil)))
    (ss_one (ss_ret (xtuple T.b_tuple (sa_cons (se_lc (own := [("house", 6)]) rfl sc_codes_for.nd (blkOk_by (N := nm_codes_for) (sc := defScope s_codes_for) (by decide +kernel)) (si_range1 T.b_range (xlen T.b_len (sa_cons (sv 0) sa_nil))) (fun _ _ _ _ _ => (sg_name sc_codes_for.nd)) (fun _ _ _ _ _ => sts_nil) (fun _ _ _ _ _ => (se_dget (hu1 hr) (sv 3) (sv 6)))) sa_nil))))))))
theorem ok_law_looked (T : Ctx K mg) : Fn P w K mg base "_law_looked" 6 2 m_law_looked := by
  obtain ⟨fd, F⟩ := T.f_law_looked
  refine ⟨_, fd, ["way", "thing"], fn_ok (k := 5) (N := nm_law_looked) F sc_law_looked (fun cdv A outer s H E hr => ?_), T.g_law_looked, F.kp, F.bindsN fun _ _ _ _ _ _ us hl => match us, hl with | [_, _], _ => rfl⟩
  exact (ss_cons (ss_if (tc c_lt (sv 0) se_int) (ss_cons (ss_if (tc (c_eq hr) (sv 0) se_int) (ss_one (ss_ret (se_make (ok_Line_init T) (hr.mono (by decide)) (takes_of rfl rfl rfl rfl) (sa_cons (sv 1) sa_nil)))) ss_nil)
    (ss_cons (ss_if (tc (c_eq hr) (sv 0) se_int) (ss_one (ss_ret (se_call (ok_meant T) (hr.mono (by decide)) (takes_of rfl rfl rfl rfl) (sa_cons (se_ix (sv 1) se_int) (sa_cons (se_ix (sv 1) se_int) sa_nil))))) ss_nil)
    (ss_one (ss_ret (se_if (tc (c_eq hr) (sv 0) se_int) (se_call (ok_ring T) (hr.mono (by decide)) (takes_of rfl rfl rfl rfl) (sa_cons (se_ix (sv 1) se_int) (sa_cons (se_ix (sv 1) se_int) sa_nil))) (se_call (ok_sure_behind T) (hr.mono (by decide)) (takes_of rfl rfl rfl rfl) (sa_cons (se_ix (sv 1) se_int) (sa_cons (se_ix (sv 1) se_int) sa_nil)))))))) ss_nil)
    (ss_cons (ss_if (tc c_lt (sv 0) se_int) (ss_cons (ss_if (tc (c_eq hr) (sv 0) se_int) (ss_one (ss_ret (se_call (ok_codes_for T) (hr.mono (by decide)) (takes_of rfl rfl rfl rfl) (sa_cons (sv 1) sa_nil)))) ss_nil)
    (ss_cons (ss_if (tc (c_eq hr) (sv 0) se_int) ss_bads ss_nil)
    (ss_one (ss_ret se_bad)))) ss_nil)
    (ss_one (ss_ret se_bad))))
theorem ok_law_word (T : Ctx K mg) : Fn P w K mg base "_law_word" 7 2 m_law_word := by
  obtain ⟨fd, F⟩ := T.f_law_word
  refine ⟨_, fd, ["way", "thing"], fn_ok (k := 6) (N := nm_law_word) F sc_law_word (fun cdv A outer s H E hr => ?_), T.g_law_word, F.kp, F.bindsN fun _ _ _ _ _ _ us hl => match us, hl with | [_, _], _ => rfl⟩
  exact (ss_cons (ss_set sc_law_word.nd se_str)
    (ss_cons (ss_try T.tab (takes_of rfl rfl rfl rfl) rfl rfl (fun _ _ _ tkt hpt => (ss_one (ss_expr (se_call (ok_law_looked T) (hr.mono (by decide)) tkt (sa_cons (sv 0) (sa_cons (sv 1) sa_nil)))))) (sh_cons T.x_NoSetting (fun _ _ _ => (ss_one (ss_set sc_law_word.nd se_str))) (sh_cons T.x_NoCode (fun _ _ _ => (ss_one (ss_set sc_law_word.nd se_str))) (sh_cons T.x_NoHouse (fun _ _ _ => (ss_one (ss_set sc_law_word.nd se_str))) (sh_cons T.x_NoCount (fun _ _ _ => (ss_one (ss_set sc_law_word.nd se_str))) (sh_cons T.x_NoDeeds (fun _ _ _ => (ss_one (ss_set sc_law_word.nd se_str))) (sh_cons T.x_NoText (fun _ _ _ => (ss_one (ss_set sc_law_word.nd se_str))) sh_nil)))))))
    (ss_one (ss_ret (sv 2)))))
theorem ok_law_beats (T : Ctx K mg) : Fn P w K mg base "_law_beats" 1 1 m_law_beats := by
  obtain ⟨fd, F⟩ := T.f_law_beats
  refine ⟨_, fd, ["code"], fn_ok (k := 0) (N := nm_law_beats) F sc_law_beats (fun cdv A outer s H E hr => ?_), T.g_law_beats, F.kp, F.bindsN fun _ _ _ _ _ _ us hl => match us, hl with | [_], _ => rfl⟩
  exact (ss_cons (ss_set sc_law_beats.nd (se_lst sa_nil))
    (ss_cons (ss_for (vs := [2]) (passes_of rfl) rfl (si_str (sv 0)) (sg_name sc_law_beats.nd) (ss_one (ss_set sc_law_beats.nd (xadd (xadd (sv 1) (xmul (se_lst (sa_cons se_bl sa_nil)) (se_dget (hu1 hr) (se_disp (ps := [((fC (.str "s")), (fC (.int 1))), ((fC (.str "l")), (fC (.int 3)))]) (pps_cons se_str se_int (pps_cons se_str se_int pps_nil))) (sv 2)))) (se_lst (sa_cons se_bl sa_nil))))))
    (ss_one (ss_ret (xadd (sv 1) (se_lst (sa_cons se_bl (sa_cons se_bl (sa_cons se_bl sa_nil)))))))))
theorem ok_law_ring (T : Ctx K mg) : Fn P w K mg base "_law_ring" 2 2 m_law_ring := by
  obtain ⟨fd, F⟩ := T.f_law_ring
  refine ⟨_, fd, ["code", "ticks"], fn_ok (k := 1) (N := nm_law_ring) F sc_law_ring (fun cdv A outer s H E hr => ?_), T.g_law_ring, F.kp, F.bindsN fun _ _ _ _ _ _ us hl => match us, hl with | [_, _], _ => rfl⟩
  exact (ss_cons (ss_set sc_law_ring.nd (se_call (ok_law_beats T) (hr.mono (by decide)) (takes_of rfl rfl rfl rfl) (sa_cons (sv 0) sa_nil)))
    (ss_one (ss_ret (se_lc (own := [("tick", 3)]) rfl sc_law_ring.nd (blkOk_by (N := nm_law_ring) (sc := defScope s_law_ring) (by decide +kernel)) (si_range1 T.b_range (sv 1)) (fun _ _ _ _ _ => (sg_name sc_law_ring.nd)) (fun _ _ _ _ _ => sts_nil) (fun _ _ _ _ _ => (se_ix (sv 2) (xmod (sv 3) (xlen T.b_len (sa_cons (sv 2) sa_nil)))))))))
theorem okf_law (T : Ctx K mg) {fd : FuncData} (F : FunD K "law" "law" (defArgs s_law) (defBody s_law) (defScope s_law) [] [] (He.ga K "law") fd) : FnOk P w K mg base (L2.CX P w) 8 (He.ga K "law") fd ["script"] (spF K m_law 1) := by
  refine fn_ok (k := 7) (N := nm_law) F sc_law (fun cdv A outer s H E hr => ?_)
  exact (ss_cons (ss_set sc_law.nd (se_call (ok_law_setting T) (hr.mono (by decide)) (takes_of rfl rfl rfl rfl) (sa_cons (se_call (ok_law_seed T) (hr.mono (by decide)) (takes_of rfl rfl rfl rfl) (sa_cons (se_call (ok_law_cell T) (hr.mono (by decide)) (takes_of rfl rfl rfl rfl) (sa_cons (sv 0) (sa_cons se_int sa_nil))) (sa_cons se_int sa_nil))) sa_nil)))
    (ss_cons (ss_set sc_law.nd (se_lst (sa_cons se_non (sa_cons (se_tup sa_nil) (sa_cons (se_tup (sa_cons se_str sa_nil)) (sa_cons (se_tup (sa_cons se_str (sa_cons se_str sa_nil))) (sa_cons (se_tup (sa_cons se_str (sa_cons se_str sa_nil))) (sa_cons (se_tup (sa_cons se_str (sa_cons se_str sa_nil))) (sa_cons (se_tup (sa_cons se_str (sa_cons se_str sa_nil))) (sa_cons se_bl (sa_cons se_int (sa_cons se_int (sa_cons se_int (sa_cons se_int (sa_cons (se_lst (sa_cons se_str (sa_cons se_str sa_nil))) sa_nil)))))))))))))))
    (ss_cons (ss_set sc_law.nd (xadd (sv 2) (se_lst (sa_cons (se_tup (sa_cons se_str (sa_cons se_str sa_nil))) (sa_cons (xneg se_int) sa_nil)))))
    (ss_cons (ss_set sc_law.nd (xmod (se_call (ok_law_cell T) (hr.mono (by decide)) (takes_of rfl rfl rfl rfl) (sa_cons (sv 0) (sa_cons se_int sa_nil))) se_int))
    (ss_cons (ss_set sc_law.nd (xadd (xadd (se_sl (sv 1) so_none (so_some (sv 3))) (se_tup (sa_cons (se_ix (sv 2) (xmod (se_call (ok_law_cell T) (hr.mono (by decide)) (takes_of rfl rfl rfl rfl) (sa_cons (sv 0) (sa_cons se_int sa_nil))) se_int)) sa_nil))) (se_sl (sv 1) (so_some (xadd (sv 3) se_int)) so_none)))
    (ss_cons (ss_set sc_law.nd (se_ix (se_lst (sa_cons (sv 4) (sa_cons (sv 4) (sa_cons (xlist T.b_list (sa_cons (sv 1) sa_nil)) (sa_cons (se_sl (sv 1) so_none (so_some se_int)) (sa_cons (xadd (sv 1) (se_tup (sa_cons se_int sa_nil))) sa_nil)))))) (xmod (se_call (ok_law_cell T) (hr.mono (by decide)) (takes_of rfl rfl rfl rfl) (sa_cons (sv 0) (sa_cons se_int sa_nil))) se_int)))
    (ss_cons (ss_set sc_law.nd (se_call (ok_law_is_setting T) (hr.mono (by decide)) (takes_of rfl rfl rfl rfl) (sa_cons (sv 4) sa_nil)))
    (ss_cons (ss_if (tc (c_ne hr) (se_lst (sa_cons (se_call (ok_is_setting T) (hr.mono (by decide)) (takes_of rfl rfl rfl rfl) (sa_cons (sv 1) sa_nil)) (sa_cons (se_call (ok_is_setting T) (hr.mono (by decide)) (takes_of rfl rfl rfl rfl) (sa_cons (sv 4) sa_nil)) (sa_cons (xc (c_eq hr) (se_call (ok_law_word T) (hr.mono (by decide)) (takes_of rfl rfl rfl rfl) (sa_cons se_int (sa_cons (sv 4) sa_nil))) se_str) sa_nil)))) (se_lst (sa_cons se_bl (sa_cons (sv 5) (sa_cons (sv 5) sa_nil))))) (ss_one (ss_ret se_bl)) ss_nil)
    (ss_cons (ss_par rfl sc_law.nd (sa_cons (se_ix (sv 1) se_int) (sa_cons (xmod (se_call (ok_law_cell T) (hr.mono (by decide)) (takes_of rfl rfl rfl rfl) (sa_cons (sv 0) (sa_cons se_int sa_nil))) (xlen T.b_len (sa_cons (se_ix (sv 1) se_int) sa_nil))) sa_nil)))
    (ss_cons (ss_set sc_law.nd (se_ix (se_lst (sa_cons (xmod (se_call (ok_law_cell T) (hr.mono (by decide)) (takes_of rfl rfl rfl rfl) (sa_cons (sv 0) (sa_cons se_int sa_nil))) se_int) (sa_cons (xmod (se_call (ok_law_cell T) (hr.mono (by decide)) (takes_of rfl rfl rfl rfl) (sa_cons (sv 0) (sa_cons se_int sa_nil))) se_int) sa_nil))) (xmod (se_call (ok_law_cell T) (hr.mono (by decide)) (takes_of rfl rfl rfl rfl) (sa_cons (sv 0) (sa_cons se_int sa_nil))) se_int)))
    (ss_cons (ss_set sc_law.nd (se_call (ok_law_ring T) (hr.mono (by decide)) (takes_of rfl rfl rfl rfl) (sa_cons (se_ix (sv 6) (sv 7)) (sa_cons (sv 8) sa_nil))))
    (ss_cons (ss_if (tc (c_ne hr) (se_call (ok_ring T) (hr.mono (by decide)) (takes_of rfl rfl rfl rfl) (sa_cons (se_ix (sv 6) (sv 7)) (sa_cons (sv 8) sa_nil))) (sv 9)) (ss_one (ss_ret se_bl)) ss_nil)
    (ss_cons (ss_if (PW.pt (sw_and (tc c_gt (sv 8) se_int) (sw_and1 (tc (c_eq hr) (xmod (se_call (ok_law_cell T) (hr.mono (by decide)) (takes_of rfl rfl rfl rfl) (sa_cons (sv 0) (sa_cons se_int sa_nil))) se_int) se_int)))) (ss_cons (ss_set sc_law.nd (xmod (se_call (ok_law_cell T) (hr.mono (by decide)) (takes_of rfl rfl rfl rfl) (sa_cons (sv 0) (sa_cons se_int sa_nil))) (sv 8)))
    (ss_one (ss_set sc_law.nd (xadd (xadd (se_sl (sv 9) so_none (so_some (sv 3))) (se_lst (sa_cons (se_notV (se_ix (sv 9) (sv 3))) sa_nil))) (se_sl (sv 9) (so_some (xadd (sv 3) se_int)) so_none))))) ss_nil)
    (ss_cons (ss_setLc (own := [("k", 11), ("code", 12)]) rfl sc_law.nd (blkOk_by (N := nm_law) (sc := defScope s_law) (by decide +kernel)) (sw_true rfl rfl rfl (by decide +kernel)) (si_enumT T.b_enumerate (sv 6)) (fun _ _ _ _ _ => (sg_tup rfl (sgs_cons (sg_name sc_law.nd) (sgs_cons (sg_name sc_law.nd) sgs_nil)) (gl_cons (gl_cons gl_nil)))) (fun _ _ _ _ _ => (sts_one (tc (c_eq hr) (se_call (ok_law_ring T) (hr.mono (by decide)) takes0 (sa_cons (sv 12) (sa_cons (sv 8) sa_nil))) (sv 9)))) (fun _ _ _ _ _ => (sv 11)))
    (ss_cons (ss_if (tc (c_ne hr) (se_lc (own := [("one", 18)]) rfl sc_law.nd (blkOk_by (N := nm_law) (sc := defScope s_law) (by decide +kernel)) (si_tup (se_tup (sa_cons (se_call (ok_ring T) (hr.mono (by decide)) (takes_of rfl rfl rfl rfl) (sa_cons (se_ix (sv 6) (sv 7)) (sa_cons se_int sa_nil))) (sa_cons (xlist T.b_list (sa_cons (sv 9) sa_nil)) sa_nil)))) (fun _ _ _ _ _ => (sg_name sc_law.nd)) (fun _ _ _ _ _ => sts_nil) (fun _ _ _ _ _ => (se_call (ok_meant T) (hr.mono (by decide)) takes0 (sa_cons (sv 1) (sa_cons (sv 18) sa_nil))))) (se_lst (sa_cons (se_lst (sa_cons (sv 7) sa_nil)) (sa_cons (sv 10) sa_nil)))) (ss_one (ss_ret se_bl)) ss_nil)
    (ss_cons (ss_for (vs := [11, 12]) (passes_of rfl) rfl (si_enumT T.b_enumerate (sv 6)) (sg_tup rfl (sgs_cons (sg_name sc_law.nd) (sgs_cons (sg_name sc_law.nd) sgs_nil)) (gl_cons (gl_cons gl_nil))) (ss_cons (ss_set sc_law.nd (se_call (ok_sure_behind T) (hr.mono (by decide)) (takes_of rfl rfl rfl rfl) (sa_cons (sv 1) (sa_cons (sv 11) sa_nil))))
    (ss_one (ss_for (vs := [8]) (passes_of rfl) rfl (si_tup (se_tup (sa_cons (xsub (sv 13) se_int) (sa_cons (sv 13) sa_nil)))) (sg_name sc_law.nd) (ss_cons (ss_setLc (own := [("one", 18)]) rfl sc_law.nd (blkOk_by (N := nm_law) (sc := defScope s_law) (by decide +kernel)) (sw_true rfl rfl rfl (by decide +kernel)) (si_tup (sv 6)) (fun _ _ _ _ _ => (sg_name sc_law.nd)) (fun _ _ _ _ _ => (sts_one (tc (c_eq hr) (se_call (ok_law_ring T) (hr.mono (by decide)) takes0 (sa_cons (sv 18) (sa_cons (xmax rfl T.b_max (sa_cons se_int (sa_cons (sv 8) sa_nil))) sa_nil))) (se_call (ok_law_ring T) (hr.mono (by decide)) takes0 (sa_cons (sv 12) (sa_cons (xmax rfl T.b_max (sa_cons se_int (sa_cons (sv 8) sa_nil))) sa_nil)))))) (fun _ _ _ _ _ => (sv 18)))
    (ss_one (ss_if (tc (c_ne hr) (xc (c_eq hr) (xlen T.b_len (sa_cons (sv 14) sa_nil)) se_int) (xc (c_eq hr) (sv 8) (sv 13))) (ss_one (ss_ret se_bl)) ss_nil)))))))
    (ss_cons (ss_set sc_law.nd (se_ix (se_lst (sa_cons se_non (sa_cons (se_tup (sa_cons se_bl sa_nil)) (sa_cons (se_lst (sa_cons se_int sa_nil)) (sa_cons (xmul (se_lst (sa_cons se_bl sa_nil)) se_int) (sa_cons se_str (sa_cons (se_lst (sa_cons se_non sa_nil)) (sa_cons se_int sa_nil)))))))) (xmod (se_call (ok_law_cell T) (hr.mono (by decide)) (takes_of rfl rfl rfl rfl) (sa_cons (sv 0) (sa_cons se_int sa_nil))) se_int)))
    (ss_cons (ss_set sc_law.nd (se_ix (se_lst (sa_cons (xneg se_int) (sa_cons se_int (sa_cons se_non (sa_cons se_bl sa_nil))))) (xmod (se_call (ok_law_cell T) (hr.mono (by decide)) (takes_of rfl rfl rfl rfl) (sa_cons (sv 0) (sa_cons se_int sa_nil))) se_int)))
    (ss_cons (ss_set sc_law.nd (se_lst (sa_cons (se_call (ok_law_word T) (hr.mono (by decide)) (takes_of rfl rfl rfl rfl) (sa_cons se_int (sa_cons (se_tup (sa_cons se_non (sa_cons (sv 15) sa_nil))) sa_nil))) (sa_cons (se_call (ok_law_word T) (hr.mono (by decide)) (takes_of rfl rfl rfl rfl) (sa_cons se_int (sa_cons (se_tup (sa_cons (sv 1) (sa_cons (sv 15) sa_nil))) sa_nil))) (sa_cons (se_call (ok_law_word T) (hr.mono (by decide)) (takes_of rfl rfl rfl rfl) (sa_cons se_int (sa_cons (se_tup (sa_cons se_str (sa_cons (sv 16) sa_nil))) sa_nil))) sa_nil)))))
    (ss_cons (ss_set sc_law.nd (xadd (sv 17) (se_lst (sa_cons (se_call (ok_law_word T) (hr.mono (by decide)) (takes_of rfl rfl rfl rfl) (sa_cons se_int (sa_cons (se_tup (sa_cons se_str (sa_cons (sv 16) sa_nil))) sa_nil))) (sa_cons (se_call (ok_law_word T) (hr.mono (by decide)) (takes_of rfl rfl rfl rfl) (sa_cons se_int (sa_cons (se_tup (sa_cons se_non (sa_cons (sv 16) sa_nil))) sa_nil))) (sa_cons (se_call (ok_law_word T) (hr.mono (by decide)) (takes_of rfl rfl rfl rfl) (sa_cons se_int (sa_cons (se_tup (sa_cons (sv 1) (sa_cons (sv 16) sa_nil))) sa_nil))) sa_nil))))))
    (ss_one (ss_ret (xc (c_eq hr) (sv 17) (se_lst (sa_cons se_str (sa_cons se_str (sa_cons se_str (sa_cons se_str (sa_cons se_str (sa_cons se_str sa_nil))))))))))))))))))))))))))))))
end
end G9

set_option Elab.async false
set_option linter.all false
set_option maxRecDepth 100000
set_option maxHeartbeats 0
namespace G9
open PySem PySem.Spec PyProof.Rows L2
abbrev R : PySem.W.OpenRow := PySem.W.OpenLaw.row PySem.Challenge.rw_ringhouses_k02_codes
abbrev hk : PySem.W.Hook := He.hookD 4 fas fns
def ob (s : PySem.W.SharedT) : He.AlD := He.obsDG 4 fas fns (HandSHeadRun.getT s)
theorem ob_eq (s : PySem.W.SharedT) : ob s = hk.obs s.abs := He.obsDG_eq (HandSHeadRun.getT_eq s)
def loose : List Str := (["_wall", "LineError", "NoSetting", "NoCode", "NoHouse", "IsOff", "IsOn", "NoTone", "NoTalk", "NoCall", "NoCount", "NoDeeds", "NoText", "REST", "LONG", "MOST_SIGNS"] : List Str) ++ (["is_within", "is_code", "is_setting", "look", "look_house", "beats", "ring", "meant", "sure_behind", "all_codes", "codes_for", "MOST_WAITING", "Line", "WORDS", "MOST_DEEDS", "is_deed"] : List Str) ++ (["are_deeds", "look_deeds", "told_by", "done", "overheard", "spoken", "shown", "number_of", "read", "_law_cell", "_law_seed", "_law_pick", "_law_in", "_law_code", "_law_setting", "_law_beats"] : List Str) ++ (["_law_ring", "_law_is_setting", "_law_word", "_law_looked"] : List Str)
theorem run_false (w : World) : HandSHeadRun.RunEq R (PySem.W.view R.prog [58]) hk ob 20000 loose (w.withFollow "special-get-raises" false) := by
  intro os
  kernel_rfl
theorem run_true (w : World) : HandSHeadRun.RunEq R (PySem.W.view R.prog [58]) hk ob 20000 loose (w.withFollow "special-get-raises" true) := by
  intro os
  kernel_rfl
theorem run (w : World) : HandSHeadRun.RunEq R (PySem.W.view R.prog [58]) hk ob 20000 loose w :=
  PySem.W.byRow2 "special-get-raises" (P := fun w => HandSHeadRun.RunEq R (PySem.W.view R.prog [58]) hk ob 20000 loose w) run_false run_true w
end G9

set_option Elab.async false
set_option linter.all false
set_option maxRecDepth 100000
set_option maxHeartbeats 2000000
/-! values without a heap: what stands under a reference is read as a whole -/
namespace G9
open PySem L2

def Le (h h' : HC) : Prop := ∃ e, h' = h ++ e
theorem Le.refl {h : HC} : Le h h := ⟨[], by simp⟩
theorem Le.trans {h h1 h2 : HC} (a : Le h h1) (b : Le h1 h2) : Le h h2 := by
  obtain ⟨e, rfl⟩ := a
  obtain ⟨f, rfl⟩ := b
  exact ⟨e ++ f, by simp⟩
theorem Le.app {h e : HC} : Le h (h ++ e) := ⟨e, rfl⟩
theorem Le.get {h h' : HC} {n : Nat} {c : Cell} (a : Le h h') (e : h[n]? = some c) : h'[n]? = some c := by
  obtain ⟨x, rfl⟩ := a
  rw [List.getElem?_append_left (List.getElem?_eq_some_iff.mp e).1]
  exact e
theorem Le.len {h h' : HC} (a : Le h h') : h.length ≤ h'.length := by
  obtain ⟨x, rfl⟩ := a
  simp
theorem Le.of {h h' : HC} (hl : h.length ≤ h'.length) (e : ∀ n, n < h.length → h'[n]? = h[n]?) : Le h h' := by
  refine ⟨h'.drop h.length, ?_⟩
  apply List.ext_getElem?
  intro i
  by_cases hi : i < h.length
  · rw [List.getElem?_append_left hi, e i hi]
  · rw [List.getElem?_append_right (by omega), List.getElem?_drop]
    congr 1
    omega
theorem last_get {h : HC} {c : Cell} : (h ++ [c])[h.length]? = some c := by simp

inductive PV where
  | non
  | bl (b : Bool)
  | int (i : Int)
  | str (s : Str)
  | tup (xs : List PV)
  | lst (xs : List PV)
  | dk (ks : List Key) (vs : List PV)
  | dt (ks : List (List Key)) (vs : List PV)
  | ins (c : Str) (ks : List Str) (vs : List PV)
  | scr (ns : List Int)

mutual
def Rd (Q : Nat → Prop) (h : HC) : PV → D → Prop
  | .non, d => d = .non
  | .bl b, d => d = .bl b
  | .int i, d => d = .int i
  | .str s, d => d = .str s
  | .scr ns, d => d = .scr ns
  | .tup vs, d => ∃ ds, d = .tup ds ∧ Rds Q h vs ds
  | .lst vs, d => ∃ n ds, d = .ref n ∧ Q n ∧ h[n]? = some (.lst ds) ∧ Rds Q h vs ds
  | .dk ks vs, d => ∃ n kvs, d = .ref n ∧ Q n ∧ h[n]? = some (.dk kvs) ∧ kvs.map Prod.fst = ks ∧ Rds Q h vs (kvs.map Prod.snd)
  | .dt ks vs, d => ∃ n kvs, d = .ref n ∧ Q n ∧ h[n]? = some (.dt kvs) ∧ kvs.map Prod.fst = ks ∧ Rds Q h vs (kvs.map Prod.snd)
  | .ins c ks vs, d => ∃ n kvs, d = .ref n ∧ Q n ∧ h[n]? = some (.ins c kvs) ∧ kvs.map Prod.fst = ks ∧ Rds Q h vs (kvs.map Prod.snd)
def Rds (Q : Nat → Prop) (h : HC) : List PV → List D → Prop
  | [], ds => ds = []
  | v :: vs, ds => ∃ d ds', ds = d :: ds' ∧ Rd Q h v d ∧ Rds Q h vs ds'
end
mutual
def isFl : PV → Bool
  | .non => true
  | .bl _ => true
  | .int _ => true
  | .str _ => true
  | .scr _ => true
  | .tup vs => isFls vs
  | .lst _ => false
  | .dk _ _ => false
  | .dt _ _ => false
  | .ins _ _ _ => false
def isFls : List PV → Bool
  | [] => true
  | v :: vs => isFl v && isFls vs
end
section
variable {Q Q' : Nat → Prop} {h h' : HC}
mutual
theorem Rd.mono (hq : ∀ n, Q n → Q' n) (hh : ∀ n c, Q n → h[n]? = some c → h'[n]? = some c) : ∀ (v : PV) (d : D), Rd Q h v d → Rd Q' h' v d
  | .non, d, r => by simpa only [Rd] using r
  | .bl _, d, r => by simpa only [Rd] using r
  | .int _, d, r => by simpa only [Rd] using r
  | .str _, d, r => by simpa only [Rd] using r
  | .scr _, d, r => by simpa only [Rd] using r
  | .tup vs, d, r => by
    simp only [Rd] at r ⊢
    obtain ⟨ds, e, r⟩ := r
    exact ⟨ds, e, Rds.mono hq hh vs ds r⟩
  | .lst vs, d, r => by
    simp only [Rd] at r ⊢
    obtain ⟨n, ds, e, q, g, r⟩ := r
    exact ⟨n, ds, e, hq n q, hh n _ q g, Rds.mono hq hh vs ds r⟩
  | .dk ks vs, d, r => by
    simp only [Rd] at r ⊢
    obtain ⟨n, ds, e, q, g, k, r⟩ := r
    exact ⟨n, ds, e, hq n q, hh n _ q g, k, Rds.mono hq hh vs _ r⟩
  | .dt ks vs, d, r => by
    simp only [Rd] at r ⊢
    obtain ⟨n, ds, e, q, g, k, r⟩ := r
    exact ⟨n, ds, e, hq n q, hh n _ q g, k, Rds.mono hq hh vs _ r⟩
  | .ins c ks vs, d, r => by
    simp only [Rd] at r ⊢
    obtain ⟨n, ds, e, q, g, k, r⟩ := r
    exact ⟨n, ds, e, hq n q, hh n _ q g, k, Rds.mono hq hh vs _ r⟩
theorem Rds.mono (hq : ∀ n, Q n → Q' n) (hh : ∀ n c, Q n → h[n]? = some c → h'[n]? = some c) : ∀ (vs : List PV) (ds : List D), Rds Q h vs ds → Rds Q' h' vs ds
  | [], ds, r => by simpa only [Rds] using r
  | v :: vs, ds, r => by
    simp only [Rds] at r ⊢
    obtain ⟨d, ds', e, r1, r2⟩ := r
    exact ⟨d, ds', e, Rd.mono hq hh v d r1, Rds.mono hq hh vs ds' r2⟩
end
mutual
theorem Rd.low : ∀ (v : PV) (d : D), Rd Q h v d → Rd (fun n => Q n ∧ n < h.length) h v d
  | .non, d, r => by simpa only [Rd] using r
  | .bl _, d, r => by simpa only [Rd] using r
  | .int _, d, r => by simpa only [Rd] using r
  | .str _, d, r => by simpa only [Rd] using r
  | .scr _, d, r => by simpa only [Rd] using r
  | .tup vs, d, r => by
    simp only [Rd] at r ⊢
    obtain ⟨ds, e, r⟩ := r
    exact ⟨ds, e, Rds.low vs ds r⟩
  | .lst vs, d, r => by
    simp only [Rd] at r ⊢
    obtain ⟨n, ds, e, q, g, r⟩ := r
    exact ⟨n, ds, e, ⟨q, (List.getElem?_eq_some_iff.mp g).1⟩, g, Rds.low vs ds r⟩
  | .dk ks vs, d, r => by
    simp only [Rd] at r ⊢
    obtain ⟨n, ds, e, q, g, k, r⟩ := r
    exact ⟨n, ds, e, ⟨q, (List.getElem?_eq_some_iff.mp g).1⟩, g, k, Rds.low vs _ r⟩
  | .dt ks vs, d, r => by
    simp only [Rd] at r ⊢
    obtain ⟨n, ds, e, q, g, k, r⟩ := r
    exact ⟨n, ds, e, ⟨q, (List.getElem?_eq_some_iff.mp g).1⟩, g, k, Rds.low vs _ r⟩
  | .ins c ks vs, d, r => by
    simp only [Rd] at r ⊢
    obtain ⟨n, ds, e, q, g, k, r⟩ := r
    exact ⟨n, ds, e, ⟨q, (List.getElem?_eq_some_iff.mp g).1⟩, g, k, Rds.low vs _ r⟩
theorem Rds.low : ∀ (vs : List PV) (ds : List D), Rds Q h vs ds → Rds (fun n => Q n ∧ n < h.length) h vs ds
  | [], ds, r => by simpa only [Rds] using r
  | v :: vs, ds, r => by
    simp only [Rds] at r ⊢
    obtain ⟨d, ds', e, r1, r2⟩ := r
    exact ⟨d, ds', e, Rd.low v d r1, Rds.low vs ds' r2⟩
end
mutual
theorem Rd.flat : ∀ (v : PV) (d : D), isFl v = true → Rd Q h v d → Rd Q' h' v d
  | .non, d, f, r => by simpa only [Rd] using r
  | .bl _, d, f, r => by simpa only [Rd] using r
  | .int _, d, f, r => by simpa only [Rd] using r
  | .str _, d, f, r => by simpa only [Rd] using r
  | .scr _, d, f, r => by simpa only [Rd] using r
  | .tup vs, d, f, r => by
    simp only [Rd, isFl] at r f ⊢
    obtain ⟨ds, e, r⟩ := r
    exact ⟨ds, e, Rds.flat vs ds f r⟩
  | .lst vs, d, f, r => by simp [isFl] at f
  | .dk ks vs, d, f, r => by simp [isFl] at f
  | .dt ks vs, d, f, r => by simp [isFl] at f
  | .ins c ks vs, d, f, r => by simp [isFl] at f
theorem Rds.flat : ∀ (vs : List PV) (ds : List D), isFls vs = true → Rds Q h vs ds → Rds Q' h' vs ds
  | [], ds, f, r => by simpa only [Rds] using r
  | v :: vs, ds, f, r => by
    simp only [Rds, isFls, Bool.and_eq_true] at r f ⊢
    obtain ⟨d, ds', e, r1, r2⟩ := r
    exact ⟨d, ds', e, Rd.flat v d f.1 r1, Rds.flat vs ds' f.2 r2⟩
end
theorem Rd.all {v : PV} {d : D} (r : Rd Q h v d) : Rd (fun _ => True) h v d := Rd.mono (fun _ _ => trivial) (fun _ _ _ e => e) v d r
theorem Rds.all {v : List PV} {d : List D} (r : Rds Q h v d) : Rds (fun _ => True) h v d := Rds.mono (fun _ _ => trivial) (fun _ _ _ e => e) v d r
theorem Rd.le {v : PV} {d : D} (r : Rd Q h v d) (l : Le h h') : Rd Q h' v d := Rd.mono (fun _ q => q) (fun _ _ _ e => l.get e) v d r
theorem Rds.le {v : List PV} {d : List D} (r : Rds Q h v d) (l : Le h h') : Rds Q h' v d := Rds.mono (fun _ q => q) (fun _ _ _ e => l.get e) v d r
theorem Rd.sub {v : PV} {d : D} (r : Rd Q h v d) (hq : ∀ n, Q n → Q' n) : Rd Q' h v d := Rd.mono hq (fun _ _ _ e => e) v d r
theorem Rds.sub {v : List PV} {d : List D} (r : Rds Q h v d) (hq : ∀ n, Q n → Q' n) : Rds Q' h v d := Rds.mono hq (fun _ _ _ e => e) v d r
theorem Rds.len : ∀ {vs : List PV} {ds : List D}, Rds Q h vs ds → ds.length = vs.length
  | [], ds, r => by simp only [Rds] at r; subst r; rfl
  | v :: vs, ds, r => by
    simp only [Rds] at r
    obtain ⟨d, ds', rfl, _, r2⟩ := r
    simp [Rds.len r2]
theorem Rds.append : ∀ {vs ws : List PV} {ds es : List D}, Rds Q h vs ds → Rds Q h ws es → Rds Q h (vs ++ ws) (ds ++ es)
  | [], ws, ds, es, r, r' => by simp only [Rds] at r; subst r; simpa using r'
  | v :: vs, ws, ds, es, r, r' => by
    simp only [Rds] at r
    obtain ⟨d, ds', rfl, r1, r2⟩ := r
    simp only [List.cons_append, Rds]
    exact ⟨d, ds' ++ es, rfl, r1, Rds.append r2 r'⟩
theorem Rds.get : ∀ {vs : List PV} {ds : List D} {i : Nat} {v : PV}, Rds Q h vs ds → vs[i]? = some v → ∃ d, ds[i]? = some d ∧ Rd Q h v d
  | [], ds, i, v, r, e => by simp at e
  | w :: vs, ds, i, v, r, e => by
    simp only [Rds] at r
    obtain ⟨d, ds', rfl, r1, r2⟩ := r
    cases i with
    | zero => simp at e; subst e; exact ⟨d, by simp, r1⟩
    | succ i => simpa using Rds.get r2 (by simpa using e)
theorem Rds.getN : ∀ {vs : List PV} {ds : List D} {i : Nat}, Rds Q h vs ds → vs[i]? = none → ds[i]? = none
  | vs, ds, i, r, e => by
    have := r.len
    rw [List.getElem?_eq_none_iff] at e ⊢
    omega
theorem Rds.of : ∀ {vs : List PV} {ds : List D}, ds.length = vs.length → (∀ (i : Nat) (v : PV), vs[i]? = some v → ∃ d, ds[i]? = some d ∧ Rd Q h v d) → Rds Q h vs ds
  | [], ds, l, e => by simp only [Rds]; exact List.eq_nil_of_length_eq_zero l
  | v :: vs, [], l, e => by simp at l
  | v :: vs, d :: ds, l, e => by
    simp only [Rds]
    refine ⟨d, ds, rfl, ?_, Rds.of (by simpa using l) fun i w hw => by simpa using e (i + 1) w (by simpa using hw)⟩
    obtain ⟨d', h1, h2⟩ := e 0 v rfl
    simp at h1
    subst h1
    exact h2
theorem Rds.take {vs : List PV} {ds : List D} (r : Rds Q h vs ds) (k : Nat) : Rds Q h (vs.take k) (ds.take k) := by
  refine Rds.of (by simp [r.len]) fun i v e => ?_
  rw [List.getElem?_take] at e ⊢
  split at e
  · rename_i hi
    simpa [hi] using r.get e
  · cases e
theorem Rds.drop {vs : List PV} {ds : List D} (r : Rds Q h vs ds) (k : Nat) : Rds Q h (vs.drop k) (ds.drop k) := by
  refine Rds.of (by simp [r.len]) fun i v e => ?_
  rw [List.getElem?_drop] at e ⊢
  exact r.get e
theorem Rds.nil : Rds Q h [] [] := by simp only [Rds]
theorem Rds.cons {v : PV} {d : D} {vs : List PV} {ds : List D} (a : Rd Q h v d) (b : Rds Q h vs ds) : Rds Q h (v :: vs) (d :: ds) := by
  simp only [Rds]
  exact ⟨d, ds, rfl, a, b⟩
theorem Rds.uncons {v : PV} {vs : List PV} {ds : List D} (r : Rds Q h (v :: vs) ds) : ∃ d ds', ds = d :: ds' ∧ Rd Q h v d ∧ Rds Q h vs ds' := by
  simpa only [Rds] using r
theorem Rds.one {v : PV} {d : D} (a : Rd Q h v d) : Rds Q h [v] [d] := .cons a .nil
theorem Rds.set {vs : List PV} {ds : List D} {i : Nat} {v : PV} {d : D} (r : Rds Q h vs ds) (a : Rd Q h v d) : Rds Q h (vs.set i v) (ds.set i d) := by
  refine Rds.of (by simp [r.len]) fun j w e => ?_
  rw [List.getElem?_set] at e ⊢
  split at e
  · rename_i hij
    subst hij
    split at e
    · rename_i hl
      cases e
      exact ⟨d, by simp [r.len, hl], a⟩
    · cases e
  · rename_i hij
    simpa [hij] using r.get e
theorem Rds.flatten : ∀ {vs : List (List PV)} {ds : List (List D)}, (vs.length = ds.length) → (∀ (i : Nat) (v : List PV) (d : List D), vs[i]? = some v → ds[i]? = some d → Rds Q h v d) → Rds Q h vs.flatten ds.flatten
  | [], [], _, _ => Rds.nil
  | v :: vs, d :: ds, l, e => by
    simp only [List.flatten_cons]
    exact (e 0 v d rfl rfl).append (Rds.flatten (by simpa using l) fun i v' d' h1 h2 => e (i + 1) v' d' (by simpa using h1) (by simpa using h2))
theorem Rds.rep {vs : List PV} {ds : List D} (r : Rds Q h vs ds) (k : Nat) : Rds Q h (List.replicate k vs).flatten (List.replicate k ds).flatten := by
  refine Rds.flatten (by simp) fun i v d h1 h2 => ?_
  rw [List.getElem?_replicate] at h1 h2
  split at h1
  · rename_i hi
    simp [hi] at h1 h2
    subst h1 h2
    exact r
  · cases h1
theorem Rd.tup {vs : List PV} {ds : List D} (r : Rds Q h vs ds) : Rd Q h (.tup vs) (.tup ds) := by
  simp only [Rd]
  exact ⟨ds, rfl, r⟩
theorem Rd.lst {n : Nat} {vs : List PV} {ds : List D} (q : Q n) (e : h[n]? = some (.lst ds)) (r : Rds Q h vs ds) : Rd Q h (.lst vs) (.ref n) := by
  simp only [Rd]
  exact ⟨n, ds, rfl, q, e, r⟩
end
end G9

set_option Elab.async false
set_option linter.all false
set_option maxRecDepth 100000
set_option maxHeartbeats 2000000
namespace G9
open PySem L2

inductive PR (α : Type) where
  | ok (a : α)
  | exc (c : Str)
  | bad
def PR.bind {α β : Type} (r : PR α) (f : α → PR β) : PR β := match r with
  | .ok a => f a
  | .exc c => .exc c
  | .bad => .bad
abbrev SP := List (Option PV)
abbrev XP := SP → PR PV
abbrev TP := SP → PR Bool
abbrev AP := SP → PR (List PV)
abbrev OP := SP → PR (Option Int)
def up (Q : Nat → Prop) (l : Nat) : Nat → Prop := fun n => Q n ∨ l ≤ n
theorem up_l {Q : Nat → Prop} {l n : Nat} (h : Q n) : up Q l n := .inl h
theorem up_r {Q : Nat → Prop} {l n : Nat} (h : l ≤ n) : up Q l n := .inr h
abbrev Rl2 (α β : Type) := (Nat → Prop) → HC → β → α → Prop
structure Good {α β : Type} (R : Rl2 α β) : Prop where
  mo : ∀ {Q Q' : Nat → Prop} {h h' : HC} {v : β} {d : α}, (∀ n, Q n → Q' n) → Le h h' → R Q h v d → R Q' h' v d
def RE {α : Type} : Rl2 α α := fun _ _ a b => a = b
theorem good_rd : Good Rd := ⟨fun hq l r => Rd.mono hq (fun _ _ _ e => l.get e) _ _ r⟩
theorem good_rds : Good Rds := ⟨fun hq l r => Rds.mono hq (fun _ _ _ e => l.get e) _ _ r⟩
theorem good_re {α : Type} : Good (RE (α := α)) := ⟨fun _ _ r => r⟩
def RP {α β : Type} (R : Rl2 α β) (Q : Nat → Prop) (h : HC) : PR β → Res α → Prop
  | .ok v, r => ∃ d h', r = .ok d h' ∧ Le h h' ∧ R (up Q h.length) h' v d
  | .exc c, r => ∃ h', r = .exc c h' ∧ Le h h'
  | .bad, _ => True
section
variable {α β α' β' : Type} {R : Rl2 α β} {R' : Rl2 α' β'} {Q : Nat → Prop} {h : HC}
theorem RP.okI {v : β} {d : α} {h' : HC} (l : Le h h') (r : R (up Q h.length) h' v d) : RP R Q h (.ok v) (.ok d h') := ⟨d, h', rfl, l, r⟩
theorem RP.here {v : β} {d : α} (hR : Good R) (r : R Q h v d) : RP R Q h (.ok v) (.ok d h) := ⟨d, h, rfl, Le.refl, hR.mo (fun _ q => .inl q) Le.refl r⟩
theorem RP.weak {Q1 : Nat → Prop} {h1 : HC} {r : PR β} {x : Res α} (hR : Good R) (l : Le h h1) (hq : ∀ n, Q1 n → up Q h.length n) (a : RP R Q1 h1 r x) : RP R Q h r x := by
  cases r with
  | ok v =>
    obtain ⟨d, h2, e, l2, r2⟩ := a
    refine ⟨d, h2, e, l.trans l2, hR.mo ?_ Le.refl r2⟩
    rintro n (q | q)
    · exact hq n q
    · exact .inr (Nat.le_trans l.len q)
  | exc c =>
    obtain ⟨h2, e, l2⟩ := a
    exact ⟨h2, e, l.trans l2⟩
  | bad => exact trivial
theorem RP.bind {ra : PR β} {r : Res α} {kp : β → PR β'} {k : α → HC → Res α'} (hR' : Good R') (ha : RP R Q h ra r)
    (hk : ∀ d h' v, Le h h' → R (up Q h.length) h' v d → RP R' (up Q h.length) h' (kp v) (k d h')) : RP R' Q h (ra.bind kp) (r.bind k) := by
  cases ra with
  | ok v =>
    obtain ⟨d, h', rfl, l, q⟩ := ha
    exact (hk d h' v l q).weak hR' l (fun _ q => q)
  | exc c =>
    obtain ⟨h', rfl, l⟩ := ha
    exact ⟨h', rfl, l⟩
  | bad => exact trivial
end

structure En (U : List Nat) (Q : Nat → Prop) (s : SD) (h : HC) (σ : SP) : Prop where
  len : s.length = σ.length
  sl : ∀ i v, i ∈ U → σ[i]? = some (some v) → ∃ d, s[i]? = some (some d) ∧ Rd Q h v d
section
variable {U U' : List Nat} {Q Q' : Nat → Prop} {s : SD} {h h' : HC} {σ : SP}
theorem En.mono (e : En U Q s h σ) (hq : ∀ n, Q n → Q' n) (l : Le h h') : En U Q' s h' σ := ⟨e.len, fun i v hi hv => by
  obtain ⟨d, h1, h2⟩ := e.sl i v hi hv
  exact ⟨d, h1, good_rd.mo hq l h2⟩⟩
theorem En.up (e : En U Q s h σ) (l : Le h h') : En U (up Q h.length) s h' σ := e.mono (fun _ q => .inl q) l
theorem En.sub (e : En U Q s h σ) (hu : ∀ i, i ∈ U' → i ∈ U) : En U' Q s h σ := ⟨e.len, fun i v hi hv => e.sl i v (hu i hi) hv⟩
theorem En.l (e : En (U ++ U') Q s h σ) : En U Q s h σ := e.sub fun i hi => List.mem_append_left _ hi
theorem En.r (e : En (U ++ U') Q s h σ) : En U' Q s h σ := e.sub fun i hi => List.mem_append_right _ hi
end
def PJ {α β : Type} (R : Rl2 α β) (U : List Nat) (f : SD → HC → Res α) (p : SP → PR β) : Prop := ∀ (Q : Nat → Prop) (s : SD) (h : HC) (σ : SP), En U Q s h σ → RP R Q h (p σ) (f s h)
abbrev PX := PJ Rd
abbrev PTT := PJ (RE (α := Bool))
abbrev PAA := PJ Rds
abbrev POO := PJ (RE (α := Option Int))
section
variable {α β α' β' : Type} {R : Rl2 α β} {R' : Rl2 α' β'} {U U' : List Nat}
theorem PJ.bind {f : SD → HC → Res α} {p : SP → PR β} {k : α → SD → HC → Res α'} {kp : β → SP → PR β'} (hR' : Good R') (ha : PJ R U f p)
    (hk : ∀ Q s h σ v d, En U' Q s h σ → R Q h v d → RP R' Q h (kp v σ) (k d s h)) : PJ R' (U ++ U') (fun s h => (f s h).bind fun a h1 => k a s h1) (fun σ => (p σ).bind fun v => kp v σ) :=
  fun Q s h σ E => (ha Q s h σ E.l).bind hR' fun d h' v l r => hk _ s h' σ v d (E.r.up l) r
end

/-! ### names, constants -/
def pVar (i : Nat) : XP := fun σ => match σ[i]? with
  | some (some v) => .ok v
  | _ => .bad
def pC (v : PV) : XP := fun _ => .ok v
theorem px_var {i : Nat} : PX [i] (fVar i) (pVar i) := fun Q s h σ E => by
  unfold pVar fVar
  cases e : σ[i]? with
  | none => exact trivial
  | some o =>
    cases o with
    | none => exact trivial
    | some v =>
      obtain ⟨d, h1, h2⟩ := E.sl i v (by simp) e
      rw [h1]
      exact RP.here good_rd h2
theorem px_c {v : PV} {d : D} (hr : ∀ Q h, Rd Q h v d) : PX [] (fC d) (pC v) := fun Q s h σ E => RP.here good_rd (hr Q h)
theorem px_int {i : Int} : PX [] (fC (.int i)) (pC (.int i)) := px_c fun _ _ => by simp only [Rd]
theorem px_bl {i : Bool} : PX [] (fC (.bl i)) (pC (.bl i)) := px_c fun _ _ => by simp only [Rd]
theorem px_str {i : Str} : PX [] (fC (.str i)) (pC (.str i)) := px_c fun _ _ => by simp only [Rd]
theorem px_non : PX [] (fC .non) (pC .non) := px_c fun _ _ => by simp only [Rd]
def pBad : XP := fun _ => .bad
theorem px_bad {f : EE} {U : List Nat} : PX U f pBad := fun _ _ _ _ _ => trivial

/-! ### operators -/
def OX (op : D → D → HC → Res D) (pop : PV → PV → PR PV) : Prop := ∀ (Q : Nat → Prop) (h : HC) (v1 v2 : PV) (d1 d2 : D), Rd Q h v1 d1 → Rd Q h v2 d2 → RP Rd Q h (pop v1 v2) (op d1 d2 h)
def pOp (op : PV → PV → PR PV) (a b : XP) : XP := fun σ => (a σ).bind fun x => (b σ).bind fun y => op x y
theorem px_op {op : D → D → HC → Res D} {pop : PV → PV → PR PV} {U U' : List Nat} {a b : EE} {pa pb : XP} (ho : OX op pop) (ha : PX U a pa) (hb : PX U' b pb) : PX (U ++ U') (fOp op a b) (pOp pop pa pb) :=
  PJ.bind good_rd ha fun Q s h σ v d E r => (hb Q s h σ E).bind good_rd fun d' h' v' l r' => ho _ h' v v' d d' (good_rd.mo (fun _ q => .inl q) l r) r'
def newLV (vs : List PV) : PR PV := if vs.length ≤ BIG then .ok (.lst vs) else .bad
def mkTV (vs : List PV) : PR PV := if vs.length ≤ BIG then .ok (.tup vs) else .bad
section
variable {Q : Nat → Prop} {h : HC}
theorem new_rd {vs : List PV} {ds : List D} (r : Rds Q h vs ds) : Rd (up Q h.length) (h ++ [.lst ds]) (.lst vs) (.ref h.length) :=
  Rd.lst (.inr (Nat.le_refl _)) last_get (good_rds.mo (fun _ q => .inl q) Le.app r)
theorem newL_rp {vs : List PV} {ds : List D} (r : Rds Q h vs ds) : RP Rd Q h (newLV vs) (newL ds h) := by
  unfold newLV newL
  rw [r.len]
  split
  · exact RP.okI Le.app (new_rd r)
  · exact trivial
theorem mkT_rp {vs : List PV} {ds : List D} (r : Rds Q h vs ds) : RP Rd Q h (mkTV vs) (mkT ds h) := by
  unfold mkTV mkT
  rw [r.len]
  split
  · exact RP.here good_rd (Rd.tup r)
  · exact trivial
theorem rp_int {i : Int} : RP Rd Q h (.ok (.int i)) (.ok (.int i) h) := RP.here good_rd (by simp only [Rd])
theorem rp_bl {i : Bool} : RP Rd Q h (.ok (.bl i)) (.ok (.bl i) h) := RP.here good_rd (by simp only [Rd])
theorem rp_str {i : Str} : RP Rd Q h (.ok (.str i)) (.ok (.str i) h) := RP.here good_rd (by simp only [Rd])
theorem rp_non : RP Rd Q h (.ok .non) (.ok .non h) := RP.here good_rd (by simp only [Rd])
end
def pAdd : PV → PV → PR PV
  | .int a, .int b => .ok (.int (a + b))
  | .str a, .str b => if a.length + b.length ≤ BIG then .ok (.str (a ++ b)) else .bad
  | .tup a, .tup b => mkTV (a ++ b)
  | .lst a, .lst b => newLV (a ++ b)
  | _, _ => .bad
theorem ox_add : OX opAdd pAdd := fun Q h v1 v2 d1 d2 r1 r2 => by
  unfold pAdd
  split
  · simp only [Rd] at r1 r2; subst r1 r2; exact rp_int
  · simp only [Rd] at r1 r2; subst r1 r2
    simp only [opAdd]
    split
    · exact rp_str
    · exact trivial
  · simp only [Rd] at r1 r2
    obtain ⟨ds, rfl, r1⟩ := r1
    obtain ⟨es, rfl, r2⟩ := r2
    exact mkT_rp (r1.append r2)
  · simp only [Rd] at r1 r2
    obtain ⟨n, ds, rfl, _, e1, r1⟩ := r1
    obtain ⟨k, es, rfl, _, e2, r2⟩ := r2
    simp only [opAdd, e1, e2]
    exact newL_rp (r1.append r2)
  · exact trivial
def pSub : PV → PV → PR PV
  | .int a, .int b => .ok (.int (a - b))
  | _, _ => .bad
theorem ox_sub : OX opSub pSub := fun Q h v1 v2 d1 d2 r1 r2 => by
  unfold pSub
  split
  · simp only [Rd] at r1 r2; subst r1 r2; exact rp_int
  · exact trivial
def pMul : PV → PV → PR PV
  | .int a, .int b => if mulOk a b then .ok (.int (a * b)) else .bad
  | .lst xs, .int k => if -(2 ^ 63) ≤ k ∧ k < 2 ^ 63 then newLV (List.replicate k.toNat xs).flatten else .bad
  | .tup xs, .int k => if xs ≠ [] ∧ 2 ≤ k ∧ k ≤ 1000 ∧ xs.length ≤ 1000 then .ok (.tup (List.replicate k.toNat xs).flatten) else .bad
  | _, _ => .bad
theorem Rds.nil_iff {Q : Nat → Prop} {h : HC} {vs : List PV} {ds : List D} (r : Rds Q h vs ds) : vs = [] ↔ ds = [] := by
  have := r.len
  constructor
  · rintro rfl; exact List.eq_nil_of_length_eq_zero this
  · rintro rfl; exact List.eq_nil_of_length_eq_zero this.symm
theorem ox_mul : OX opMul pMul := fun Q h v1 v2 d1 d2 r1 r2 => by
  unfold pMul
  split
  · simp only [Rd] at r1 r2; subst r1 r2
    simp only [opMul]
    split
    · exact rp_int
    · exact trivial
  · simp only [Rd] at r1 r2
    obtain ⟨n, ds, rfl, _, e1, r1⟩ := r1
    subst r2
    simp only [opMul, e1]
    split
    · exact newL_rp (r1.rep _)
    · exact trivial
  · rename_i xs k
    simp only [Rd] at r1 r2
    obtain ⟨ds, rfl, r1⟩ := r1
    subst r2
    simp only [opMul, r1.len]
    split
    · rename_i hc
      rw [if_pos ⟨fun z => hc.1 (r1.nil_iff.mpr z), hc.2⟩]
      exact RP.here good_rd (Rd.tup (r1.rep _))
    · exact trivial
  · exact trivial
def pMod : PV → PV → PR PV
  | .int a, .int b => if 0 < b then .ok (.int (a % b)) else .bad
  | _, _ => .bad
theorem ox_mod : OX opMod pMod := fun Q h v1 v2 d1 d2 r1 r2 => by
  unfold pMod
  split
  · simp only [Rd] at r1 r2; subst r1 r2
    simp only [opMod]
    split
    · exact rp_int
    · exact trivial
  · exact trivial
def pDiv : PV → PV → PR PV
  | .int a, .int b => if 0 < b ∧ b < 1073741824 then .ok (.int (a / b)) else .bad
  | _, _ => .bad
theorem ox_div : OX opDiv pDiv := fun Q h v1 v2 d1 d2 r1 r2 => by
  unfold pDiv
  split
  · simp only [Rd] at r1 r2; subst r1 r2
    simp only [opDiv]
    split
    · exact rp_int
    · exact trivial
  · exact trivial
def pPow : PV → PV → PR PV
  | .int a, .int b => if 0 ≤ b ∧ b ≤ 1000000 ∧ a.natAbs < 2 ^ 64 then .ok (.int (a ^ b.toNat)) else .bad
  | _, _ => .bad
theorem ox_pow : OX opPow pPow := fun Q h v1 v2 d1 d2 r1 r2 => by
  unfold pPow
  split
  · simp only [Rd] at r1 r2; subst r1 r2
    simp only [opPow]
    split
    · exact rp_int
    · exact trivial
  · exact trivial
def pI (g : Int → Int → Bool) : PV → PV → PR PV
  | .int a, .int b => .ok (.bl (g a b))
  | _, _ => .bad
theorem ox_I {g : Int → Int → Bool} : OX (opI g) (pI g) := fun Q h v1 v2 d1 d2 r1 r2 => by
  unfold pI
  split
  · simp only [Rd] at r1 r2; subst r1 r2; exact rp_bl
  · exact trivial
abbrev pLt := pI fun i j => decide (i < j)
abbrev pLe := pI fun i j => decide (i ≤ j)
abbrev pGt := pI fun i j => decide (j < i)
abbrev pGe := pI fun i j => decide (j ≤ i)
/-! data as a whole -/
def toPyV : Nat → PV → Option PyData
  | 0, _ => none
  | n + 1, v => match v with
    | .non => some .none
    | .bl b => some (.bool b)
    | .int i => some (.int i)
    | .str s => if PyData.strOk s = true then some (.str s) else none
    | .tup xs => (optAll (xs.map (toPyV n))).map .tuple
    | .lst xs => (optAll (xs.map (toPyV n))).map .list
    | _ => none
theorem map_rds {Q : Nat → Prop} {h : HC} {α : Type} {f : D → α} {g : PV → α} (e : ∀ v d, Rd Q h v d → f d = g v) : ∀ {vs : List PV} {ds : List D}, Rds Q h vs ds → ds.map f = vs.map g
  | [], ds, r => by simp only [Rds] at r; subst r; rfl
  | v :: vs, ds, r => by
    simp only [Rds] at r
    obtain ⟨d, ds', rfl, r1, r2⟩ := r
    simp [e v d r1, map_rds e r2]
theorem toPyV_eq {Q : Nat → Prop} {h : HC} : ∀ (n : Nat) (v : PV) (d : D), Rd Q h v d → toPy h n d = toPyV n v
  | 0, v, d, r => by simp [toPy, toPyV]
  | n + 1, v, d, r => by
    cases v with
    | tup vs =>
      simp only [Rd] at r
      obtain ⟨ds, rfl, r⟩ := r
      simp only [toPy, toPyV, map_rds (fun v d r => toPyV_eq n v d r) r]
    | lst vs =>
      simp only [Rd] at r
      obtain ⟨k, ds, rfl, _, e, r⟩ := r
      simp only [toPy, toPyV, e, map_rds (fun v d r => toPyV_eq n v d r) r]
    | dk ks vs =>
      simp only [Rd] at r
      obtain ⟨k, ds, rfl, _, e, _⟩ := r
      simp only [toPy, toPyV, e]
    | dt ks vs =>
      simp only [Rd] at r
      obtain ⟨k, ds, rfl, _, e, _⟩ := r
      simp only [toPy, toPyV, e]
    | ins c ks vs =>
      simp only [Rd] at r
      obtain ⟨k, ds, rfl, _, e, _⟩ := r
      simp only [toPy, toPyV, e]
    | _ =>
      simp only [Rd] at r
      subst r
      simp only [toPy, toPyV]
def pEq : PV → PV → PR PV := fun x y => match toPyV 9 x, toPyV 9 y with
  | some a, some b => .ok (.bl (PyData.eqv a b))
  | _, _ => .bad
def pNe : PV → PV → PR PV := fun x y => match toPyV 9 x, toPyV 9 y with
  | some a, some b => .ok (.bl (!PyData.eqv a b))
  | _, _ => .bad
theorem ox_eq : OX opEq pEq := fun Q h v1 v2 d1 d2 r1 r2 => by
  unfold pEq opEq
  rw [toPyV_eq 9 v1 d1 r1, toPyV_eq 9 v2 d2 r2]
  split
  · rename_i e1 e2; (try rw [e1, e2]); exact rp_bl
  · exact trivial
theorem ox_ne : OX opNe pNe := fun Q h v1 v2 d1 d2 r1 r2 => by
  unfold pNe opNe
  rw [toPyV_eq 9 v1 d1 r1, toPyV_eq 9 v2 d2 r2]
  split
  · rename_i e1 e2; (try rw [e1, e2]); exact rp_bl
  · exact trivial
def flatP : PV → Option V
  | .non => some .non
  | .bl b => some (.bl b)
  | .int i => some (.int i)
  | .str s => some (.str s)
  | _ => none
theorem flatP_eq {Q : Nat → Prop} {h : HC} (v : PV) (d : D) (r : Rd Q h v d) : flatD d = flatP v := by
  cases v with
  | tup vs => simp only [Rd] at r; obtain ⟨ds, rfl, r⟩ := r; rfl
  | lst vs => simp only [Rd] at r; obtain ⟨k, ds, rfl, r⟩ := r; rfl
  | dk ks vs => simp only [Rd] at r; obtain ⟨k, ds, rfl, r⟩ := r; rfl
  | dt ks vs => simp only [Rd] at r; obtain ⟨k, ds, rfl, r⟩ := r; rfl
  | ins c ks vs => simp only [Rd] at r; obtain ⟨k, ds, rfl, r⟩ := r; rfl
  | _ => simp only [Rd] at r; subst r; rfl
def pInB (neg : Bool) : PV → PV → PR PV
  | .str a, .str z => (match a.cps.toList with
    | [c] => .ok (.bl (if neg then !decide (c ∈ z.cps.toList) else decide (c ∈ z.cps.toList)))
    | _ => .bad)
  | x, .tup ys => (match flatP x, optAll (ys.map flatP) with
    | some v, some vs => .ok (.bl (if neg then !inV v vs else inV v vs))
    | _, _ => .bad)
  | x, .lst ys => (match toPyV 9 x, toPyV 9 (.lst ys) with
    | some a, some (.list ds) => .ok (.bl (if neg then !(ds.any fun z => PyData.eqv z a) else ds.any fun z => PyData.eqv z a))
    | _, _ => .bad)
  | _, _ => .bad
abbrev pIn := pInB false
abbrev pNotIn := pInB true
theorem ox_in {neg : Bool} : OX (opInB neg) (pInB neg) := fun Q h v1 v2 d1 d2 r1 r2 => by
  cases v2 with
  | str z =>
    cases v1 with
    | str a =>
      simp only [Rd] at r1 r2; subst r1 r2
      simp only [opInB, pInB]
      split
      · rename_i e; (try rw [e]); exact rp_bl
      · exact trivial
    | _ => simp only [pInB]; exact trivial
  | tup ys =>
    simp only [Rd] at r2
    obtain ⟨ds, rfl, r2⟩ := r2
    have e1 := flatP_eq v1 d1 r1
    have e2 := map_rds (fun v d r => flatP_eq v d r) r2
    have h1 : opInB neg d1 (.tup ds) h = (match flatD d1, optAll (ds.map flatD) with | some v, some vs => .ok (.bl (if neg then !inV v vs else inV v vs)) h | _, _ => .bad) := by
      cases d1 <;> rfl
    have h2 : pInB neg v1 (.tup ys) = (match flatP v1, optAll (ys.map flatP) with | some v, some vs => .ok (.bl (if neg then !inV v vs else inV v vs)) | _, _ => .bad) := by
      cases v1 <;> rfl
    rw [h1, h2, e1, e2]
    split
    · exact rp_bl
    · exact trivial
  | lst ys =>
    have e1 := toPyV_eq 9 v1 d1 r1
    have e2 := toPyV_eq 9 _ d2 r2
    simp only [Rd] at r2
    obtain ⟨k, ds, rfl, _, _, r2⟩ := r2
    have h1 : opInB neg d1 (.ref k) h = (match toPy h 9 d1, toPy h 9 (.ref k) with | some a, some (.list ds) => .ok (.bl (if neg then !(ds.any fun z => PyData.eqv z a) else ds.any fun z => PyData.eqv z a)) h | _, _ => .bad) := by
      cases d1 <;> rfl
    have h2 : pInB neg v1 (.lst ys) = (match toPyV 9 v1, toPyV 9 (.lst ys) with | some a, some (.list ds) => .ok (.bl (if neg then !(ds.any fun z => PyData.eqv z a) else ds.any fun z => PyData.eqv z a)) | _, _ => .bad) := by
      cases v1 <;> rfl
    rw [h1, h2, e1, e2]
    split
    · exact rp_bl
    · exact trivial
  | _ =>
    cases v1 <;> exact trivial
def isNonV : PV → Bool
  | .non => true
  | _ => false
theorem isNon_eq {Q : Nat → Prop} {h : HC} {v : PV} {d : D} (r : Rd Q h v d) : decide (d = .non) = isNonV v := by
  cases v with
  | tup vs => simp only [Rd] at r; obtain ⟨ds, rfl, r⟩ := r; simp [isNonV]
  | lst vs => simp only [Rd] at r; obtain ⟨k, ds, rfl, r⟩ := r; simp [isNonV]
  | dk ks vs => simp only [Rd] at r; obtain ⟨k, ds, rfl, r⟩ := r; simp [isNonV]
  | dt ks vs => simp only [Rd] at r; obtain ⟨k, ds, rfl, r⟩ := r; simp [isNonV]
  | ins c ks vs => simp only [Rd] at r; obtain ⟨k, ds, rfl, r⟩ := r; simp [isNonV]
  | _ => simp only [Rd] at r; subst r; simp [isNonV]
def pIsN : PV → PV → PR PV
  | x, .non => .ok (.bl (isNonV x))
  | _, _ => .bad
def pNotN : PV → PV → PR PV
  | x, .non => .ok (.bl (!isNonV x))
  | _, _ => .bad
theorem ox_isN : OX opIsN pIsN := fun Q h v1 v2 d1 d2 r1 r2 => by
  cases v2 with
  | non =>
    simp only [Rd] at r2; subst r2
    simp only [opIsN, pIsN, isNon_eq r1]
    exact rp_bl
  | _ => exact trivial
theorem ox_notN : OX opNotN pNotN := fun Q h v1 v2 d1 d2 r1 r2 => by
  cases v2 with
  | non =>
    simp only [Rd] at r2; subst r2
    simp only [opNotN, pNotN, isNon_eq r1]
    exact rp_bl
  | _ => exact trivial
theorem atI_rds {Q : Nat → Prop} {h : HC} {vs : List PV} {ds : List D} {i : Int} {v : PV} (r : Rds Q h vs ds) (e : atI vs i = some v) : ∃ d, atI ds i = some d ∧ Rd Q h v d := by
  unfold atI at e ⊢
  rw [r.len]
  cases q : ixN vs.length i with
  | none => rw [q] at e; simp at e
  | some k =>
    rw [q] at e
    simp at e
    simpa using r.get e
def pIx : PV → PV → PR PV
  | .tup xs, .int i => (match atI xs i with
    | some d => .ok d
    | none => .bad)
  | .lst xs, .int i => (match atI xs i with
    | some d => .ok d
    | none => .bad)
  | .str z, .int i => if z.length ≤ BIG then (match atI z.cps.toList i with
    | some c => .ok (.str ⟨#[c]⟩)
    | none => .bad) else .bad
  | .scr ns, .int i => (match atI ns i with
    | some n => .ok (.int n)
    | none => .bad)
  | _, _ => .bad
theorem ox_ix : OX opIx pIx := fun Q h v1 v2 d1 d2 r1 r2 => by
  unfold pIx
  split
  · simp only [Rd] at r1 r2
    obtain ⟨ds, rfl, r1⟩ := r1
    subst r2
    split
    · rename_i v e
      obtain ⟨d, h1, h2⟩ := atI_rds r1 e
      simp only [opIx, h1]
      exact RP.here good_rd h2
    · exact trivial
  · simp only [Rd] at r1 r2
    obtain ⟨n, ds, rfl, _, e1, r1⟩ := r1
    subst r2
    split
    · rename_i v e
      obtain ⟨d, h1, h2⟩ := atI_rds r1 e
      simp only [opIx, asSeq, e1, h1]
      exact RP.here good_rd h2
    · exact trivial
  · simp only [Rd] at r1 r2; subst r1 r2
    simp only [opIx]
    split
    · split
      · rename_i e; (try rw [e]); exact rp_str
      · exact trivial
    · exact trivial
  · simp only [Rd] at r1 r2; subst r1 r2
    simp only [opIx]
    split
    · rename_i e; (try rw [e]); exact rp_int
    · exact trivial
  · exact trivial
end G9

set_option Elab.async false
set_option linter.all false
set_option maxRecDepth 100000
set_option maxHeartbeats 2000000
namespace G9
open PySem L2
/-! ### truth -/
def truV : PV → Option Bool
  | .non => some false
  | .bl b => some b
  | .int i => some (i != 0)
  | .str s => if s.length ≤ BIG then some ((s.length : Int) != 0) else none
  | .tup xs => some (!xs.isEmpty)
  | .lst xs => some (!xs.isEmpty)
  | .dk ks _ => some (!ks.isEmpty)
  | _ => none
theorem Rds.isEmpty {Q : Nat → Prop} {h : HC} {vs : List PV} {ds : List D} (r : Rds Q h vs ds) : ds.isEmpty = vs.isEmpty := by
  have := r.len
  cases ds <;> cases vs <;> simp_all
theorem truV_eq {Q : Nat → Prop} {h : HC} {v : PV} {d : D} {b : Bool} (r : Rd Q h v d) (e : truV v = some b) : truD h d = some b := by
  cases v with
  | tup vs =>
    simp only [Rd] at r
    obtain ⟨ds, rfl, r⟩ := r
    simp only [truD, truV, r.isEmpty] at e ⊢
    exact e
  | lst vs =>
    simp only [Rd] at r
    obtain ⟨k, ds, rfl, _, q, r⟩ := r
    simp only [truD, truV, q, r.isEmpty] at e ⊢
    exact e
  | dk ks vs =>
    simp only [Rd] at r
    obtain ⟨k, ds, rfl, _, q, rfl, r⟩ := r
    simp only [truD, truV, q] at e ⊢
    rw [← e]
    cases ds <;> rfl
  | dt ks vs => simp [truV] at e
  | ins c ks vs => simp [truV] at e
  | scr ns => simp [truV] at e
  | _ => simp only [Rd] at r; subst r; simpa only [truD, truV] using e
def pTru (a : XP) : TP := fun σ => (a σ).bind fun x => match truV x with
  | some b => .ok b
  | none => .bad
def pNot (a : TP) : TP := fun σ => (a σ).bind fun b => .ok (!b)
def pAnd (a b : TP) : TP := fun σ => (a σ).bind fun x => if x = true then b σ else .ok false
def pOr (a b : TP) : TP := fun σ => (a σ).bind fun x => if x = true then .ok true else b σ
def pNotV (a : XP) : XP := fun σ => (a σ).bind fun x => match truV x with
  | some b => .ok (.bl (!b))
  | none => .bad
def pAndV (a b : XP) : XP := fun σ => (a σ).bind fun x => match truV x with
  | some k => if k = true then b σ else .ok x
  | none => .bad
def pOrV (a b : XP) : XP := fun σ => (a σ).bind fun x => match truV x with
  | some k => if k = true then .ok x else b σ
  | none => .bad
def pIf (c : TP) (a b : XP) : XP := fun σ => (c σ).bind fun x => if x = true then a σ else b σ
def pChain (op op' : PV → PV → PR PV) (a b c : XP) : XP := fun σ => (a σ).bind fun x => (b σ).bind fun y => (op x y).bind fun z => match z with
  | .bl true => (c σ).bind fun w => op' y w
  | .bl false => .ok (.bl false)
  | _ => .bad
def pBo (a : XP) : TP := fun σ => (a σ).bind fun x => match x with
  | .bl b => .ok b
  | _ => .bad
section
variable {U U' U'' : List Nat} {a b c : EE} {pa pb pc : XP} {f g : ET} {pf pg : TP} {Q : Nat → Prop} {h : HC}
theorem rp_b {b : Bool} : RP RE Q h (.ok b) (.ok b h) := RP.here good_re rfl
theorem pt_tru (ha : PX U a pa) : PTT (U ++ []) (fTru a) (pTru pa) := PJ.bind good_re ha fun Q s h σ v d E r => by
  cases e : truV v with
  | none => exact trivial
  | some b => simp only [truV_eq r e]; exact rp_b
theorem pt_not (ha : PTT U f pf) : PTT (U ++ []) (fNot f) (pNot pf) := PJ.bind good_re ha fun Q s h σ v d E r => by
  obtain rfl : v = d := r
  exact rp_b
theorem pt_and (ha : PTT U f pf) (hb : PTT U' g pg) : PTT (U ++ U') (fAnd f g) (pAnd pf pg) := PJ.bind good_re ha fun Q s h σ v d E r => by
  obtain rfl : v = d := r
  cases v
  · exact rp_b
  · exact hb Q s h σ E
theorem pt_or (ha : PTT U f pf) (hb : PTT U' g pg) : PTT (U ++ U') (fOr f g) (pOr pf pg) := PJ.bind good_re ha fun Q s h σ v d E r => by
  obtain rfl : v = d := r
  cases v
  · exact hb Q s h σ E
  · exact rp_b
theorem pt_bo (ha : PX U a pa) : PTT (U ++ []) (fBo a) (pBo pa) := PJ.bind good_re ha fun Q s h σ v d E r => by
  cases v with
  | bl b => simp only [Rd] at r; subst r; exact rp_b
  | _ => exact trivial
theorem pt_yes : PTT [] fYes (fun _ => .ok true) := fun Q s h σ E => rp_b
theorem px_notV (ha : PX U a pa) : PX (U ++ []) (fNotV a) (pNotV pa) := PJ.bind good_rd ha fun Q s h σ v d E r => by
  cases e : truV v with
  | none => exact trivial
  | some b => simp only [truV_eq r e]; exact rp_bl
theorem px_andV (ha : PX U a pa) (hb : PX U' b pb) : PX (U ++ U') (fAndV a b) (pAndV pa pb) := PJ.bind good_rd ha fun Q s h σ v d E r => by
  cases e : truV v with
  | none => exact trivial
  | some k =>
    simp only [truV_eq r e]
    cases k
    · exact RP.here good_rd r
    · exact hb Q s h σ E
theorem px_orV (ha : PX U a pa) (hb : PX U' b pb) : PX (U ++ U') (fOrV a b) (pOrV pa pb) := PJ.bind good_rd ha fun Q s h σ v d E r => by
  cases e : truV v with
  | none => exact trivial
  | some k =>
    simp only [truV_eq r e]
    cases k
    · exact hb Q s h σ E
    · exact RP.here good_rd r
theorem px_if (hc : PTT U f pf) (ha : PX U' a pa) (hb : PX U'' b pb) : PX (U ++ (U' ++ U'')) (fIf f a b) (pIf pf pa pb) := PJ.bind good_rd hc fun Q s h σ v d E r => by
  obtain rfl : v = d := r
  cases v
  · exact hb Q s h σ E.r
  · exact ha Q s h σ E.l
theorem px_chain {op op' : D → D → HC → Res D} {po po' : PV → PV → PR PV} (ho : OX op po) (ho' : OX op' po') (ha : PX U a pa) (hb : PX U' b pb) (hc : PX U'' c pc) : PX (U ++ (U' ++ U'')) (fChain op op' a b c) (pChain po po' pa pb pc) :=
  PJ.bind good_rd ha fun Q s h σ v d E r => (hb Q s h σ E.l).bind good_rd fun d' h' v' l r' => (ho _ h' v v' d d' (good_rd.mo (fun _ q => .inl q) l r) r').bind good_rd fun z h2 w l2 r2 => by
    cases w with
    | bl b =>
      simp only [Rd] at r2; subst r2
      cases b
      · exact rp_bl
      · refine (hc _ s h2 σ ((E.r.up l).up l2)).bind good_rd fun x h3 y l3 r3 => ?_
        refine ho' _ h3 v' y d' x ?_ r3
        exact good_rd.mo (fun _ q => .inl (.inl q)) (l2.trans l3) r'
    | _ => exact trivial
end
/-! ### rows of expressions -/
def pNil : AP := fun _ => .ok []
def pCons (a : XP) (as : AP) : AP := fun σ => (a σ).bind fun x => (as σ).bind fun xs => .ok (x :: xs)
def pTup (as : AP) : XP := fun σ => (as σ).bind fun xs => mkTV xs
def pLst (as : AP) : XP := fun σ => (as σ).bind fun xs => newLV xs
def pCl (f : List PV → PR PV) (as : AP) : XP := fun σ => (as σ).bind fun xs => f xs
def pCall (n : Nat) (f : List PV → PR PV) (as : AP) : XP := fun σ => (as σ).bind fun xs => if xs.length = n then f xs else .bad
def pCall0 (f : List PV → PR PV) : XP := fun _ => f []
/-- a function of values -/
def CX (f : List D → HC → Res D) (pf : List PV → PR PV) : Prop := ∀ (Q : Nat → Prop) (h : HC) (vs : List PV) (ds : List D), Rds Q h vs ds → RP Rd Q h (pf vs) (f ds h)
section
variable {U U' U'' : List Nat} {a b c : EE} {pa pb pc : XP} {as : EA} {pas : AP} {f : List D → HC → Res D} {pf : List PV → PR PV} {Q : Nat → Prop} {h : HC}
theorem pa_nil : PAA [] fNil pNil := fun Q s h σ E => RP.here good_rds Rds.nil
theorem pa_cons (ha : PX U a pa) (hb : PAA U' as pas) : PAA (U ++ U') (fCons a as) (pCons pa pas) :=
  PJ.bind good_rds ha fun Q s h σ v d E r => (hb Q s h σ E).bind good_rds fun ds h' vs l r' => RP.here good_rds (.cons (good_rd.mo (fun _ q => .inl q) l r) r')
theorem px_tup (ha : PAA U as pas) : PX (U ++ []) (fTup as) (pTup pas) := PJ.bind good_rd ha fun Q s h σ v d E r => mkT_rp r
theorem px_lst (ha : PAA U as pas) : PX (U ++ []) (fLst as) (pLst pas) := PJ.bind good_rd ha fun Q s h σ v d E r => newL_rp r
theorem px_cl (hf : CX f pf) (ha : PAA U as pas) : PX (U ++ []) (fCl f as) (pCl pf pas) := PJ.bind good_rd ha fun Q s h σ v d E r => hf Q h v d r
theorem px_call {n : Nat} (hf : CX f pf) (ha : PAA U as pas) : PX (U ++ []) (fCall n f as) (pCall n pf pas) := PJ.bind good_rd ha fun Q s h σ v d E r => by
  rw [r.len]
  split
  · exact hf Q h v d r
  · exact trivial
theorem px_call0 (hf : CX f pf) : PX [] (fCall0 f) (pCall0 pf) := fun Q s h σ E => hf Q h [] [] Rds.nil
end
/-! ### built-ins -/
def pLen : List PV → PR PV
  | [.str z] => if z.length ≤ BIG then .ok (.int z.length) else .bad
  | [.tup xs] => .ok (.int xs.length)
  | [.lst xs] => .ok (.int xs.length)
  | [.scr ns] => .ok (.int ns.length)
  | _ => .bad
theorem cx_len : CX bLen pLen := fun Q h vs ds r => by
  unfold pLen
  split
  · obtain ⟨d, ds', rfl, r1, r2⟩ := r.uncons
    simp only [Rds] at r2; subst r2
    simp only [Rd] at r1; subst r1
    simp only [bLen]
    split
    · exact rp_int
    · exact trivial
  · obtain ⟨d, ds', rfl, r1, r2⟩ := r.uncons
    simp only [Rds] at r2; subst r2
    simp only [Rd] at r1
    obtain ⟨ds, rfl, r1⟩ := r1
    simp only [bLen, r1.len]
    exact rp_int
  · obtain ⟨d, ds', rfl, r1, r2⟩ := r.uncons
    simp only [Rds] at r2; subst r2
    simp only [Rd] at r1
    obtain ⟨n, ds, rfl, _, e, r1⟩ := r1
    simp only [bLen, asSeq, e, r1.len]
    exact rp_int
  · obtain ⟨d, ds', rfl, r1, r2⟩ := r.uncons
    simp only [Rds] at r2; subst r2
    simp only [Rd] at r1; subst r1
    exact rp_int
  · exact trivial
def pList : List PV → PR PV
  | [.tup xs] => newLV xs
  | [.lst xs] => newLV xs
  | _ => .bad
def pTuple : List PV → PR PV
  | [.tup xs] => mkTV xs
  | [.lst xs] => mkTV xs
  | _ => .bad
/-- one thing that is a list or a tuple -/
theorem one_tup {Q : Nat → Prop} {h : HC} {xs : List PV} {ds : List D} (r : Rds Q h [.tup xs] ds) : ∃ es, ds = [.tup es] ∧ Rds Q h xs es := by
  obtain ⟨d, ds', rfl, r1, r2⟩ := r.uncons
  simp only [Rds] at r2; subst r2
  simp only [Rd] at r1
  obtain ⟨es, rfl, r1⟩ := r1
  exact ⟨es, rfl, r1⟩
theorem one_lst {Q : Nat → Prop} {h : HC} {xs : List PV} {ds : List D} (r : Rds Q h [.lst xs] ds) : ∃ n es, ds = [.ref n] ∧ Q n ∧ h[n]? = some (.lst es) ∧ Rds Q h xs es := by
  obtain ⟨d, ds', rfl, r1, r2⟩ := r.uncons
  simp only [Rds] at r2; subst r2
  simp only [Rd] at r1
  obtain ⟨n, es, rfl, q, e, r1⟩ := r1
  exact ⟨n, es, rfl, q, e, r1⟩
theorem cx_list : CX bList pList := fun Q h vs ds r => by
  unfold pList
  split
  · obtain ⟨es, rfl, r'⟩ := one_tup r
    exact newL_rp r'
  · obtain ⟨n, es, rfl, _, e, r⟩ := one_lst r
    simp only [bList, asSeq, e]
    exact newL_rp r
  · exact trivial
theorem cx_tuple : CX bTuple pTuple := fun Q h vs ds r => by
  unfold pTuple
  split
  · obtain ⟨es, rfl, r'⟩ := one_tup r
    exact mkT_rp r'
  · obtain ⟨n, es, rfl, _, e, r⟩ := one_lst r
    simp only [bTuple, asSeq, e]
    exact mkT_rp r
  · exact trivial
def intsV (xs : List PV) : Option (List Int) := optAll (xs.map fun d => match d with
  | .int i => some i
  | _ => none)
theorem intsV_eq {Q : Nat → Prop} {h : HC} {vs : List PV} {ds : List D} (r : Rds Q h vs ds) : intsD ds = intsV vs := by
  unfold intsD intsV
  refine congrArg optAll (map_rds (Q := Q) (h := h) ?_ r)
  intro v d r
  cases v with
  | tup vs => simp only [Rd] at r; obtain ⟨ds, rfl, r⟩ := r; rfl
  | lst vs => simp only [Rd] at r; obtain ⟨k, ds, rfl, r⟩ := r; rfl
  | dk ks vs => simp only [Rd] at r; obtain ⟨k, ds, rfl, r⟩ := r; rfl
  | dt ks vs => simp only [Rd] at r; obtain ⟨k, ds, rfl, r⟩ := r; rfl
  | ins c ks vs => simp only [Rd] at r; obtain ⟨k, ds, rfl, r⟩ := r; rfl
  | _ => simp only [Rd] at r; subst r; rfl
def strsV (xs : List PV) : Option (List Str) := optAll (xs.map fun d => match d with
  | .str i => some i
  | _ => none)
theorem strsV_eq {Q : Nat → Prop} {h : HC} {vs : List PV} {ds : List D} (r : Rds Q h vs ds) : strsD ds = strsV vs := by
  unfold strsD strsV
  refine congrArg optAll (map_rds (Q := Q) (h := h) ?_ r)
  intro v d r
  cases v with
  | tup vs => simp only [Rd] at r; obtain ⟨ds, rfl, r⟩ := r; rfl
  | lst vs => simp only [Rd] at r; obtain ⟨k, ds, rfl, r⟩ := r; rfl
  | dk ks vs => simp only [Rd] at r; obtain ⟨k, ds, rfl, r⟩ := r; rfl
  | dt ks vs => simp only [Rd] at r; obtain ⟨k, ds, rfl, r⟩ := r; rfl
  | ins c ks vs => simp only [Rd] at r; obtain ⟨k, ds, rfl, r⟩ := r; rfl
  | _ => simp only [Rd] at r; subst r; rfl
def pSum : List PV → PR PV
  | [.lst xs] => (match intsV xs with
    | some ns => .ok (.int ns.sum)
    | none => .bad)
  | _ => .bad
def pMax : List PV → PR PV
  | [.int a, .int b] => .ok (.int (if b > a then b else a))
  | [.lst xs] => (match intsV xs with
    | some (x :: ns) => .ok (.int (maxI (x :: ns)))
    | _ => .bad)
  | _ => .bad
def pMin : List PV → PR PV
  | [.int a, .int b] => .ok (.int (if b < a then b else a))
  | [.lst xs] => (match intsV xs with
    | some (x :: ns) => .ok (.int (minI (x :: ns)))
    | _ => .bad)
  | _ => .bad
theorem two_int {Q : Nat → Prop} {h : HC} {a b : Int} {ds : List D} (r : Rds Q h [.int a, .int b] ds) : ds = [.int a, .int b] := by
  obtain ⟨d, ds', rfl, r1, r2⟩ := r.uncons
  obtain ⟨d2, ds2, rfl, r3, r4⟩ := r2.uncons
  simp only [Rds] at r4; subst r4
  simp only [Rd] at r1 r3; subst r1 r3
  rfl
theorem cx_sum : CX bSum pSum := fun Q h vs ds r => by
  unfold pSum
  split
  · obtain ⟨n, es, rfl, _, e, r⟩ := one_lst r
    simp only [bSum, asSeq, e, intsV_eq r]
    split
    · rename_i e; (try rw [e]); exact rp_int
    · exact trivial
  · exact trivial
theorem cx_max : CX bMax pMax := fun Q h vs ds r => by
  unfold pMax
  split
  · rw [two_int r]; exact rp_int
  · obtain ⟨n, es, rfl, _, e, r⟩ := one_lst r
    simp only [bMax, asSeq, e, intsV_eq r]
    split
    · rename_i e; (try rw [e]); exact rp_int
    · exact trivial
  · exact trivial
theorem cx_min : CX bMin pMin := fun Q h vs ds r => by
  unfold pMin
  split
  · rw [two_int r]; exact rp_int
  · obtain ⟨n, es, rfl, _, e, r⟩ := one_lst r
    simp only [bMin, asSeq, e, intsV_eq r]
    split
    · rename_i e; (try rw [e]); exact rp_int
    · exact trivial
  · exact trivial
/-! ### slices -/
def pNoP : OP := fun _ => .ok none
def pPart (a : XP) : OP := fun σ => (a σ).bind fun x => match x with
  | .int i => .ok (some i)
  | _ => .bad
def pSlV (x : PV) (lo hi : Option Int) : PR PV := match x with
  | .tup xs => mkTV (cutD xs lo hi)
  | .lst xs => newLV (cutD xs lo hi)
  | .str z => if z.length ≤ BIG then .ok (.str (cutS z lo hi)) else .bad
  | _ => .bad
def pSl (a : XP) (lo hi : OP) : XP := fun σ => (a σ).bind fun x => (lo σ).bind fun l => (hi σ).bind fun u => pSlV x l u
theorem cut_rds {Q : Nat → Prop} {h : HC} {vs : List PV} {ds : List D} {lo hi : Option Int} (r : Rds Q h vs ds) : Rds Q h (cutD vs lo hi) (cutD ds lo hi) := by
  unfold cutD
  rw [r.len]
  exact (r.drop _).take _
section
variable {U U' U'' : List Nat} {a b c : EE} {pa pb pc : XP} {lo hi : EO} {plo phi : OP} {Q : Nat → Prop} {h : HC}
theorem po_no : POO [] fNoP pNoP := fun Q s h σ E => RP.here good_re rfl
theorem po_part (ha : PX U a pa) : POO (U ++ []) (fPart a) (pPart pa) := PJ.bind good_re ha fun Q s h σ v d E r => by
  cases v with
  | int i => simp only [Rd] at r; subst r; exact RP.here good_re rfl
  | _ => exact trivial
theorem sl_rp {v : PV} {d : D} {l u : Option Int} (r : Rd Q h v d) : RP Rd Q h (pSlV v l u) (opSl d l u h) := by
  unfold pSlV
  split
  · simp only [Rd] at r
    obtain ⟨ds, rfl, r⟩ := r
    exact mkT_rp (cut_rds r)
  · simp only [Rd] at r
    obtain ⟨n, ds, rfl, _, e, r⟩ := r
    simp only [opSl, asSeq, e]
    exact newL_rp (cut_rds r)
  · simp only [Rd] at r; subst r
    simp only [opSl]
    split
    · exact rp_str
    · exact trivial
  · exact trivial
theorem px_sl (ha : PX U a pa) (hl : POO U' lo plo) (hh : POO U'' hi phi) : PX (U ++ (U' ++ U'')) (fSl a lo hi) (pSl pa plo phi) :=
  PJ.bind good_rd ha fun Q s h σ v d E r => (hl Q s h σ E.l).bind good_rd fun l h1 l' le r1 => (hh _ s h1 σ (E.r.up le)).bind good_rd fun u h2 u' le2 r2 => by
    obtain rfl : l' = l := r1
    obtain rfl : u' = u := r2
    exact sl_rp (good_rd.mo (fun _ q => .inl (.inl q)) (le.trans le2) r)
/-! ### isinstance, - x -/
def tyV : PV → Option String
  | .non => some "NoneType"
  | .bl _ => some "bool"
  | .int _ => some "int"
  | .str _ => some "str"
  | .tup _ => some "tuple"
  | .lst _ => some "list"
  | .dk _ _ => some "dict"
  | .dt _ _ => some "dict"
  | _ => none
theorem tyV_eq {v : PV} {d : D} {t : String} (r : Rd Q h v d) (e : tyV v = some t) : tyName h d = some t := by
  cases v with
  | tup vs => simp only [Rd] at r; obtain ⟨ds, rfl, r⟩ := r; exact e
  | lst vs => simp only [Rd] at r; obtain ⟨k, ds, rfl, _, q, r⟩ := r; simp only [tyName, q]; exact e
  | dk ks vs => simp only [Rd] at r; obtain ⟨k, ds, rfl, _, q, r⟩ := r; simp only [tyName, q]; exact e
  | dt ks vs => simp only [Rd] at r; obtain ⟨k, ds, rfl, _, q, r⟩ := r; simp only [tyName, q]; exact e
  | ins c ks vs => simp [tyV] at e
  | scr ns => simp [tyV] at e
  | _ => simp only [Rd] at r; subst r; exact e
def pIsi (c : String) (a : XP) : XP := fun σ => (a σ).bind fun x => match tyV x with
  | some t => (match isiT t c with
    | some b => .ok (.bl b)
    | none => .bad)
  | none => .bad
theorem px_isi {t : String} (ha : PX U a pa) : PX (U ++ []) (fIsi t a) (pIsi t pa) := PJ.bind good_rd ha fun Q s h σ v d E r => by
  cases e : tyV v with
  | none => exact trivial
  | some k =>
    simp only [tyV_eq r e]
    cases isiT k t with
    | none => exact trivial
    | some b => exact rp_bl
def pNeg (a : XP) : XP := fun σ => (a σ).bind fun x => match x with
  | .int i => .ok (.int (-i))
  | _ => .bad
theorem px_neg (ha : PX U a pa) : PX (U ++ []) (fNeg a) (pNeg pa) := PJ.bind good_rd ha fun Q s h σ v d E r => by
  cases v with
  | int i => simp only [Rd] at r; subst r; exact rp_int
  | _ => exact trivial
/-! ### how many unlike texts -/
def pLenSet (a : XP) : XP := fun σ => (a σ).bind fun x => match x with
  | .tup ds => (match strsV ds with
    | some xs => if xs.length ≤ 1000 then .ok (.int (dn xs)) else .bad
    | none => .bad)
  | _ => .bad
theorem px_lenSet (ha : PX U a pa) : PX (U ++ []) (fLenSet a) (pLenSet pa) := PJ.bind good_rd ha fun Q s h σ v d E r => by
  cases v with
  | tup vs =>
    simp only [Rd] at r
    obtain ⟨ds, rfl, r⟩ := r
    simp only [strsV_eq r]
    cases strsV vs with
    | none => exact trivial
    | some xs =>
      dsimp only
      split
      · exact rp_int
      · exact trivial
  | _ => exact trivial
end
/-! ### methods that change nothing -/
def hasTyV (T : String) : PV → Bool
  | .str _ => decide (T = "str")
  | .lst _ => decide (T = "list")
  | .dk _ _ => decide (T = "dict")
  | .dt _ _ => decide (T = "dict")
  | _ => false
theorem hasTyV_eq {Q : Nat → Prop} {h : HC} {v : PV} {d : D} {T : String} (r : Rd Q h v d) (e : hasTyV T v = true) : hasTy T h d = true := by
  cases v with
  | str z => simp only [Rd] at r; subst r; exact e
  | lst vs => simp only [Rd] at r; obtain ⟨k, ds, rfl, _, q, r⟩ := r; simp only [hasTy, q]; exact e
  | dk ks vs => simp only [Rd] at r; obtain ⟨k, ds, rfl, _, q, r⟩ := r; simp only [hasTy, q]; exact e
  | dt ks vs => simp only [Rd] at r; obtain ⟨k, ds, rfl, _, q, r⟩ := r; simp only [hasTy, q]; exact e
  | _ => simp [hasTyV] at e
def MX (f : D → List D → HC → Res D) (pf : PV → List PV → PR PV) : Prop := ∀ (Q : Nat → Prop) (h : HC) (v : PV) (d : D) (vs : List PV) (ds : List D), Rd Q h v d → Rds Q h vs ds → RP Rd Q h (pf v vs) (f d ds h)
def pMt (T : String) (f : PV → List PV → PR PV) (o : XP) (as : AP) : XP := fun σ => (o σ).bind fun x => if hasTyV T x = true then (as σ).bind fun xs => f x xs else .bad
def pMt0 (T : String) (f : PV → List PV → PR PV) (o : XP) : XP := fun σ => (o σ).bind fun x => if hasTyV T x = true then f x [] else .bad
section
variable {U U' : List Nat} {o : EE} {po : XP} {as : EA} {pas : AP} {T : String} {f : D → List D → HC → Res D} {pf : PV → List PV → PR PV}
theorem px_mt (hf : MX f pf) (ho : PX U o po) (ha : PAA U' as pas) : PX (U ++ U') (fMt T f o as) (pMt T pf po pas) := PJ.bind good_rd ho fun Q s h σ v d E r => by
  split
  · rename_i e
    rw [if_pos (hasTyV_eq r e)]
    exact (ha Q s h σ E).bind good_rd fun ds h' vs l r' => hf _ h' v d vs ds (good_rd.mo (fun _ q => .inl q) l r) r'
  · exact trivial
theorem px_mt0 (hf : MX f pf) (ho : PX U o po) : PX (U ++ []) (fMt0 T f o) (pMt0 T pf po) := PJ.bind good_rd ho fun Q s h σ v d E r => by
  split
  · rename_i e
    rw [if_pos (hasTyV_eq r e)]
    exact hf _ h v d [] [] r Rds.nil
  · exact trivial
end
def pJoin : PV → List PV → PR PV
  | .str a, [.lst xs] => (match strsV xs with
    | some ys => if joinOk a ys = true then .ok (.str (Txt.join a ys)) else .bad
    | none => .bad)
  | .str a, [.tup xs] => (match strsV xs with
    | some ys => if joinOk a ys = true then .ok (.str (Txt.join a ys)) else .bad
    | none => .bad)
  | _, _ => .bad
theorem mx_join : MX mJoin pJoin := fun Q h v d vs ds r rs => by
  unfold pJoin
  split
  · simp only [Rd] at r; subst r
    obtain ⟨n, es, rfl, _, e, rs'⟩ := one_lst rs
    simp only [mJoin, asSeq, e, strsV_eq rs']
    split
    · rename_i e; try rw [e]
      split
      · rename_i e; first | exact rp_str | (try dsimp only); rw [if_pos e]; exact rp_str
      · exact trivial
    · exact trivial
  · simp only [Rd] at r; subst r
    obtain ⟨es, rfl, rs'⟩ := one_tup rs
    simp only [mJoin, strsV_eq rs']
    split
    · rename_i e; try rw [e]
      split
      · rename_i e; first | exact rp_str | (try dsimp only); rw [if_pos e]; exact rp_str
      · exact trivial
    · exact trivial
  · exact trivial
def pIndex : PV → List PV → PR PV
  | .lst xs, [y] => (match toPyV 9 (.lst xs), toPyV 9 y with
    | some (.list ds), some d => (match idxOf ds d with
      | some j => .ok (.int (j : Int))
      | none => .bad)
    | _, _ => .bad)
  | _, _ => .bad
theorem mx_index : MX mIndex pIndex := fun Q h v d vs ds r rs => by
  unfold pIndex
  split
  · obtain ⟨d2, ds', rfl, r1, r2⟩ := rs.uncons
    simp only [Rds] at r2; subst r2
    have e1 := toPyV_eq 9 _ d r
    have e2 := toPyV_eq 9 _ d2 r1
    simp only [Rd] at r
    obtain ⟨n, es, rfl, _, e, r⟩ := r
    simp only [mIndex, e1, e2]
    split
    · rename_i q1 q2
      try rw [q1, q2]
      try dsimp only
      split
      · rename_i q; (try rw [q]); exact rp_int
      · exact trivial
    · exact trivial
  · exact trivial
end G9

set_option Elab.async false
set_option linter.all false
set_option maxRecDepth 100000
set_option maxHeartbeats 2000000
namespace G9
open PySem L2
/-! ### targets -/
abbrev GP := PV → SP → Option SP
abbrev GPs := List PV → SP → Option SP
def hN (i : Nat) : GP := fun v σ => some (σ.set i (some v))
def hT (g : GPs) : GP := fun v σ => match v with
  | .tup xs => g xs σ
  | _ => none
def hsN : GPs := fun vs σ => match vs with
  | [] => some σ
  | _ => none
def hsC (g : GP) (gs : GPs) : GPs := fun vs σ => match vs with
  | v :: r => (g v σ).bind fun σ1 => gs r σ1
  | [] => none
/-- what a target binds -/
structure Bnd (own : List Nat) (Q : Nat → Prop) (h : HC) (s s1 : SD) (σ σ1 : SP) : Prop where
  l1 : s1.length = s.length
  l2 : σ1.length = σ.length
  at_ : ∀ i : Nat, (σ1[i]? = σ[i]? ∧ s1[i]? = s[i]?) ∨ (i ∈ own ∧ ∃ w d, σ1[i]? = some (some w) ∧ s1[i]? = some (some d) ∧ Rd Q h w d)
def GX (own : List Nat) (g : EG) (gp : GP) : Prop := ∀ (Q : Nat → Prop) (h : HC) (s : SD) (σ σ1 : SP) (v : PV) (d : D), s.length = σ.length → Rd Q h v d → gp v σ = some σ1 → ∃ s1, g d s = some s1 ∧ Bnd own Q h s s1 σ σ1
def GXs (own : List Nat) (g : EGs) (gp : GPs) : Prop := ∀ (Q : Nat → Prop) (h : HC) (s : SD) (σ σ1 : SP) (v : List PV) (d : List D), s.length = σ.length → Rds Q h v d → gp v σ = some σ1 → ∃ s1, g d s = some s1 ∧ Bnd own Q h s s1 σ σ1
theorem gx_n {i : Nat} : GX [i] (gN i) (hN i) := fun Q h s σ σ1 v d hl r e => by
  simp only [hN, Option.some.injEq] at e
  subst e
  refine ⟨s.set i (some d), rfl, by simp, by simp, fun j => ?_⟩
  by_cases hj : i = j
  · subst hj
    by_cases hi : i < σ.length
    · exact .inr ⟨by simp, v, d, by simp [hi], by simp [hl, hi], r⟩
    · left
      rw [List.getElem?_eq_none (by simpa using hi), List.getElem?_eq_none (by simpa using hi), List.getElem?_eq_none (by simpa [hl] using hi), List.getElem?_eq_none (by rw [hl]; simpa using hi)]
      exact ⟨rfl, rfl⟩
  · exact .inl ⟨by simp [hj], by simp [hj]⟩
theorem gxs_nil : GXs [] gsN hsN := fun Q h s σ σ1 v d hl r e => by
  cases v with
  | nil =>
    simp only [hsN, Option.some.injEq] at e
    subst e
    simp only [Rds] at r
    subst r
    exact ⟨s, rfl, rfl, rfl, fun j => .inl ⟨rfl, rfl⟩⟩
  | cons v vs => simp [hsN] at e
theorem gxs_cons {o o' : List Nat} {g : EG} {gp : GP} {gs : EGs} {gps : GPs} (hg : GX o g gp) (hgs : GXs o' gs gps) : GXs (o ++ o') (gsC g gs) (hsC gp gps) := fun Q h s σ σ1 v d hl r e => by
  cases v with
  | nil => simp [hsC] at e
  | cons v vs =>
    simp only [hsC] at e
    obtain ⟨d1, ds', rfl, r1, r2⟩ := r.uncons
    cases q : gp v σ with
    | none => simp [q] at e
    | some σ2 =>
      simp [q] at e
      obtain ⟨s2, e2, b2⟩ := hg Q h s σ σ2 v d1 hl r1 q
      obtain ⟨s3, e3, b3⟩ := hgs Q h s2 σ2 σ1 vs ds' (by rw [b2.l1, b2.l2, hl]) r2 e
      refine ⟨s3, by simp [gsC, e2, e3], b3.l1.trans b2.l1, b3.l2.trans b2.l2, fun i => ?_⟩
      rcases b3.at_ i with ⟨x1, x2⟩ | ⟨x1, x2⟩
      · rcases b2.at_ i with ⟨y1, y2⟩ | ⟨y1, w, d, y2, y3, y4⟩
        · exact .inl ⟨x1.trans y1, x2.trans y2⟩
        · exact .inr ⟨List.mem_append_left _ y1, w, d, x1.trans y2, x2.trans y3, y4⟩
      · exact .inr ⟨List.mem_append_right _ x1, x2⟩
theorem gx_t {o : List Nat} {g : EGs} {gp : GPs} (hg : GXs o g gp) : GX o (gT g) (hT gp) := fun Q h s σ σ1 v d hl r e => by
  cases v with
  | tup vs =>
    simp only [Rd] at r
    obtain ⟨ds, rfl, r⟩ := r
    exact hg Q h s σ σ1 vs ds hl r e
  | _ => simp [hT] at e
/-! ### what is walked -/
abbrev IP := SP → PR (List PV)
def RIt : Rl2 (List D × List (Nat × Cell)) (List PV) := fun Q h vs x => Rds Q h vs x.1 ∧ ∀ g ∈ x.2, Q g.1 ∧ h[g.1]? = some g.2
theorem good_it : Good RIt := ⟨fun hq l r => ⟨good_rds.mo hq l r.1, fun g hg => ⟨hq _ (r.2 g hg).1, l.get (r.2 g hg).2⟩⟩⟩
abbrev PII := PJ RIt
def pItL (a : XP) : IP := fun σ => (a σ).bind fun x => match x with
  | .lst xs => .ok xs
  | .scr ns => .ok (ns.map PV.int)
  | _ => .bad
def pItT (a : XP) : IP := fun σ => (a σ).bind fun x => match x with
  | .tup xs => .ok xs
  | _ => .bad
def pItS (a : XP) : IP := fun σ => (a σ).bind fun x => match x with
  | .str z => .ok (z.cps.toList.map fun c => .str ⟨#[c]⟩)
  | _ => .bad
def rngV (lo : Int) (n : Nat) : List PV := (List.range n).map fun (i : Nat) => PV.int (lo + (i : Int))
def pItR1 (a : XP) : IP := fun σ => (a σ).bind fun x => match x with
  | .int j => if -(2 ^ 62) ≤ j ∧ j < 2 ^ 62 then .ok (rngV 0 j.toNat) else .bad
  | _ => .bad
def pItR2 (a b : XP) : IP := fun σ => (a σ).bind fun x => (b σ).bind fun y => match x, y with
  | .int i, .int j => if -(2 ^ 62) ≤ i ∧ i < 2 ^ 62 ∧ -(2 ^ 62) ≤ j ∧ j < 2 ^ 62 then .ok (rngV i (j - i).toNat) else .bad
  | _, _ => .bad
def enumV (xs : List PV) : List PV := (List.range xs.length).zipWith (fun (i : Nat) d => .tup [.int (i : Int), d]) xs
def zipV (xs ys : List PV) : List PV := List.zipWith (fun d e => .tup [d, e]) xs ys
def pItEL (a : XP) : IP := fun σ => (a σ).bind fun x => match x with
  | .lst xs => .ok (enumV xs)
  | _ => .bad
def pItET (a : XP) : IP := fun σ => (a σ).bind fun x => match x with
  | .tup xs => .ok (enumV xs)
  | _ => .bad
def pItZM (a b : XP) : IP := fun σ => (a σ).bind fun x => (b σ).bind fun y => match x, y with
  | .lst xs, .tup ys => .ok (zipV xs ys)
  | _, _ => .bad
section
variable {Q : Nat → Prop} {h : HC} {U U' : List Nat} {a b : EE} {pa pb : XP}
theorem rds_map {α : Type} {f : α → PV} {g : α → D} (e : ∀ x, Rd Q h (f x) (g x)) : ∀ xs : List α, Rds Q h (xs.map f) (xs.map g)
  | [] => Rds.nil
  | x :: xs => .cons (e x) (rds_map e xs)
theorem rds_rng {lo : Int} {n : Nat} : Rds Q h (rngV lo n) (rngD lo n) := rds_map (fun _ => by simp only [Rd]) _
theorem rds_enum {vs : List PV} {ds : List D} (r : Rds Q h vs ds) : Rds Q h (enumV vs) (enumD ds) := by
  refine Rds.of (by simp [enumV, enumD, r.len]) fun i v e => ?_
  unfold enumV at e
  rw [List.getElem?_zipWith] at e
  cases q : vs[i]? with
  | none => simp [q] at e
  | some x =>
    have hi : i < vs.length := (List.getElem?_eq_some_iff.mp q).1
    rw [List.getElem?_range hi, q] at e
    simp at e
    subst e
    obtain ⟨d, h1, h2⟩ := r.get q
    refine ⟨.tup [.int (i : Int), d], ?_, Rd.tup (.cons (by simp only [Rd]) (.one h2))⟩
    unfold enumD
    rw [List.getElem?_zipWith, List.getElem?_range (by rw [r.len]; exact hi), h1]
theorem rds_zip {vs ws : List PV} {ds es : List D} (r : Rds Q h vs ds) (r' : Rds Q h ws es) : Rds Q h (zipV vs ws) (zipD ds es) := by
  refine Rds.of (by simp [zipV, zipD, r.len, r'.len]) fun i v e => ?_
  unfold zipV at e
  rw [List.getElem?_zipWith] at e
  cases q : vs[i]? with
  | none => simp [q] at e
  | some x =>
    cases q2 : ws[i]? with
    | none => simp [q, q2] at e
    | some y =>
      simp [q, q2] at e
      subst e
      obtain ⟨d, h1, h2⟩ := r.get q
      obtain ⟨d', h1', h2'⟩ := r'.get q2
      refine ⟨.tup [d, d'], ?_, Rd.tup (.cons h2 (.one h2'))⟩
      unfold zipD
      rw [List.getElem?_zipWith, h1, h1']
theorem it_none {vs : List PV} {ds : List D} (r : Rds Q h vs ds) : RP RIt Q h (.ok vs) (.ok (ds, []) h) := RP.here good_it ⟨r, fun g hg => by simp at hg⟩
theorem it_one {vs : List PV} {ds : List D} {n : Nat} {c : Cell} (r : Rds Q h vs ds) (q : Q n) (e : h[n]? = some c) : RP RIt Q h (.ok vs) (.ok (ds, [(n, c)]) h) := RP.here good_it ⟨r, fun g hg => by
  simp at hg
  subst hg
  exact ⟨q, e⟩⟩
theorem pi_l (ha : PX U a pa) : PII (U ++ []) (fItL a) (pItL pa) := PJ.bind good_it ha fun Q s h σ v d E r => by
  cases v with
  | lst xs =>
    simp only [Rd] at r
    obtain ⟨n, ds, rfl, q, e, r⟩ := r
    simp only [e]
    exact it_one r q e
  | scr ns =>
    simp only [Rd] at r
    subst r
    exact it_none (rds_map (fun _ => by simp only [Rd]) _)
  | _ => exact trivial
theorem pi_t (ha : PX U a pa) : PII (U ++ []) (fItT a) (pItT pa) := PJ.bind good_it ha fun Q s h σ v d E r => by
  cases v with
  | tup xs =>
    simp only [Rd] at r
    obtain ⟨ds, rfl, r⟩ := r
    exact it_none r
  | _ => exact trivial
theorem pi_s (ha : PX U a pa) : PII (U ++ []) (fItS a) (pItS pa) := PJ.bind good_it ha fun Q s h σ v d E r => by
  cases v with
  | str z =>
    simp only [Rd] at r
    subst r
    exact it_none (rds_map (fun _ => by simp only [Rd]) _)
  | _ => exact trivial
theorem pi_r1 (ha : PX U a pa) : PII (U ++ []) (fItR1 a) (pItR1 pa) := PJ.bind good_it ha fun Q s h σ v d E r => by
  cases v with
  | int j =>
    simp only [Rd] at r
    subst r
    dsimp only
    split
    · exact it_none rds_rng
    · exact trivial
  | _ => exact trivial
theorem pi_r2 (ha : PX U a pa) (hb : PX U' b pb) : PII (U ++ U') (fItR2 a b) (pItR2 pa pb) := PJ.bind good_it ha fun Q s h σ v d E r => (hb Q s h σ E).bind good_it fun d' h' v' l r' => by
  cases v with
  | int i =>
    cases v' with
    | int j =>
      simp only [Rd] at r r'
      subst r r'
      dsimp only
      split
      · exact it_none rds_rng
      · exact trivial
    | _ => exact trivial
  | _ => exact trivial
theorem pi_el (ha : PX U a pa) : PII (U ++ []) (fItEL a) (pItEL pa) := PJ.bind good_it ha fun Q s h σ v d E r => by
  cases v with
  | lst xs =>
    simp only [Rd] at r
    obtain ⟨n, ds, rfl, q, e, r⟩ := r
    simp only [e]
    exact it_one (rds_enum r) q e
  | _ => exact trivial
theorem pi_et (ha : PX U a pa) : PII (U ++ []) (fItET a) (pItET pa) := PJ.bind good_it ha fun Q s h σ v d E r => by
  cases v with
  | tup xs =>
    simp only [Rd] at r
    obtain ⟨ds, rfl, r⟩ := r
    exact it_none (rds_enum r)
  | _ => exact trivial
theorem pi_zm (ha : PX U a pa) (hb : PX U' b pb) : PII (U ++ U') (fItZM a b) (pItZM pa pb) := PJ.bind good_it ha fun Q s h σ v d E r => (hb Q s h σ E).bind good_it fun d' h' v' l r' => by
  cases v with
  | lst xs =>
    cases v' with
    | tup ys =>
      simp only [Rd] at r r'
      obtain ⟨n, ds, rfl, q, e, r⟩ := r
      obtain ⟨es, rfl, r'⟩ := r'
      simp only [l.get e]
      exact it_one (rds_zip (good_rds.mo (fun _ q => .inl q) l r) r') (.inl q) (l.get e)
    | _ => exact trivial
  | _ => exact trivial
end
/-! ### comprehensions -/
def wipeP (σ : SP) : List Nat → SP
  | [] => σ
  | v :: vs => (wipeP σ vs).set v none
def pLcL (g : GP) (c : TP) (a : XP) (σ : SP) : List PV → PR (List PV)
  | [] => .ok []
  | v :: vs => match g v σ with
    | some σ1 => (match c σ1 with
      | .ok true => (match a σ1 with
        | .ok y => (match pLcL g c a σ vs with
          | .ok ys => .ok (y :: ys)
          | _ => .bad)
        | _ => .bad)
      | .ok false => pLcL g c a σ vs
      | _ => .bad)
    | none => .bad
def pLc (it : IP) (own : List Nat) (g : GP) (c : TP) (a : XP) : XP := fun σ => (it σ).bind fun xs => if xs.length ≤ BIG then (match pLcL g c a (wipeP σ own) xs with
  | .ok ys => .ok (.lst ys)
  | _ => .bad) else .bad
theorem wipeD_len (s : SD) : ∀ l : List Nat, (wipeD s l).length = s.length
  | [] => rfl
  | v :: l => by simp [wipeD, wipeD_len s l]
theorem wipeP_len (s : SP) : ∀ l : List Nat, (wipeP s l).length = s.length
  | [] => rfl
  | v :: l => by simp [wipeP, wipeP_len s l]
theorem wipeD_get (s : SD) : ∀ (l : List Nat) (j : Nat), j ∉ l → (wipeD s l)[j]? = s[j]?
  | [], j, _ => rfl
  | v :: l, j, h => by
    simp only [List.mem_cons, not_or] at h
    simp only [wipeD]
    rw [List.getElem?_set_ne (fun e => h.1 e.symm), wipeD_get s l j h.2]
theorem wipeP_get (s : SP) : ∀ (l : List Nat) (j : Nat) (v : PV), (wipeP s l)[j]? = some (some v) → j ∉ l ∧ s[j]? = some (some v)
  | [], j, v, h => ⟨by simp, h⟩
  | w :: l, j, v, h => by
    simp only [wipeP] at h
    by_cases e : w = j
    · subst e
      rw [List.getElem?_set_self'] at h
      cases q : (wipeP s l)[w]? <;> simp [q] at h
    · rw [List.getElem?_set_ne e] at h
      obtain ⟨h1, h2⟩ := wipeP_get s l j v h
      exact ⟨by simp [h1]; exact fun z => e z.symm, h2⟩
section
variable {U Ut Ub own : List Nat} {it : EI} {pit : IP} {g : EG} {gp : GP} {c : ET} {pc : TP} {a : EE} {pa : XP}
theorem En.bound {Q : Nat → Prop} {s s1 : SD} {h : HC} {σ σ1 : SP} (E : En (Ub.filter fun i => !own.contains i) Q s h σ) (B : Bnd own Q h (wipeD s own) s1 (wipeP σ own) σ1) : En Ub Q s1 h σ1 := by
  refine ⟨by rw [B.l1, B.l2, wipeD_len, wipeP_len, E.len], fun i v hi hv => ?_⟩
  rcases B.at_ i with ⟨x1, x2⟩ | ⟨_, w, d, x2, x3, x4⟩
  · rw [x1] at hv
    obtain ⟨h1, h2⟩ := wipeP_get σ own i v hv
    rw [x2, wipeD_get s own i h1]
    exact E.sl i v (by simp [hi, h1]) h2
  · rw [x2] at hv
    cases hv
    exact ⟨d, x3, x4⟩
theorem chk_of {Q : Nat → Prop} {h : HC} {G : List (Nat × Cell)} (hG : ∀ g ∈ G, Q g.1 ∧ h[g.1]? = some g.2) : chk G h = true := by
  unfold chk
  rw [List.all_eq_true]
  intro g hg
  exact decide_eq_true (hG g hg).2
theorem lc_ok (hg : GX own g gp) (hc : PTT Ub c pc) (ha : PX Ub a pa) : ∀ (vs : List PV) (ds acc : List D) (vacc ys : List PV) (Q : Nat → Prop) (s : SD) (h : HC) (σ : SP) (G : List (Nat × Cell)),
    En (Ub.filter fun i => !own.contains i) Q s h σ → Rds Q h vs ds → Rds Q h vacc acc → (∀ g ∈ G, Q g.1 ∧ h[g.1]? = some g.2) → acc.length + vs.length ≤ BIG → pLcL gp pc pa (wipeP σ own) vs = .ok ys →
    ∃ ds' h', lcLoop G g c a (wipeD s own) ds acc h = .ok ds' h' ∧ Le h h' ∧ Rds (up Q h.length) h' (vacc ++ ys) ds'
  | [], ds, acc, vacc, ys, Q, s, h, σ, G, E, r, ra, hG, hl, e => by
    simp only [Rds] at r
    subst r
    simp only [pLcL, PR.ok.injEq] at e
    subst e
    refine ⟨acc, h, ?_, Le.refl, ?_⟩
    · simp only [lcLoop, chk_of hG, if_true]
    · rw [List.append_nil]
      exact good_rds.mo (fun _ q => .inl q) Le.refl ra
  | v :: vs, ds, acc, vacc, ys, Q, s, h, σ, G, E, r, ra, hG, hl, e => by
    obtain ⟨d, ds', rfl, r1, r2⟩ := r.uncons
    simp only [List.length_cons] at hl
    simp only [pLcL] at e
    cases q : gp v (wipeP σ own) with
    | none => rw [q] at e; cases e
    | some σ1 =>
      rw [q] at e
      obtain ⟨s1, e1, B⟩ := hg Q h (wipeD s own) (wipeP σ own) σ1 v d (by rw [wipeD_len, wipeP_len, E.len]) r1 q
      have E1 := E.bound B
      have hc' := hc Q s1 h σ1 E1
      dsimp only at e
      cases q2 : pc σ1 with
      | exc x => rw [q2] at e; cases e
      | bad => rw [q2] at e; cases e
      | ok b =>
        rw [q2] at e hc'
        obtain ⟨b', h2, e2, l2, rfl⟩ := hc'
        cases b with
        | false =>
          dsimp only at e
          obtain ⟨ds2, h3, e3, l3, r3⟩ := lc_ok hg hc ha vs ds' acc vacc ys (up Q h.length) s h2 σ G (E.up l2) (good_rds.mo (fun _ q => .inl q) l2 r2) (good_rds.mo (fun _ q => .inl q) l2 ra) (fun g hg => ⟨.inl (hG g hg).1, l2.get (hG g hg).2⟩) (by omega) e
          refine ⟨ds2, h3, ?_, l2.trans l3, good_rds.mo ?_ Le.refl r3⟩
          · simp only [lcLoop, chk_of hG, if_true, e1, e2, e3]
          · rintro n (q | q)
            · exact q
            · exact .inr (Nat.le_trans l2.len q)
        | true =>
          dsimp only at e
          have ha' := ha (up Q h.length) s1 h2 σ1 (E1.up l2)
          cases q3 : pa σ1 with
          | exc x => rw [q3] at e; cases e
          | bad => rw [q3] at e; cases e
          | ok y =>
            rw [q3] at e ha'
            obtain ⟨dy, h3, e3, l3, r3⟩ := ha'
            dsimp only at e
            cases q4 : pLcL gp pc pa (wipeP σ own) vs with
            | exc x => rw [q4] at e; cases e
            | bad => rw [q4] at e; cases e
            | ok ys' =>
              rw [q4] at e
              simp only [PR.ok.injEq] at e
              subst e
              have l23 := l2.trans l3
              have hup : ∀ n, up (up Q h.length) h2.length n → up Q h.length n := by
                rintro n (q | q)
                · exact q
                · exact .inr (Nat.le_trans l2.len q)
              obtain ⟨ds2, h4, e4, l4, r4⟩ := lc_ok hg hc ha vs ds' (acc ++ [dy]) (vacc ++ [y]) ys' (up Q h.length) s h3 σ G (E.up l23) (good_rds.mo (fun _ q => .inl q) l23 r2) ((good_rds.mo (fun _ q => .inl q) l23 ra).append (.one (r3.sub hup))) (fun g hg => ⟨.inl (hG g hg).1, l23.get (hG g hg).2⟩) (by simp; omega) q4
              refine ⟨ds2, h4, ?_, l23.trans l4, ?_⟩
              · simp only [lcLoop, chk_of hG, if_true, e1, e2, e3]
                rw [if_pos (by omega)]
                exact e4
              · rw [List.append_assoc] at r4
                refine good_rds.mo ?_ Le.refl r4
                rintro n (q | q)
                · exact q
                · exact .inr (Nat.le_trans l23.len q)
theorem px_lc (hi : PII U it pit) (hg : GX own g gp) (hc : PTT Ut c pc) (ha : PX Ub a pa) : PX (U ++ ((Ut ++ Ub).filter fun i => !own.contains i)) (fLc it own g c a) (pLc pit own gp pc pa) :=
  PJ.bind good_rd hi fun Q s h σ v d E r => by
    split
    · rename_i hl
      cases q : pLcL gp pc pa (wipeP σ own) v with
      | exc x => exact trivial
      | bad => exact trivial
      | ok ys =>
        have hc' : PTT (Ut ++ Ub) c pc := fun Q s h σ E => hc Q s h σ E.l
        have ha' : PX (Ut ++ Ub) a pa := fun Q s h σ E => ha Q s h σ E.r
        obtain ⟨ds', h', e, l, r'⟩ := lc_ok hg hc' ha' v d.1 [] [] ys Q s h σ d.2 E r.1 Rds.nil r.2 (by simpa using hl) q
        rw [e]
        refine ⟨.ref h'.length, h' ++ [.lst ds'], rfl, l.trans Le.app, ?_⟩
        simp only [List.nil_append] at r'
        exact Rd.lst (.inr l.len) last_get (r'.le Le.app)
    · exact trivial
end
end G9

set_option Elab.async false
set_option linter.all false
set_option maxRecDepth 100000
set_option maxHeartbeats 2000000
namespace G9
open PySem L2
/-! ### things that are owned: a list, a dict, an instance with its lists -/
def Ow1 (Q : Nat → Prop) (h : HC) : PV → D → List Nat → Prop
  | .lst vs, d, a => ∃ n ds, d = .ref n ∧ a = [n] ∧ h[n]? = some (.lst ds) ∧ Rds Q h vs ds
  | .dk ks vs, d, a => ∃ n kvs, d = .ref n ∧ a = [n] ∧ h[n]? = some (.dk kvs) ∧ kvs.map Prod.fst = ks ∧ Rds Q h vs (kvs.map Prod.snd)
  | .dt ks vs, d, a => ∃ n kvs, d = .ref n ∧ a = [n] ∧ h[n]? = some (.dt kvs) ∧ kvs.map Prod.fst = ks ∧ Rds Q h vs (kvs.map Prod.snd)
  | .ins _ _ _, _, _ => False
  | .non, d, a => a = [] ∧ Rd Q h .non d
  | .bl b, d, a => a = [] ∧ Rd Q h (.bl b) d
  | .int i, d, a => a = [] ∧ Rd Q h (.int i) d
  | .str z, d, a => a = [] ∧ Rd Q h (.str z) d
  | .tup vs, d, a => a = [] ∧ Rd Q h (.tup vs) d
  | .scr ns, d, a => a = [] ∧ Rd Q h (.scr ns) d
def Ows (Q : Nat → Prop) (h : HC) : List PV → List D → List Nat → Prop
  | [], ds, a => ds = [] ∧ a = []
  | v :: vs, ds, a => ∃ d ds' a1 a2, ds = d :: ds' ∧ a = a1 ++ a2 ∧ Ow1 Q h v d a1 ∧ Ows Q h vs ds' a2
def Ow (Q : Nat → Prop) (h : HC) (v : PV) (d : D) (a : List Nat) : Prop := match v with
  | .ins c ks vs => ∃ n kvs a', d = .ref n ∧ a = n :: a' ∧ h[n]? = some (.ins c kvs) ∧ kvs.map Prod.fst = ks ∧ Ows Q h vs (kvs.map Prod.snd) a'
  | v => Ow1 Q h v d a
section
variable {Q Q' : Nat → Prop} {h h' : HC} {v : PV} {d : D} {a : List Nat}
theorem Ow1.mono (hq : ∀ n, Q n → Q' n) (hh : ∀ n c, (Q n ∨ n ∈ a) → h[n]? = some c → h'[n]? = some c) (o : Ow1 Q h v d a) : Ow1 Q' h' v d a := by
  have hm : ∀ v d, Rd Q h v d → Rd Q' h' v d := fun v d r => Rd.mono hq (fun n c q => hh n c (.inl q)) v d r
  have hms : ∀ v d, Rds Q h v d → Rds Q' h' v d := fun v d r => Rds.mono hq (fun n c q => hh n c (.inl q)) v d r
  cases v with
  | lst vs => obtain ⟨n, ds, e1, rfl, e3, r⟩ := o; exact ⟨n, ds, e1, rfl, hh n _ (.inr (by simp)) e3, hms _ _ r⟩
  | dk ks vs => obtain ⟨n, ds, e1, rfl, e3, e4, r⟩ := o; exact ⟨n, ds, e1, rfl, hh n _ (.inr (by simp)) e3, e4, hms _ _ r⟩
  | dt ks vs => obtain ⟨n, ds, e1, rfl, e3, e4, r⟩ := o; exact ⟨n, ds, e1, rfl, hh n _ (.inr (by simp)) e3, e4, hms _ _ r⟩
  | ins c ks vs => exact o.elim
  | _ => exact ⟨o.1, hm _ _ o.2⟩
theorem Ows.mono (hq : ∀ n, Q n → Q' n) : ∀ {vs : List PV} {ds : List D} {a : List Nat}, (∀ n c, (Q n ∨ n ∈ a) → h[n]? = some c → h'[n]? = some c) → Ows Q h vs ds a → Ows Q' h' vs ds a
  | [], ds, a, hh, o => o
  | v :: vs, ds, a, hh, o => by
    obtain ⟨d, ds', a1, a2, e1, rfl, o1, o2⟩ := o
    exact ⟨d, ds', a1, a2, e1, rfl, o1.mono hq fun n c hc => hh n c (hc.imp id (List.mem_append_left _)), Ows.mono hq (fun n c hc => hh n c (hc.imp id (List.mem_append_right _))) o2⟩
theorem Ow.mono (hq : ∀ n, Q n → Q' n) (hh : ∀ n c, (Q n ∨ n ∈ a) → h[n]? = some c → h'[n]? = some c) (o : Ow Q h v d a) : Ow Q' h' v d a := by
  cases v with
  | ins c ks vs =>
    obtain ⟨n, kvs, a', e1, rfl, e3, e4, o⟩ := o
    exact ⟨n, kvs, a', e1, rfl, hh n _ (.inr (by simp)) e3, e4, Ows.mono hq (fun m c hc => hh m c (hc.imp id (List.mem_cons_of_mem _))) o⟩
  | _ => simp only [Ow] at o ⊢; exact Ow1.mono hq hh o
theorem Ow1.rd (o : Ow1 Q h v d a) : Rd (fun n => Q n ∨ n ∈ a) h v d := by
  cases v with
  | lst vs => obtain ⟨n, ds, rfl, rfl, e3, r⟩ := o; exact Rd.lst (.inr (by simp)) e3 (r.sub fun _ q => .inl q)
  | dk ks vs => obtain ⟨n, ds, rfl, rfl, e3, e4, r⟩ := o; simp only [Rd]; exact ⟨n, ds, rfl, .inr (by simp), e3, e4, r.sub fun _ q => .inl q⟩
  | dt ks vs => obtain ⟨n, ds, rfl, rfl, e3, e4, r⟩ := o; simp only [Rd]; exact ⟨n, ds, rfl, .inr (by simp), e3, e4, r.sub fun _ q => .inl q⟩
  | ins c ks vs => exact o.elim
  | _ => exact o.2.sub fun _ q => .inl q
theorem Ows.rds : ∀ {vs : List PV} {ds : List D} {a : List Nat}, Ows Q h vs ds a → Rds (fun n => Q n ∨ n ∈ a) h vs ds
  | [], ds, a, o => by simp only [Rds]; exact o.1
  | v :: vs, ds, a, o => by
    obtain ⟨d, ds', a1, a2, rfl, rfl, o1, o2⟩ := o
    exact .cons (o1.rd.sub fun n hn => hn.imp id (List.mem_append_left _)) ((Ows.rds o2).sub fun n hn => hn.imp id (List.mem_append_right _))
theorem Ow.rd (o : Ow Q h v d a) : Rd (fun n => Q n ∨ n ∈ a) h v d := by
  cases v with
  | ins c ks vs =>
    obtain ⟨n, kvs, a', rfl, rfl, e3, e4, o⟩ := o
    simp only [Rd]
    exact ⟨n, kvs, rfl, .inr (by simp), e3, e4, o.rds.sub fun m hm => hm.imp id (List.mem_cons_of_mem _)⟩
  | _ => simp only [Ow] at o; exact Ow1.rd o
theorem Ow1.low (o : Ow1 Q h v d a) : Ow1 (fun n => Q n ∧ n < h.length) h v d a := by
  cases v with
  | lst vs => obtain ⟨n, ds, e1, e2, e3, r⟩ := o; exact ⟨n, ds, e1, e2, e3, Rds.low _ _ r⟩
  | dk ks vs => obtain ⟨n, ds, e1, e2, e3, e4, r⟩ := o; exact ⟨n, ds, e1, e2, e3, e4, Rds.low _ _ r⟩
  | dt ks vs => obtain ⟨n, ds, e1, e2, e3, e4, r⟩ := o; exact ⟨n, ds, e1, e2, e3, e4, Rds.low _ _ r⟩
  | ins c ks vs => exact o.elim
  | _ => exact ⟨o.1, Rd.low _ _ o.2⟩
theorem Ows.low : ∀ {vs : List PV} {ds : List D} {a : List Nat}, Ows Q h vs ds a → Ows (fun n => Q n ∧ n < h.length) h vs ds a
  | [], ds, a, o => o
  | v :: vs, ds, a, o => by
    obtain ⟨d, ds', a1, a2, e1, e2, o1, o2⟩ := o
    exact ⟨d, ds', a1, a2, e1, e2, o1.low, Ows.low o2⟩
theorem Ow.low (o : Ow Q h v d a) : Ow (fun n => Q n ∧ n < h.length) h v d a := by
  cases v with
  | ins c ks vs =>
    obtain ⟨n, kvs, a', e1, e2, e3, e4, o⟩ := o
    exact ⟨n, kvs, a', e1, e2, e3, e4, o.low⟩
  | _ => simp only [Ow] at o ⊢; exact o.low
theorem Ow.lst_iff {vs : List PV} : Ow Q h (.lst vs) d a ↔ ∃ n ds, d = .ref n ∧ a = [n] ∧ h[n]? = some (.lst ds) ∧ Rds Q h vs ds := Iff.rfl
end

structure Rl (O : List Nat) (io : Bool) (l0 : Nat × D) (A : Nat → List Nat) (Q : Nat → Prop) (s : SD) (h : HC) (σ : SP) : Prop where
  len : s.length = σ.length
  sl : ∀ i v, i ∉ O → σ[i]? = some (some v) → ∃ d, s[i]? = some (some d) ∧ Rd Q h v d
  ow : ∀ i v, i ∈ O → σ[i]? = some (some v) → ∃ d, s[i]? = some (some d) ∧ Ow Q h v d (A i)
  sep : ∀ i n, n ∈ A i → ¬ Q n ∧ n < h.length
  low : ∀ n, Q n → n < h.length
  dis : ∀ i j n, n ∈ A i → n ∈ A j → i = j
  nd : ∀ i, (A i).Nodup
  loc : ∀ i n, n ∈ A i → l0.1 ≤ n ∨ (io = true ∧ i = 0)
  zero : io = true → 0 ∈ O
  fix : io = true → s[0]? = some (some l0.2)
  l0 : l0.1 ≤ h.length
structure Fr (W : List Nat) (A A' : Nat → List Nat) (Q Q' : Nat → Prop) (h h' : HC) : Prop where
  le : h.length ≤ h'.length
  kp : ∀ n, n < h.length → (∀ j ∈ W, n ∉ A j) → h'[n]? = h[n]?
  same : ∀ j, j ∉ W → A' j = A j
  grow : ∀ j n, n ∈ A' j → n ∈ A j ∨ h.length ≤ n
  qq : ∀ n, Q n → Q' n
  qn : ∀ n, Q' n → Q n ∨ h.length ≤ n
def upto (Q : Nat → Prop) (l l' : Nat) : Nat → Prop := fun n => Q n ∨ (l ≤ n ∧ n < l')
section
variable {O W U : List Nat} {io : Bool} {l0 : Nat × D} {A A' A'' : Nat → List Nat} {Q Q' Q'' : Nat → Prop} {s s' : SD} {h h' h'' : HC} {σ σ' : SP}
theorem Fr.refl : Fr W A A Q Q h h := ⟨Nat.le_refl _, fun _ _ _ => rfl, fun _ _ => rfl, fun _ _ h => .inl h, fun _ q => q, fun _ q => .inl q⟩
theorem Fr.trans (a : Fr W A A' Q Q' h h') (b : Fr W A' A'' Q' Q'' h' h'') : Fr W A A'' Q Q'' h h'' := by
  refine ⟨Nat.le_trans a.le b.le, fun n hn hj => ?_, fun j hj => (b.same j hj).trans (a.same j hj), fun j n hn => ?_, fun n q => b.qq n (a.qq n q), fun n q => ?_⟩
  · rw [b.kp n (Nat.lt_of_lt_of_le hn a.le) fun j hj' hn' => ?_, a.kp n hn hj]
    rcases a.grow j n hn' with e | e
    · exact hj j hj' e
    · omega
  · rcases b.grow j n hn with e | e
    · exact a.grow j n e
    · exact .inr (Nat.le_trans a.le e)
  · rcases b.qn n q with e | e
    · exact a.qn n e
    · exact .inr (Nat.le_trans a.le e)
theorem Fr.sub {W' : List Nat} (a : Fr W A A' Q Q' h h') (hw : ∀ j, j ∈ W → j ∈ W') : Fr W' A A' Q Q' h h' :=
  ⟨a.le, fun n hn hj => a.kp n hn fun j hj' => hj j (hw j hj'), fun j hj => a.same j fun z => hj (hw j z), a.grow, a.qq, a.qn⟩
/-- strong things stay -/
theorem Fr.keep (F : Fr W A A' Q Q' h h') (L : Rl O io l0 A Q s h σ) {n : Nat} {c : Cell} (q : Q n) (e : h[n]? = some c) : h'[n]? = some c := by
  rw [F.kp n (L.low n q) fun j _ hn => (L.sep j n hn).1 q, e]
theorem Fr.rd (F : Fr W A A' Q Q' h h') (L : Rl O io l0 A Q s h σ) {v : PV} {d : D} (r : Rd Q h v d) : Rd Q' h' v d := Rd.mono F.qq (fun _ _ q e => F.keep L q e) v d r
theorem Fr.rds (F : Fr W A A' Q Q' h h') (L : Rl O io l0 A Q s h σ) {v : List PV} {d : List D} (r : Rds Q h v d) : Rds Q' h' v d := Rds.mono F.qq (fun _ _ q e => F.keep L q e) v d r
/-- something was laid -/
theorem Rl.step (L : Rl O io l0 A Q s h σ) (l : Le h h') : Rl O io l0 A (upto Q h.length h'.length) s h' σ := by
  have hm : ∀ n c, h[n]? = some c → h'[n]? = some c := fun n c e => l.get e
  refine ⟨L.len, fun i v hi hv => ?_, fun i v hi hv => ?_, fun i n hn => ?_, fun n q => ?_, L.dis, L.nd, L.loc, L.zero, L.fix, Nat.le_trans L.l0 l.len⟩
  · obtain ⟨d, h1, h2⟩ := L.sl i v hi hv
    exact ⟨d, h1, Rd.mono (fun _ q => .inl q) (fun n c _ => hm n c) v d h2⟩
  · obtain ⟨d, h1, h2⟩ := L.ow i v hi hv
    exact ⟨d, h1, h2.mono (fun _ q => .inl q) (fun n c _ => hm n c)⟩
  · refine ⟨?_, Nat.lt_of_lt_of_le (L.sep i n hn).2 l.len⟩
    rintro (q | q)
    · exact (L.sep i n hn).1 q
    · have := (L.sep i n hn).2
      omega
  · rcases q with q | q
    · exact Nat.lt_of_lt_of_le (L.low n q) l.len
    · exact q.2
theorem Fr.step (l : Le h h') : Fr W A A Q (upto Q h.length h'.length) h h' :=
  ⟨l.len, fun n hn _ => by
    obtain ⟨e, rfl⟩ := l
    exact List.getElem?_append_left hn, fun _ _ => rfl, fun _ _ h => .inl h, fun _ q => .inl q, fun n q => q.imp id (·.1)⟩
theorem Rl.raw (L : Rl O io l0 A Q s h σ) : En U (fun _ => True) s h σ := ⟨L.len, fun i v _ hv => by
  by_cases hi : i ∈ O
  · obtain ⟨d, h1, h2⟩ := L.ow i v hi hv
    exact ⟨d, h1, h2.rd.all⟩
  · obtain ⟨d, h1, h2⟩ := L.sl i v hi hv
    exact ⟨d, h1, h2.all⟩⟩
theorem Rl.strong (L : Rl O io l0 A Q s h σ) (hU : (U.all fun i => !O.contains i) = true) : En U Q s h σ := ⟨L.len, fun i v hi hv => by
  have := List.all_eq_true.mp hU i hi
  simp at this
  exact L.sl i v this hv⟩
/-- all but what some statements write -/
theorem Rl.apart (L : Rl O io l0 A Q s h σ) (hU : (U.all fun i => !W.contains i) = true) : En U (fun n => Q n ∨ ∃ j, j ∉ W ∧ n ∈ A j) s h σ := ⟨L.len, fun i v hi hv => by
  have hw := List.all_eq_true.mp hU i hi
  simp at hw
  by_cases ho : i ∈ O
  · obtain ⟨d, h1, h2⟩ := L.ow i v ho hv
    exact ⟨d, h1, h2.rd.sub fun n hn => hn.imp id fun z => ⟨i, hw, z⟩⟩
  · obtain ⟨d, h1, h2⟩ := L.sl i v ho hv
    exact ⟨d, h1, h2.sub fun n hn => .inl hn⟩⟩
/-- what may be handed out at the end -/
def outQ (io : Bool) (l0 : Nat × D) (A : Nat → List Nat) (Q : Nat → Prop) : Nat → Prop := fun n => Q n ∨ (l0.1 ≤ n ∧ (io = true → n ∉ A 0))
theorem Rl.out (L : Rl O io l0 A Q s h σ) (hU : (io && U.contains 0) = false) : En U (outQ io l0 A Q) s h σ := ⟨L.len, fun i v hi hv => by
  by_cases ho : i ∈ O
  · obtain ⟨d, h1, h2⟩ := L.ow i v ho hv
    refine ⟨d, h1, h2.rd.sub fun n hn => hn.imp id fun z => ?_⟩
    have hi0 : ¬ (io = true ∧ i = 0) := by
      rintro ⟨rfl, rfl⟩
      simp at hU
      exact hU hi
    rcases L.loc i n z with e | e
    · refine ⟨e, fun hio hn0 => hi0 ⟨hio, L.dis i 0 n z hn0⟩⟩
    · exact absurd e hi0
  · obtain ⟨d, h1, h2⟩ := L.sl i v ho hv
    exact ⟨d, h1, h2.sub fun n hn => .inl hn⟩⟩
/-- a slot that is not owned is set -/
theorem Rl.set {i : Nat} {v : PV} {d : D} (L : Rl O io l0 A Q s h σ) (hi : i ∉ O) (r : Rd Q h v d) : Rl O io l0 A Q (s.set i (some d)) h (σ.set i (some v)) := by
  refine ⟨by simp [L.len], fun j w hj hw => ?_, fun j w hj hw => ?_, L.sep, L.low, L.dis, L.nd, L.loc, L.zero, fun z => by rw [List.getElem?_set_ne (show i ≠ 0 from fun q => hi (by rw [q]; exact L.zero z))]; exact L.fix z, L.l0⟩
  · by_cases e : i = j
    · subst e
      have hl : i < σ.length := by
        have := (List.getElem?_eq_some_iff.mp hw).1
        simpa using this
      rw [List.getElem?_set_self hl] at hw
      cases hw
      exact ⟨d, by rw [List.getElem?_set_self (by rw [L.len]; exact hl)], r⟩
    · rw [List.getElem?_set_ne e] at hw ⊢
      exact L.sl j w hj hw
  · have e : i ≠ j := fun z => hi (z ▸ hj)
    rw [List.getElem?_set_ne e] at hw ⊢
    exact L.ow j w hj hw
/-- an owned slot is set, to a new thing -/
theorem Rl.setO {i : Nat} {v : PV} {d : D} {a : List Nat} (L : Rl O io l0 A Q s h σ) (hi : i ∈ O) (hio : ¬ (io = true ∧ i = 0)) (o : Ow Q h v d a) (ha : ∀ n ∈ a, ¬ Q n ∧ n < h.length ∧ l0.1 ≤ n ∧ ∀ j, j ≠ i → n ∉ A j) (hn : a.Nodup) :
    Rl O io l0 (fun j => if j = i then a else A j) Q (s.set i (some d)) h (σ.set i (some v)) := by
  refine ⟨by simp [L.len], fun j w hj hw => ?_, fun j w hj hw => ?_, fun j n hn => ?_, L.low, fun j k n h1 h2 => ?_, fun j => ?_, fun j n hn => ?_, L.zero, fun z => by rw [List.getElem?_set_ne (show i ≠ 0 from fun q => hio ⟨z, q⟩)]; exact L.fix z, L.l0⟩
  · have e : i ≠ j := fun z => hj (z ▸ hi)
    rw [List.getElem?_set_ne e] at hw ⊢
    exact L.sl j w hj hw
  · by_cases e : i = j
    · subst e
      have hl : i < σ.length := by
        have := (List.getElem?_eq_some_iff.mp hw).1
        simpa using this
      rw [List.getElem?_set_self hl] at hw
      cases hw
      exact ⟨d, by rw [List.getElem?_set_self (by rw [L.len]; exact hl)], by simpa using o⟩
    · rw [List.getElem?_set_ne e] at hw ⊢
      obtain ⟨d', h1, h2⟩ := L.ow j w hj hw
      exact ⟨d', h1, by simpa [Ne.symm e] using h2⟩
  · by_cases e : j = i
    · simp only [e, if_true] at hn
      exact ⟨(ha n hn).1, (ha n hn).2.1⟩
    · simp only [e, if_false] at hn
      exact L.sep j n hn
  · by_cases e : j = i
    · by_cases e2 : k = i
      · rw [e, e2]
      · simp only [e, if_true] at h1
        simp only [e2, if_false] at h2
        exact absurd h2 ((ha n h1).2.2.2 k e2)
    · simp only [e, if_false] at h1
      by_cases e2 : k = i
      · simp only [e2, if_true] at h2
        exact absurd h1 ((ha n h2).2.2.2 j e)
      · simp only [e2, if_false] at h2
        exact L.dis j k n h1 h2
  · by_cases e : j = i
    · simpa [e] using hn
    · simpa [e] using L.nd j
  · by_cases e : j = i
    · simp only [e, if_true] at hn
      exact .inl (ha n hn).2.2.1
    · simp only [e, if_false] at hn
      exact L.loc j n hn
end

/-! ### statements -/
inductive PS where
  | nx (σ : SP)
  | ret (v : PV) (σ : SP)
  | bk (σ : SP)
  | ct (σ : SP)
  | exc (c : Str) (σ : SP)
  | bad
abbrev ESP := SP → PS
def RSp (O : List Nat) (io : Bool) (W : List Nat) (l0 : Nat × D) (A : Nat → List Nat) (Q : Nat → Prop) (h : HC) : PS → RS → Prop
  | .nx σ', r => ∃ s' h' A' Q', r = .nx s' h' ∧ Rl O io l0 A' Q' s' h' σ' ∧ Fr W A A' Q Q' h h'
  | .bk σ', r => ∃ s' h' A' Q', r = .bk s' h' ∧ Rl O io l0 A' Q' s' h' σ' ∧ Fr W A A' Q Q' h h'
  | .ct σ', r => ∃ s' h' A' Q', r = .ct s' h' ∧ Rl O io l0 A' Q' s' h' σ' ∧ Fr W A A' Q Q' h h'
  | .exc c σ', r => ∃ s' h' A' Q', r = .exc c s' h' ∧ Rl O io l0 A' Q' s' h' σ' ∧ Fr W A A' Q Q' h h'
  | .ret v σ', r => ∃ d s' h' A' Q', r = .ret d h' ∧ Rl O io l0 A' Q' s' h' σ' ∧ Fr W A A' Q Q' h h' ∧ Rd (outQ io l0 A' Q') h' v d
  | .bad, _ => True
def SX (O : List Nat) (io : Bool) (W : List Nat) (f : ES) (p : ESP) : Prop := ∀ (l0 : Nat × D) (A : Nat → List Nat) (Q : Nat → Prop) (s : SD) (h : HC) (σ : SP), Rl O io l0 A Q s h σ → RSp O io W l0 A Q h (p σ) (f s h)
def ofP {α : Type} (σ : SP) (r : PR α) (k : α → PS) : PS := match r with
  | .ok a => k a
  | .exc c => .exc c σ
  | .bad => .bad
def pNx : ESP := fun σ => .nx σ
def pSeq (f g : ESP) : ESP := fun σ => match f σ with
  | .nx σ1 => g σ1
  | r => r
def pExpr (a : XP) : ESP := fun σ => ofP σ (a σ) fun _ => .nx σ
def pRet (a : XP) : ESP := fun σ => ofP σ (a σ) fun v => .ret v σ
def pRetF (a : XP) : ESP := fun σ => ofP σ (a σ) fun v => if isFl v = true then .ret v σ else .bad
def pRetN : ESP := fun σ => .ret .non σ
def pIfS (c : TP) (a b : ESP) : ESP := fun σ => ofP σ (c σ) fun x => if x = true then a σ else b σ
def pSet (i : Nat) (a : XP) : ESP := fun σ => ofP σ (a σ) fun v => .nx (σ.set i (some v))
def pSetF (i : Nat) (a : XP) : ESP := fun σ => ofP σ (a σ) fun v => if isFl v = true then .nx (σ.set i (some v)) else .bad
def pRaise (c : Str) : ESP := fun σ => .exc c σ
def pBadS : ESP := fun _ => .bad
section
variable {O W U : List Nat} {io : Bool} {l0 : Nat × D} {A A' : Nat → List Nat} {Q Q' : Nat → Prop} {s s' : SD} {h h' : HC} {σ σ' : SP} {f g : ES} {pf pg : ESP} {a b : EE} {pa pb : XP}
theorem RSp.weak {r : PS} {x : RS} (F : Fr W A A' Q Q' h h') (R : RSp O io W l0 A' Q' h' r x) : RSp O io W l0 A Q h r x := by
  cases r with
  | bad => exact trivial
  | ret v σ => obtain ⟨d, s1, h1, A1, Q1, e, L1, F1, r1⟩ := R; exact ⟨d, s1, h1, A1, Q1, e, L1, F.trans F1, r1⟩
  | _ => obtain ⟨s1, h1, A1, Q1, e, L1, F1⟩ := R; exact ⟨s1, h1, A1, Q1, e, L1, F.trans F1⟩
theorem SX.sub {W' : List Nat} (x : SX O io W f pf) (hw : (W.all fun i => W'.contains i) = true) : SX O io W' f pf := fun l0 A Q s h σ L => by
  have hs : ∀ j, j ∈ W → j ∈ W' := fun j hj => by
    have := List.all_eq_true.mp hw j hj
    simpa using this
  have R := x l0 A Q s h σ L
  cases q : pf σ with
  | bad => exact trivial
  | ret v σ => rw [q] at R; obtain ⟨d, s1, h1, A1, Q1, e, L1, F1, r1⟩ := R; exact ⟨d, s1, h1, A1, Q1, e, L1, F1.sub hs, r1⟩
  | _ => rw [q] at R; obtain ⟨s1, h1, A1, Q1, e, L1, F1⟩ := R; exact ⟨s1, h1, A1, Q1, e, L1, F1.sub hs⟩
theorem sx_bad : SX O io W f pBadS := fun _ _ _ _ _ _ _ => trivial
theorem sx_nx : SX O io W fNx pNx := fun l0 A Q s h σ L => ⟨s, h, A, Q, rfl, L, Fr.refl⟩
theorem sx_seq (hf : SX O io W f pf) (hg : SX O io W g pg) : SX O io W (fSeq f g) (pSeq pf pg) := fun l0 A Q s h σ L => by
  have R := hf l0 A Q s h σ L
  unfold pSeq fSeq
  cases q : pf σ with
  | nx σ1 =>
    rw [q] at R
    obtain ⟨s1, h1, A1, Q1, e, L1, F1⟩ := R
    rw [e]
    exact (hg l0 A1 Q1 s1 h1 σ1 L1).weak F1
  | bad => exact trivial
  | ret v σ1 => rw [q] at R; obtain ⟨d, s1, h1, A1, Q1, e, R⟩ := R; rw [e]; exact ⟨d, s1, h1, A1, Q1, rfl, R⟩
  | _ => rw [q] at R; obtain ⟨s1, h1, A1, Q1, e, R⟩ := R; rw [e]; exact ⟨s1, h1, A1, Q1, rfl, R⟩
theorem sx_expr (ha : PX U a pa) : SX O io W (fExpr a) (pExpr pa) := fun l0 A Q s h σ L => by
  have R := ha _ s h σ L.raw
  unfold pExpr fExpr ofP ofR
  cases q : pa σ with
  | bad => exact trivial
  | ok v => rw [q] at R; obtain ⟨d, h1, e, l, r⟩ := R; rw [e]; exact ⟨s, h1, A, _, rfl, L.step l, Fr.step l⟩
  | exc c => rw [q] at R; obtain ⟨h1, e, l⟩ := R; rw [e]; exact ⟨s, h1, A, _, rfl, L.step l, Fr.step l⟩
theorem rd_upto {v : PV} {d : D} {l : Nat} (r : Rd (up Q l) h v d) : Rd (upto Q l h.length) h v d := (Rd.low v d r).sub fun n hn => hn.1.imp id fun z => ⟨z, hn.2⟩
theorem sx_set {i : Nat} (ha : PX U a pa) (hU : (U.all fun i => !O.contains i) = true := by decide) (hi : O.contains i = false := by decide) : SX O io W (fSet i a) (pSet i pa) := fun l0 A Q s h σ L => by
  have R := ha _ s h σ (L.strong hU)
  unfold pSet fSet ofP ofR
  cases q : pa σ with
  | bad => exact trivial
  | ok v => rw [q] at R; obtain ⟨d, h1, e, l, r⟩ := R; rw [e]; exact ⟨_, h1, A, _, rfl, (L.step l).set (by simpa using hi) (rd_upto r), Fr.step l⟩
  | exc c => rw [q] at R; obtain ⟨h1, e, l⟩ := R; rw [e]; exact ⟨s, h1, A, _, rfl, L.step l, Fr.step l⟩
theorem sx_setF {i : Nat} (ha : PX U a pa) (hi : O.contains i = false := by decide) : SX O io W (fSet i a) (pSetF i pa) := fun l0 A Q s h σ L => by
  have R := ha _ s h σ L.raw
  unfold pSetF fSet ofP ofR
  cases q : pa σ with
  | bad => exact trivial
  | ok v =>
    rw [q] at R; obtain ⟨d, h1, e, l, r⟩ := R; rw [e]
    dsimp only
    split
    · rename_i hf
      exact ⟨_, h1, A, _, rfl, (L.step l).set (by simpa using hi) (Rd.flat v d hf r), Fr.step l⟩
    · exact trivial
  | exc c => rw [q] at R; obtain ⟨h1, e, l⟩ := R; rw [e]; exact ⟨s, h1, A, _, rfl, L.step l, Fr.step l⟩
theorem sx_retN : SX O io W fRetN pRetN := fun l0 A Q s h σ L => ⟨.non, s, h, A, Q, rfl, L, Fr.refl, by simp only [Rd]⟩
theorem sx_ret (ha : PX U a pa) (hU : (io && U.contains 0) = false := by decide) : SX O io W (fRet a) (pRet pa) := fun l0 A Q s h σ L => by
  have R := ha _ s h σ (L.out hU)
  unfold pRet fRet ofP ofR
  cases q : pa σ with
  | bad => exact trivial
  | ok v =>
    rw [q] at R; obtain ⟨d, h1, e, l, r⟩ := R; rw [e]
    refine ⟨d, s, h1, A, _, rfl, L.step l, Fr.step l, r.sub ?_⟩
    rintro n (q | q)
    · exact q.imp .inl id
    · exact .inr ⟨Nat.le_trans L.l0 q, fun _ hn => by have := (L.sep 0 n hn).2; omega⟩
  | exc c => rw [q] at R; obtain ⟨h1, e, l⟩ := R; rw [e]; exact ⟨s, h1, A, _, rfl, L.step l, Fr.step l⟩
theorem sx_retF (ha : PX U a pa) : SX O io W (fRet a) (pRetF pa) := fun l0 A Q s h σ L => by
  have R := ha _ s h σ L.raw
  unfold pRetF fRet ofP ofR
  cases q : pa σ with
  | bad => exact trivial
  | ok v =>
    rw [q] at R; obtain ⟨d, h1, e, l, r⟩ := R; rw [e]
    dsimp only
    split
    · rename_i hf
      exact ⟨d, s, h1, A, _, rfl, L.step l, Fr.step l, Rd.flat v d hf r⟩
    · exact trivial
  | exc c => rw [q] at R; obtain ⟨h1, e, l⟩ := R; rw [e]; exact ⟨s, h1, A, _, rfl, L.step l, Fr.step l⟩
theorem sx_if {c : ET} {pc : TP} (hc : PTT U c pc) (hf : SX O io W f pf) (hg : SX O io W g pg) : SX O io W (fIfS c f g) (pIfS pc pf pg) := fun l0 A Q s h σ L => by
  have R := hc _ s h σ L.raw
  unfold pIfS fIfS ofP ofR
  cases q : pc σ with
  | bad => exact trivial
  | ok v =>
    rw [q] at R; obtain ⟨d, h1, e, l, r⟩ := R; rw [e]
    obtain rfl : v = d := r
    cases v
    · exact (hg l0 A _ s h1 σ (L.step l)).weak (Fr.step l)
    · exact (hf l0 A _ s h1 σ (L.step l)).weak (Fr.step l)
  | exc c => rw [q] at R; obtain ⟨h1, e, l⟩ := R; rw [e]; exact ⟨s, h1, A, _, rfl, L.step l, Fr.step l⟩
theorem sx_raise {c : Str} : SX O io W (fRaise c) (pRaise c) := fun l0 A Q s h σ L => ⟨s, h, A, Q, rfl, L, Fr.refl⟩
end
end G9

set_option Elab.async false
set_option linter.all false
set_option maxRecDepth 100000
set_option maxHeartbeats 2000000
namespace G9
open PySem L2
/-! ### a def -/
def fnP (k n : Nat) (body : ESP) (vs : List PV) : PR PV := if vs.length = k then (match body (vs.map some ++ List.replicate (n - vs.length) none) with
  | .nx _ => .ok .non
  | .ret v _ => .ok v
  | .exc c _ => .exc c
  | _ => .bad) else .bad
theorem get_start {α : Type} {vs : List α} {n i : Nat} {v : α} (e : (vs.map some ++ List.replicate n none)[i]? = some (some v)) : vs[i]? = some v := by
  by_cases hi : i < vs.length
  · rw [List.getElem?_append_left (by simpa using hi)] at e
    simpa using e
  · rw [List.getElem?_append_right (by simpa using hi), List.getElem?_replicate] at e
    split at e
    · cases e
    · cases e
theorem start_get {α : Type} {vs : List α} {n i : Nat} {v : α} (e : vs[i]? = some v) : (vs.map some ++ List.replicate n none)[i]? = some (some v) := by
  have hi := (List.getElem?_eq_some_iff.mp e).1
  rw [List.getElem?_append_left (by simpa using hi)]
  simpa using e
theorem cx_fn {O W : List Nat} {k n : Nat} {f : ES} {pf : ESP} (hb : SX O false W f pf) (hO : (O.all fun i => decide (k ≤ i)) = true := by decide) : CX (fnRun n f) (fnP k n pf) := fun Q h vs ds r => by
  unfold fnP fnRun
  split
  · rename_i hk
    have L : Rl O false (h.length, .non) (fun _ => []) (fun m => Q m ∧ m < h.length) (ds.map some ++ List.replicate (n - ds.length) none) h (vs.map some ++ List.replicate (n - vs.length) none) := by
      refine ⟨by simp [r.len], fun i v hi hv => ?_, fun i v hi hv => ?_, fun i m hm => by simp at hm, fun m q => q.2, fun i j m hm => by simp at hm, fun i => by simp, fun i m hm => by simp at hm, (fun z => by cases z), (fun z => by cases z), Nat.le_refl _⟩
      · obtain ⟨d, h1, h2⟩ := r.get (get_start hv)
        exact ⟨d, start_get h1, Rd.low v d h2⟩
      · have h1 := (List.getElem?_eq_some_iff.mp (get_start hv)).1
        have h2 := List.all_eq_true.mp hO i hi
        simp at h2
        omega
    have R := hb _ _ _ _ _ _ L
    have hle : ∀ {A' : Nat → List Nat} {Q' : Nat → Prop} {h' : HC}, Fr W (fun _ => []) A' (fun m => Q m ∧ m < h.length) Q' h h' → Le h h' := fun F => Le.of F.le fun m hm => F.kp m hm (by simp)
    cases q : pf (vs.map some ++ List.replicate (n - vs.length) none) with
    | nx σ =>
      rw [q] at R
      obtain ⟨s', h', A', Q', e, L', F⟩ := R
      rw [e]
      exact ⟨_, h', rfl, hle F, by simp only [Rd]⟩
    | ret v σ =>
      rw [q] at R
      obtain ⟨d, s', h', A', Q', e, L', F, r'⟩ := R
      rw [e]
      refine ⟨d, h', rfl, hle F, r'.sub ?_⟩
      rintro m (q | q)
      · exact (F.qn m q).imp (·.1) id
      · exact .inr q.1
    | exc c σ =>
      rw [q] at R
      obtain ⟨s', h', A', Q', e, L', F⟩ := R
      rw [e]
      exact ⟨h', rfl, hle F⟩
    | bk σ => exact trivial
    | ct σ => exact trivial
    | bad => exact trivial
  · exact trivial
/-! ### loops -/
def pForL (g : GP) (body : ESP) : List PV → ESP
  | [], σ => .nx σ
  | v :: vs, σ => match g v σ with
    | some σ1 => (match body σ1 with
      | .nx σ2 => pForL g body vs σ2
      | .ct σ2 => pForL g body vs σ2
      | .bk σ2 => .nx σ2
      | r => r)
    | none => .bad
def pFor (it : IP) (g : GP) (body : ESP) : ESP := fun σ => ofP σ (it σ) fun xs => pForL g body xs σ
def pForF (it : IP) (g : GP) (body : ESP) : ESP := fun σ => ofP σ (it σ) fun xs => if isFls xs = true then pForL g body xs σ else .bad
def pWhile (c : TP) (b : ESP) : Nat → ESP
  | 0 => fun _ => .bad
  | n + 1 => fun σ => ofP σ (c σ) fun x => if x = true then (match b σ with
    | .nx σ2 => pWhile c b n σ2
    | .ct σ2 => pWhile c b n σ2
    | .bk σ2 => .nx σ2
    | r => r) else .nx σ
section
variable {O W U own : List Nat} {io : Bool} {l0 : Nat × D} {A A' : Nat → List Nat} {Q Q' : Nat → Prop} {s s1 : SD} {h h' : HC} {σ σ1 : SP} {f g : ES} {pf pg : ESP} {a b : EE} {pa pb : XP}
theorem Rl.bound (L : Rl O io l0 A Q s h σ) (B : Bnd own Q h s s1 σ σ1) (ho : (own.all fun i => !O.contains i) = true) : Rl O io l0 A Q s1 h σ1 := by
  refine ⟨by rw [B.l1, B.l2, L.len], fun i v hi hv => ?_, fun i v hi hv => ?_, L.sep, L.low, L.dis, L.nd, L.loc, L.zero, fun z => ?_, L.l0⟩
  · rcases B.at_ i with ⟨x1, x2⟩ | ⟨_, w, d, x2, x3, x4⟩
    · rw [x2]; rw [x1] at hv; exact L.sl i v hi hv
    · rw [x2] at hv; cases hv; exact ⟨d, x3, x4⟩
  · rcases B.at_ i with ⟨x1, x2⟩ | ⟨x0, w, d, x2, x3, x4⟩
    · rw [x2]; rw [x1] at hv; exact L.ow i v hi hv
    · have := List.all_eq_true.mp ho i x0
      simp at this
      exact absurd hi this
  · rcases B.at_ 0 with ⟨x1, x2⟩ | ⟨x0, _⟩
    · rw [x2]; exact L.fix z
    · have := List.all_eq_true.mp ho 0 x0
      simp at this
      exact absurd (L.zero z) this
theorem for_ok {g : EG} {gp : GP} (hg : GX own g gp) (hb : SX O io W f pf) (ho : (own.all fun i => !O.contains i) = true) : ∀ (vs : List PV) (ds : List D) (A : Nat → List Nat) (Q : Nat → Prop) (s : SD) (h : HC) (σ : SP) (G : List (Nat × Cell)),
    Rl O io l0 A Q s h σ → Rds Q h vs ds → (∀ g ∈ G, h[g.1]? = some g.2 ∧ ∀ j ∈ W, g.1 ∉ A j) → RSp O io W l0 A Q h (pForL gp pf vs σ) (forLoop G g f ds s h)
  | [], ds, A, Q, s, h, σ, G, L, r, hG => by
    simp only [Rds] at r
    subst r
    have : chk G h = true := by
      unfold chk
      rw [List.all_eq_true]
      exact fun g hg => decide_eq_true (hG g hg).1
    simp only [pForL, forLoop, this, if_true]
    exact ⟨s, h, A, Q, rfl, L, Fr.refl⟩
  | v :: vs, ds, A, Q, s, h, σ, G, L, r, hG => by
    obtain ⟨d, ds', rfl, r1, r2⟩ := r.uncons
    have hc : chk G h = true := by
      unfold chk
      rw [List.all_eq_true]
      exact fun g hg => decide_eq_true (hG g hg).1
    simp only [pForL, forLoop, hc, if_true]
    cases q : gp v σ with
    | none => exact trivial
    | some σ1 =>
      obtain ⟨s1, e1, B⟩ := hg Q h s σ σ1 v d L.len r1 q
      rw [e1]
      have L1 := L.bound B ho
      have R := hb l0 A Q s1 h σ1 L1
      have next : ∀ (σ2 : SP) (s2 : SD) (h2 : HC) (A2 : Nat → List Nat) (Q2 : Nat → Prop), Rl O io l0 A2 Q2 s2 h2 σ2 → Fr W A A2 Q Q2 h h2 → RSp O io W l0 A Q h (pForL gp pf vs σ2) (forLoop G g f ds' s2 h2) := fun σ2 s2 h2 A2 Q2 L2 F2 =>
        (for_ok hg hb ho vs ds' A2 Q2 s2 h2 σ2 G L2 (F2.rds L r2) fun g hg => by
          obtain ⟨e, hj⟩ := hG g hg
          have hlt := (List.getElem?_eq_some_iff.mp e).1
          refine ⟨by rw [F2.kp g.1 hlt hj, e], fun j hj' hn => ?_⟩
          rcases F2.grow j g.1 hn with z | z
          · exact hj j hj' z
          · omega).weak F2
      dsimp only
      cases q2 : pf σ1 with
      | bad => exact trivial
      | nx σ2 => rw [q2] at R; obtain ⟨s2, h2, A2, Q2, e2, L2, F2⟩ := R; rw [e2]; exact next σ2 s2 h2 A2 Q2 L2 F2
      | ct σ2 => rw [q2] at R; obtain ⟨s2, h2, A2, Q2, e2, L2, F2⟩ := R; rw [e2]; exact next σ2 s2 h2 A2 Q2 L2 F2
      | bk σ2 => rw [q2] at R; obtain ⟨s2, h2, A2, Q2, e2, L2, F2⟩ := R; rw [e2]; exact ⟨s2, h2, A2, Q2, rfl, L2, F2⟩
      | exc c σ2 => rw [q2] at R; obtain ⟨s2, h2, A2, Q2, e2, L2, F2⟩ := R; rw [e2]; exact ⟨s2, h2, A2, Q2, rfl, L2, F2⟩
      | ret v σ2 => rw [q2] at R; obtain ⟨d2, s2, h2, A2, Q2, e2, L2, F2⟩ := R; rw [e2]; exact ⟨d2, s2, h2, A2, Q2, rfl, L2, F2⟩
theorem rds_upto {v : List PV} {d : List D} {l : Nat} (r : Rds (up Q l) h v d) : Rds (upto Q l h.length) h v d := (Rds.low v d r).sub fun n hn => hn.1.imp id fun z => ⟨z, hn.2⟩
theorem sx_for {it : EI} {pit : IP} {g : EG} {gp : GP} (hi : PII U it pit) (hg : GX own g gp) (hb : SX O io W f pf) (hU : (U.all fun i => !O.contains i) = true := by decide) (ho : (own.all fun i => !O.contains i) = true := by decide) : SX O io W (fFor it g f) (pFor pit gp pf) := fun l0 A Q s h σ L => by
  have R := hi _ s h σ (L.strong hU)
  unfold pFor fFor ofP ofR
  cases q : pit σ with
  | bad => exact trivial
  | exc c => rw [q] at R; obtain ⟨h1, e, l⟩ := R; rw [e]; exact ⟨s, h1, A, _, rfl, L.step l, Fr.step l⟩
  | ok vs =>
    rw [q] at R; obtain ⟨d, h1, e, l, r⟩ := R; rw [e]
    refine (for_ok hg hb ho vs d.1 A _ s h1 σ d.2 (L.step l) (rds_upto r.1) fun g hg => ⟨(r.2 g hg).2, fun j _ hn => ?_⟩).weak (Fr.step l)
    rcases (r.2 g hg).1 with z | z
    · exact (L.sep j _ hn).1 z
    · have := (L.sep j _ hn).2
      omega
theorem sx_forF {it : EI} {pit : IP} {g : EG} {gp : GP} (hi : PII U it pit) (hg : GX own g gp) (hb : SX O io W f pf) (hU : (U.all fun i => !W.contains i) = true := by decide) (ho : (own.all fun i => !O.contains i) = true := by decide) : SX O io W (fFor it g f) (pForF pit gp pf) := fun l0 A Q s h σ L => by
  have R := hi _ s h σ (L.apart hU)
  unfold pForF fFor ofP ofR
  cases q : pit σ with
  | bad => exact trivial
  | exc c => rw [q] at R; obtain ⟨h1, e, l⟩ := R; rw [e]; exact ⟨s, h1, A, _, rfl, L.step l, Fr.step l⟩
  | ok vs =>
    rw [q] at R; obtain ⟨d, h1, e, l, r⟩ := R; rw [e]
    dsimp only
    split
    · rename_i hfl
      refine (for_ok hg hb ho vs d.1 A _ s h1 σ d.2 (L.step l) (Rds.flat vs d.1 hfl r.1) fun g hg => ⟨(r.2 g hg).2, fun j hj hn => ?_⟩).weak (Fr.step l)
      rcases (r.2 g hg).1 with (z | ⟨k, hk, z⟩) | z
      · exact (L.sep j _ hn).1 z
      · exact hk (L.dis j k _ hn z ▸ hj)
      · have := (L.sep j _ hn).2
        omega
    · exact trivial
theorem sx_while {c : ET} {pc : TP} (hc : PTT U c pc) (hb : SX O io W f pf) : ∀ n : Nat, SX O io W (fWhile c f n) (pWhile pc pf n)
  | 0 => fun _ _ _ _ _ _ _ => trivial
  | n + 1 => fun l0 A Q s h σ L => by
    have R := hc _ s h σ L.raw
    unfold pWhile fWhile
    unfold ofP ofR
    cases q : pc σ with
    | bad => exact trivial
    | exc c => rw [q] at R; obtain ⟨h1, e, l⟩ := R; rw [e]; exact ⟨s, h1, A, _, rfl, L.step l, Fr.step l⟩
    | ok v =>
      rw [q] at R; obtain ⟨d, h1, e, l, r⟩ := R; rw [e]
      obtain rfl : v = d := r
      cases v
      · exact ⟨s, h1, A, _, rfl, L.step l, Fr.step l⟩
      · dsimp only
        rw [if_pos rfl, if_pos rfl]
        refine RSp.weak (Fr.step l) ?_
        have R := hb l0 A _ s h1 σ (L.step l)
        cases q2 : pf σ with
        | bad => exact trivial
        | nx σ2 => rw [q2] at R; obtain ⟨s2, h2, A2, Q2, e2, L2, F2⟩ := R; rw [e2]; exact (sx_while hc hb n l0 A2 Q2 s2 h2 σ2 L2).weak F2
        | ct σ2 => rw [q2] at R; obtain ⟨s2, h2, A2, Q2, e2, L2, F2⟩ := R; rw [e2]; exact (sx_while hc hb n l0 A2 Q2 s2 h2 σ2 L2).weak F2
        | bk σ2 => rw [q2] at R; obtain ⟨s2, h2, A2, Q2, e2, L2, F2⟩ := R; rw [e2]; exact ⟨s2, h2, A2, Q2, rfl, L2, F2⟩
        | exc c σ2 => rw [q2] at R; obtain ⟨s2, h2, A2, Q2, e2, L2, F2⟩ := R; rw [e2]; exact ⟨s2, h2, A2, Q2, rfl, L2, F2⟩
        | ret v σ2 => rw [q2] at R; obtain ⟨d2, s2, h2, A2, Q2, e2, L2, F2⟩ := R; rw [e2]; exact ⟨d2, s2, h2, A2, Q2, rfl, L2, F2⟩
/-! ### try -/
def handleP (T : Tab) (c : Str) : List (Str × ESP) → ESP
  | [], σ => .exc c σ
  | (y, f) :: r, σ => match T c y with
    | some true => f σ
    | some false => handleP T c r σ
    | none => .bad
def pTry (T : Tab) (f : ESP) (hs : List (Str × ESP)) : ESP := fun σ => match f σ with
  | .exc c σ1 => handleP T c hs σ1
  | r => r
inductive SHs (O : List Nat) (io : Bool) (W : List Nat) : List (Str × ES) → List (Str × ESP) → Prop
  | nil : SHs O io W [] []
  | cons {y : Str} {f : ES} {pf : ESP} {r : List (Str × ES)} {pr : List (Str × ESP)} : SX O io W f pf → SHs O io W r pr → SHs O io W ((y, f) :: r) ((y, pf) :: pr)
theorem handleP_ok {T : Tab} {c : Str} : ∀ {hs : List (Str × ES)} {ps : List (Str × ESP)}, SHs O io W hs ps → SX O io W (handle T c hs) (handleP T c ps)
  | _, _, .nil => fun l0 A Q s h σ L => ⟨s, h, A, Q, rfl, L, Fr.refl⟩
  | _, _, .cons (y := y) hf hr => fun l0 A Q s h σ L => by
    unfold handle handleP
    cases T c y with
    | none => exact trivial
    | some b =>
      cases b
      · exact handleP_ok hr l0 A Q s h σ L
      · exact hf l0 A Q s h σ L
theorem sx_try {T : Tab} {hs : List (Str × ES)} {ps : List (Str × ESP)} (hf : SX O io W f pf) (hh : SHs O io W hs ps) : SX O io W (fTry T f hs) (pTry T pf ps) := fun l0 A Q s h σ L => by
  have R := hf l0 A Q s h σ L
  unfold fTry pTry
  cases q : pf σ with
  | bad => exact trivial
  | exc c σ2 => rw [q] at R; obtain ⟨s2, h2, A2, Q2, e2, L2, F2⟩ := R; rw [e2]; exact (handleP_ok hh l0 A2 Q2 s2 h2 σ2 L2).weak F2
  | nx σ2 => rw [q] at R; obtain ⟨s2, h2, A2, Q2, e2, L2, F2⟩ := R; rw [e2]; exact ⟨s2, h2, A2, Q2, rfl, L2, F2⟩
  | ct σ2 => rw [q] at R; obtain ⟨s2, h2, A2, Q2, e2, L2, F2⟩ := R; rw [e2]; exact ⟨s2, h2, A2, Q2, rfl, L2, F2⟩
  | bk σ2 => rw [q] at R; obtain ⟨s2, h2, A2, Q2, e2, L2, F2⟩ := R; rw [e2]; exact ⟨s2, h2, A2, Q2, rfl, L2, F2⟩
  | ret v σ2 => rw [q] at R; obtain ⟨d2, s2, h2, A2, Q2, e2, L2, F2⟩ := R; rw [e2]; exact ⟨d2, s2, h2, A2, Q2, rfl, L2, F2⟩
/-! ### more assignments -/
def pAsg (g : GP) (a : XP) : ESP := fun σ => ofP σ (a σ) fun v => match g v σ with
  | some σ1 => .nx σ1
  | none => .bad
def pAsgF (g : GP) (a : XP) : ESP := fun σ => ofP σ (a σ) fun v => if isFl v = true then (match g v σ with
  | some σ1 => .nx σ1
  | none => .bad) else .bad
def pAugI (f : Int → Int → Int) (i : Nat) (a : XP) : ESP := fun σ => match σ[i]? with
  | some (some (.int x)) => ofP σ (a σ) fun v => (match v with
    | .int y => .nx (σ.set i (some (.int (f x y))))
    | _ => .bad)
  | _ => .bad
def pPar (i j : Nat) (as : AP) : ESP := fun σ => ofP σ (as σ) fun xs => match xs with
  | [a, b] => .nx ((σ.set i (some a)).set j (some b))
  | _ => .bad
def pParF (i j : Nat) (as : AP) : ESP := fun σ => ofP σ (as σ) fun xs => if isFls xs = true then (match xs with
  | [a, b] => .nx ((σ.set i (some a)).set j (some b))
  | _ => .bad) else .bad
theorem sx_asg {g : EG} {gp : GP} (ha : PX U a pa) (hg : GX own g gp) (hU : (U.all fun i => !O.contains i) = true := by decide) (ho : (own.all fun i => !O.contains i) = true := by decide) : SX O io W (fAsg g a) (pAsg gp pa) := fun l0 A Q s h σ L => by
  have R := ha _ s h σ (L.strong hU)
  unfold pAsg fAsg ofP ofR
  cases q : pa σ with
  | bad => exact trivial
  | ok v =>
    rw [q] at R; obtain ⟨d, h1, e, l, r⟩ := R; rw [e]
    dsimp only
    cases q2 : gp v σ with
    | none => exact trivial
    | some σ1 =>
      obtain ⟨s1, e1, B⟩ := hg _ h1 s σ σ1 v d L.len (rd_upto r) q2
      rw [e1]
      exact ⟨_, h1, A, _, rfl, (L.step l).bound B ho, Fr.step l⟩
  | exc c => rw [q] at R; obtain ⟨h1, e, l⟩ := R; rw [e]; exact ⟨s, h1, A, _, rfl, L.step l, Fr.step l⟩
theorem sx_asgF {g : EG} {gp : GP} (ha : PX U a pa) (hg : GX own g gp) (ho : (own.all fun i => !O.contains i) = true := by decide) : SX O io W (fAsg g a) (pAsgF gp pa) := fun l0 A Q s h σ L => by
  have R := ha _ s h σ L.raw
  unfold pAsgF fAsg ofP ofR
  cases q : pa σ with
  | bad => exact trivial
  | ok v =>
    rw [q] at R; obtain ⟨d, h1, e, l, r⟩ := R; rw [e]
    dsimp only
    split
    · rename_i hfl
      cases q2 : gp v σ with
      | none => exact trivial
      | some σ1 =>
        obtain ⟨s1, e1, B⟩ := hg (upto Q h.length h1.length) h1 s σ σ1 v d L.len (Rd.flat v d hfl r) q2
        rw [e1]
        exact ⟨_, h1, A, _, rfl, (L.step l).bound B ho, Fr.step l⟩
    · exact trivial
  | exc c => rw [q] at R; obtain ⟨h1, e, l⟩ := R; rw [e]; exact ⟨s, h1, A, _, rfl, L.step l, Fr.step l⟩
theorem sx_aug {i : Nat} {op : Int → Int → Int} (ha : PX U a pa) (hi : O.contains i = false := by decide) : SX O io W (fAugI op i a) (pAugI op i pa) := fun l0 A Q s h σ L => by
  have R := ha _ s h σ L.raw
  unfold pAugI fAugI
  cases q0 : σ[i]? with
  | none => exact trivial
  | some o =>
    cases o with
    | none => exact trivial
    | some w =>
      cases w with
      | int x =>
        obtain ⟨d0, e0, r0⟩ := L.sl i _ (by simpa using hi) q0
        simp only [Rd] at r0
        subst r0
        rw [e0]
        dsimp only
        unfold ofP ofR
        cases q : pa σ with
        | bad => exact trivial
        | ok v =>
          rw [q] at R; obtain ⟨d, h1, e, l, r⟩ := R; rw [e]
          cases v with
          | int y =>
            simp only [Rd] at r
            subst r
            exact ⟨_, h1, A, _, rfl, (L.step l).set (by simpa using hi) (by simp only [Rd]), Fr.step l⟩
          | _ => exact trivial
        | exc c => rw [q] at R; obtain ⟨h1, e, l⟩ := R; rw [e]; exact ⟨s, h1, A, _, rfl, L.step l, Fr.step l⟩
      | _ => exact trivial
theorem par_two {vs : List PV} {ds : List D} (r : Rds Q h vs ds) : ∀ {a b : PV}, vs = [a, b] → ∃ x y, ds = [x, y] ∧ Rd Q h a x ∧ Rd Q h b y := by
  rintro a b rfl
  obtain ⟨d, ds', rfl, r1, r2⟩ := r.uncons
  obtain ⟨d2, ds2, rfl, r3, r4⟩ := r2.uncons
  simp only [Rds] at r4; subst r4
  exact ⟨d, d2, rfl, r1, r3⟩
theorem sx_par {i j : Nat} {as : EA} {pas : AP} (ha : PAA U as pas) (hU : (U.all fun i => !O.contains i) = true := by decide) (hi : O.contains i = false := by decide) (hj : O.contains j = false := by decide) : SX O io W (fPar i j as) (pPar i j pas) := fun l0 A Q s h σ L => by
  have R := ha _ s h σ (L.strong hU)
  unfold pPar fPar ofP ofR
  cases q : pas σ with
  | bad => exact trivial
  | ok v =>
    rw [q] at R; obtain ⟨d, h1, e, l, r⟩ := R; rw [e]
    dsimp only
    split
    · obtain ⟨x, y, rfl, r1, r2⟩ := par_two (rds_upto r) rfl
      exact ⟨_, h1, A, _, rfl, ((L.step l).set (by simpa using hi) r1).set (by simpa using hj) r2, Fr.step l⟩
    · exact trivial
  | exc c => rw [q] at R; obtain ⟨h1, e, l⟩ := R; rw [e]; exact ⟨s, h1, A, _, rfl, L.step l, Fr.step l⟩
theorem sx_parF {i j : Nat} {as : EA} {pas : AP} (ha : PAA U as pas) (hi : O.contains i = false := by decide) (hj : O.contains j = false := by decide) : SX O io W (fPar i j as) (pParF i j pas) := fun l0 A Q s h σ L => by
  have R := ha _ s h σ L.raw
  unfold pParF fPar ofP ofR
  cases q : pas σ with
  | bad => exact trivial
  | ok v =>
    rw [q] at R; obtain ⟨d, h1, e, l, r⟩ := R; rw [e]
    dsimp only
    split
    · rename_i hfl
      split
      · obtain ⟨x, y, rfl, r1, r2⟩ := par_two (Rds.flat (Q' := upto Q h.length h1.length) (h' := h1) _ _ hfl r) rfl
        exact ⟨_, h1, A, _, rfl, ((L.step l).set (by simpa using hi) r1).set (by simpa using hj) r2, Fr.step l⟩
      · exact trivial
    · exact trivial
  | exc c => rw [q] at R; obtain ⟨h1, e, l⟩ := R; rw [e]; exact ⟨s, h1, A, _, rfl, L.step l, Fr.step l⟩
end
end G9

set_option Elab.async false
set_option linter.all false
set_option maxRecDepth 100000
set_option maxHeartbeats 2000000
namespace G9
open PySem L2
/-! ### lists that are new -/
def RPN (Q : Nat → Prop) (h : HC) : PR PV → Res D → Prop
  | .ok (.lst vs), x => ∃ n ds h', x = .ok (.ref n) h' ∧ Le h h' ∧ h.length ≤ n ∧ h'[n]? = some (.lst ds) ∧ Rds (fun m => up Q h.length m ∧ m ≠ n) h' vs ds
  | .ok _, _ => True
  | .exc c, x => ∃ h', x = .exc c h' ∧ Le h h'
  | .bad, _ => True
def PXN (U : List Nat) (f : EE) (p : XP) : Prop := ∀ (Q : Nat → Prop) (s : SD) (h : HC) (σ : SP), En U Q s h σ → RPN Q h (p σ) (f s h)
section
variable {Q : Nat → Prop} {h h1 : HC} {U U' U'' : List Nat} {a b : EE} {pa pb : XP} {as : EA} {pas : AP}
theorem newL_rpn {vs : List PV} {ds : List D} (r : Rds Q h vs ds) : RPN Q h (newLV vs) (newL ds h) := by
  unfold newLV newL
  rw [r.len]
  split
  · refine ⟨h.length, ds, _, rfl, Le.app, Nat.le_refl _, last_get, ?_⟩
    exact ((Rds.low vs ds r).le Le.app).sub fun n hn => ⟨.inl hn.1, by omega⟩
  · exact trivial
theorem RPN.weak {Q1 : Nat → Prop} {r : PR PV} {x : Res D} (l : Le h h1) (hq : ∀ n, Q1 n → up Q h.length n) (a : RPN Q1 h1 r x) : RPN Q h r x := by
  cases r with
  | ok v =>
    cases v with
    | lst vs =>
      obtain ⟨n, ds, h2, e, l2, hn, e2, r2⟩ := a
      refine ⟨n, ds, h2, e, l.trans l2, Nat.le_trans l.len hn, e2, r2.sub fun m hm => ⟨?_, hm.2⟩⟩
      rcases hm.1 with q | q
      · exact hq m q
      · exact .inr (Nat.le_trans l.len q)
    | _ => exact trivial
  | exc c =>
    obtain ⟨h2, e, l2⟩ := a
    exact ⟨h2, e, l.trans l2⟩
  | bad => exact trivial
theorem RP.bindN {α β : Type} {R : Rl2 α β} {ra : PR β} {r : Res α} {kp : β → PR PV} {k : α → HC → Res D} (ha : RP R Q h ra r)
    (hk : ∀ d h' v, Le h h' → R (up Q h.length) h' v d → RPN (up Q h.length) h' (kp v) (k d h')) : RPN Q h (ra.bind kp) (r.bind k) := by
  cases ra with
  | ok v =>
    obtain ⟨d, h', rfl, l, q⟩ := ha
    exact (hk d h' v l q).weak l (fun _ q => q)
  | exc c =>
    obtain ⟨h', rfl, l⟩ := ha
    exact ⟨h', rfl, l⟩
  | bad => exact trivial
def OXN (op : D → D → HC → Res D) (pop : PV → PV → PR PV) : Prop := ∀ (Q : Nat → Prop) (h : HC) (v1 v2 : PV) (d1 d2 : D), Rd Q h v1 d1 → Rd Q h v2 d2 → RPN Q h (pop v1 v2) (op d1 d2 h)
def CXN (f : List D → HC → Res D) (pf : List PV → PR PV) : Prop := ∀ (Q : Nat → Prop) (h : HC) (vs : List PV) (ds : List D), Rds Q h vs ds → RPN Q h (pf vs) (f ds h)
theorem oxn_add : OXN opAdd pAdd := fun Q h v1 v2 d1 d2 r1 r2 => by
  unfold pAdd
  split
  · exact trivial
  · split <;> exact trivial
  · unfold mkTV; split <;> exact trivial
  · simp only [Rd] at r1 r2
    obtain ⟨n, ds, rfl, _, e1, r1⟩ := r1
    obtain ⟨k, es, rfl, _, e2, r2⟩ := r2
    simp only [opAdd, e1, e2]
    exact newL_rpn (r1.append r2)
  · exact trivial
theorem oxn_mul : OXN opMul pMul := fun Q h v1 v2 d1 d2 r1 r2 => by
  unfold pMul
  split
  · split <;> exact trivial
  · simp only [Rd] at r1 r2
    obtain ⟨n, ds, rfl, _, e1, r1⟩ := r1
    subst r2
    simp only [opMul, e1]
    split
    · exact newL_rpn (r1.rep _)
    · exact trivial
  · split <;> exact trivial
  · exact trivial
theorem cxn_list : CXN bList pList := fun Q h vs ds r => by
  unfold pList
  split
  · obtain ⟨es, rfl, r'⟩ := one_tup r
    exact newL_rpn r'
  · obtain ⟨n, es, rfl, _, e, r⟩ := one_lst r
    simp only [bList, asSeq, e]
    exact newL_rpn r
  · exact trivial
theorem pxn_op {op : D → D → HC → Res D} {pop : PV → PV → PR PV} (ho : OXN op pop) (ha : PX U a pa) (hb : PX U' b pb) : PXN (U ++ U') (fOp op a b) (pOp pop pa pb) := fun Q s h σ E =>
  (ha Q s h σ E.l).bindN fun d h' v l r => (hb _ s h' σ (E.r.up l)).bindN fun d' h2 v' l2 r' => ho _ h2 v v' d d' (good_rd.mo (fun _ q => .inl q) l2 r) r'
theorem pxn_lst (ha : PAA U as pas) : PXN U (fLst as) (pLst pas) := fun Q s h σ E => (ha Q s h σ E).bindN fun d h' v l r => newL_rpn r
theorem pxn_cl {f : List D → HC → Res D} {pf : List PV → PR PV} (hf : CXN f pf) (ha : PAA U as pas) : PXN U (fCl f as) (pCl pf pas) := fun Q s h σ E => (ha Q s h σ E).bindN fun d h' v l r => hf _ h' v d r
theorem pxn_call {n : Nat} {f : List D → HC → Res D} {pf : List PV → PR PV} (hf : CXN f pf) (ha : PAA U as pas) : PXN U (fCall n f as) (pCall n pf pas) := fun Q s h σ E => (ha Q s h σ E).bindN fun d h' v l r => by
  rw [r.len]
  split
  · exact hf _ h' v d r
  · exact trivial
theorem pxn_sl {lo hi : EO} {plo phi : OP} (ha : PX U a pa) (hl : POO U' lo plo) (hh : POO U'' hi phi) : PXN (U ++ (U' ++ U'')) (fSl a lo hi) (pSl pa plo phi) := fun Q s h σ E =>
  (ha Q s h σ E.l).bindN fun d h1 v l1 r => (hl _ s h1 σ (E.r.l.up l1)).bindN fun l h2 l' le r1 => (hh _ s h2 σ ((E.r.r.up l1).up le)).bindN fun u h3 u' le2 r2 => by
    obtain rfl : l' = l := r1
    obtain rfl : u' = u := r2
    have r := good_rd.mo (Q' := up (up (up Q h.length) h1.length) h2.length) (fun _ q => .inl (.inl q)) (le.trans le2) r
    unfold pSlV
    split
    · unfold mkTV; split <;> exact trivial
    · simp only [Rd] at r
      obtain ⟨n, ds, rfl, _, e, r⟩ := r
      simp only [opSl, asSeq, e]
      exact newL_rpn (cut_rds r)
    · split <;> exact trivial
    · exact trivial
theorem pxn_lc {Ut Ub own : List Nat} {it : EI} {pit : IP} {g : EG} {gp : GP} {c : ET} {pc : TP} (hi : PII U it pit) (hg : GX own g gp) (hc : PTT Ut c pc) (ha : PX Ub a pa) : PXN (U ++ ((Ut ++ Ub).filter fun i => !own.contains i)) (fLc it own g c a) (pLc pit own gp pc pa) := fun Q s h σ E =>
  (hi Q s h σ E.l).bindN fun d h1 v l1 r => by
    have E1 := E.r.up l1
    split
    · rename_i hl
      cases q : pLcL gp pc pa (wipeP σ own) v with
      | exc x => exact trivial
      | bad => exact trivial
      | ok ys =>
        have hc' : PTT (Ut ++ Ub) c pc := fun Q s h σ E => hc Q s h σ E.l
        have ha' : PX (Ut ++ Ub) a pa := fun Q s h σ E => ha Q s h σ E.r
        obtain ⟨ds', h', e, l, r'⟩ := lc_ok hg hc' ha' v d.1 [] [] ys _ s h1 σ d.2 E1 r.1 Rds.nil r.2 (by simpa using hl) q
        rw [e]
        refine ⟨h'.length, ds', h' ++ [.lst ds'], rfl, l.trans Le.app, l.len, last_get, ?_⟩
        simp only [List.nil_append] at r'
        exact ((Rds.low _ _ r').le Le.app).sub fun n hn => ⟨hn.1, by omega⟩
    · exact trivial
end
/-! ### owned lists -/
def pSetO (i : Nat) (a : XP) : ESP := fun σ => ofP σ (a σ) fun v => match v with
  | .lst vs => .nx (σ.set i (some (.lst vs)))
  | _ => .bad
def pSetOF (i : Nat) (a : XP) : ESP := fun σ => ofP σ (a σ) fun v => match v with
  | .lst vs => if isFls vs = true then .nx (σ.set i (some (.lst vs))) else .bad
  | _ => .bad
def pApp (i : Nat) (a : XP) : ESP := fun σ => match σ[i]? with
  | some (some (.lst vs)) => ofP σ (a σ) fun v => if vs.length < BIG then .nx (σ.set i (some (.lst (vs ++ [v])))) else .bad
  | _ => .bad
def pAppF (i : Nat) (a : XP) : ESP := fun σ => match σ[i]? with
  | some (some (.lst vs)) => ofP σ (a σ) fun v => if isFl v = true ∧ vs.length < BIG then .nx (σ.set i (some (.lst (vs ++ [v])))) else .bad
  | _ => .bad
def pExtF (i : Nat) (a : XP) : ESP := fun σ => match σ[i]? with
  | some (some (.lst vs)) => ofP σ (a σ) fun v => (match v with
    | .lst ws => if isFls ws = true ∧ vs.length + ws.length ≤ BIG then .nx (σ.set i (some (.lst (vs ++ ws)))) else .bad
    | _ => .bad)
  | _ => .bad
section
variable {O W U own : List Nat} {io : Bool} {l0 : Nat × D} {A A' : Nat → List Nat} {Q Q' : Nat → Prop} {s s1 : SD} {h h' : HC} {σ σ1 : SP} {f g : ES} {pf pg : ESP} {a b : EE} {pa pb : XP}
/-- a new list for an owned slot -/
theorem Rl.newO {i n : Nat} {vs : List PV} {ds : List D} (L : Rl O io l0 A Q s h σ) (l : Le h h') (hi : i ∈ O) (hio : ¬ (io = true ∧ i = 0)) (hn : h.length ≤ n) (e : h'[n]? = some (.lst ds)) (r : Rds (fun m => up Q h.length m ∧ m ≠ n) h' vs ds) (hW : i ∈ W) :
    Rl O io l0 (fun j => if j = i then [n] else A j) (fun m => upto Q h.length h'.length m ∧ m ≠ n) (s.set i (some (.ref n))) h' (σ.set i (some (.lst vs))) ∧ Fr W A (fun j => if j = i then [n] else A j) Q (fun m => upto Q h.length h'.length m ∧ m ≠ n) h h' := by
  have hlt := (List.getElem?_eq_some_iff.mp e).1
  have L1 := L.step l
  have hQ : ∀ m, Q m → m ≠ n := fun m q z => by have := L.low m q; omega
  have L2 : Rl O io l0 A (fun m => upto Q h.length h'.length m ∧ m ≠ n) s h' σ := by
    refine ⟨L.len, fun j w hj hw => ?_, fun j w hj hw => ?_, fun j m hm => ?_, fun m q => L1.low m q.1, L.dis, L.nd, L.loc, L.zero, L.fix, L1.l0⟩
    · obtain ⟨d, h1, h2⟩ := L.sl j w hj hw
      exact ⟨d, h1, Rd.mono (fun m q => ⟨.inl q, hQ m q⟩) (fun _ _ _ z => l.get z) _ _ h2⟩
    · obtain ⟨d, h1, h2⟩ := L.ow j w hj hw
      exact ⟨d, h1, h2.mono (fun m q => ⟨.inl q, hQ m q⟩) (fun _ _ _ z => l.get z)⟩
    · exact ⟨fun q => (L1.sep j m hm).1 q.1, (L1.sep j m hm).2⟩
  refine ⟨L2.setO hi hio ⟨n, ds, rfl, rfl, e, (Rds.low _ _ r).sub fun m hm => ⟨hm.1.1.imp id fun z => ⟨z, hm.2⟩, hm.1.2⟩⟩ (fun m hm => ?_) (by simp), ⟨l.len, fun m hm _ => ?_, fun j hj => ?_, fun j m hm => ?_, fun m q => ⟨.inl q, hQ m q⟩, fun m q => q.1.imp id (·.1)⟩⟩
  · simp at hm
    subst hm
    refine ⟨fun q => q.2 rfl, hlt, Nat.le_trans L.l0 hn, fun j _ hj => ?_⟩
    have := (L.sep j m hj).2
    omega
  · obtain ⟨x, rfl⟩ := l
    exact List.getElem?_append_left hm
  · have : j ≠ i := fun z => hj (z ▸ hW)
    simp [this]
  · by_cases ej : j = i
    · simp [ej] at hm
      exact .inr (by omega)
    · simp [ej] at hm
      exact .inl hm
theorem sx_setO {i : Nat} (ha : PXN U a pa) (hU : (U.all fun i => !O.contains i) = true := by decide) (hi : O.contains i = true := by decide) (hW : W.contains i = true := by decide) (hio : (io && decide (i = 0)) = false := by decide) : SX O io W (fSet i a) (pSetO i pa) := fun l0 A Q s h σ L => by
  have R := ha _ s h σ (L.strong hU)
  have hio' : ¬ (io = true ∧ i = 0) := by rintro ⟨rfl, rfl⟩; simp at hio
  unfold pSetO fSet ofP ofR
  cases q : pa σ with
  | bad => exact trivial
  | exc c => rw [q] at R; obtain ⟨h1, e, l⟩ := R; rw [e]; exact ⟨s, h1, A, _, rfl, L.step l, Fr.step l⟩
  | ok v =>
    rw [q] at R
    cases v with
    | lst vs =>
      obtain ⟨n, ds, h1, e, l, hn, e2, r⟩ := R
      rw [e]
      obtain ⟨L2, F2⟩ := L.newO (W := W) l (by simpa using hi) hio' hn e2 r (by simpa using hW)
      exact ⟨_, h1, _, _, rfl, L2, F2⟩
    | _ => exact trivial
theorem sx_setOF {i : Nat} (ha : PXN U a pa) (hi : O.contains i = true := by decide) (hW : W.contains i = true := by decide) (hio : (io && decide (i = 0)) = false := by decide) : SX O io W (fSet i a) (pSetOF i pa) := fun l0 A Q s h σ L => by
  have R := ha _ s h σ L.raw
  have hio' : ¬ (io = true ∧ i = 0) := by rintro ⟨rfl, rfl⟩; simp at hio
  unfold pSetOF fSet ofP ofR
  cases q : pa σ with
  | bad => exact trivial
  | exc c => rw [q] at R; obtain ⟨h1, e, l⟩ := R; rw [e]; exact ⟨s, h1, A, _, rfl, L.step l, Fr.step l⟩
  | ok v =>
    rw [q] at R
    cases v with
    | lst vs =>
      obtain ⟨n, ds, h1, e, l, hn, e2, r⟩ := R
      rw [e]
      dsimp only
      split
      · rename_i hfl
        obtain ⟨L2, F2⟩ := L.newO (W := W) l (by simpa using hi) hio' hn e2 (Rds.flat _ _ hfl r) (by simpa using hW)
        exact ⟨_, h1, _, _, rfl, L2, F2⟩
      · exact trivial
    | _ => exact trivial
/-- a new list of flat things, for a slot that is not owned -/
theorem sx_setNF {i : Nat} (ha : PXN U a pa) (hi : O.contains i = false := by decide) : SX O io W (fSet i a) (pSetOF i pa) := fun l0 A Q s h σ L => by
  have R := ha _ s h σ L.raw
  unfold pSetOF fSet ofP ofR
  cases q : pa σ with
  | bad => exact trivial
  | exc c => rw [q] at R; obtain ⟨h1, e, l⟩ := R; rw [e]; exact ⟨s, h1, A, _, rfl, L.step l, Fr.step l⟩
  | ok v =>
    rw [q] at R
    cases v with
    | lst vs =>
      obtain ⟨n, ds, h1, e, l, hn, e2, r⟩ := R
      rw [e]
      dsimp only
      split
      · rename_i hfl
        have hlt := (List.getElem?_eq_some_iff.mp e2).1
        exact ⟨_, h1, A, _, rfl, (L.step l).set (by simpa using hi) (Rd.lst (.inr ⟨hn, hlt⟩) e2 (Rds.flat _ _ hfl r)), Fr.step l⟩
      · exact trivial
    | _ => exact trivial
/-- an owned cell is changed -/
theorem Rl.upd {i n : Nat} {c : Cell} {v : PV} (L : Rl O io l0 A Q s h σ) (hi : i ∈ O) (hs : s[i]? = some (some (.ref n))) (hA : n ∈ A i) (o : Ow Q (h.set n c) v (.ref n) (A i)) (hW : i ∈ W) :
    Rl O io l0 A Q s (h.set n c) (σ.set i (some v)) ∧ Fr W A A Q Q h (h.set n c) := by
  have hq : ∀ m, Q m → m ≠ n := fun m q z => (L.sep i n hA).1 (z ▸ q)
  have hg : ∀ m c', m ≠ n → h[m]? = some c' → (h.set n c)[m]? = some c' := fun m c' hm e => by rw [List.getElem?_set_ne (Ne.symm hm)]; exact e
  refine ⟨⟨by simp [L.len], fun j w hj hw => ?_, fun j w hj hw => ?_, fun j m hm => ?_, fun m q => ?_, L.dis, L.nd, L.loc, L.zero, L.fix, by simpa using L.l0⟩, ⟨by simp, fun m hm hj => ?_, fun _ _ => rfl, fun _ _ z => .inl z, fun _ q => q, fun _ q => .inl q⟩⟩
  · have e : i ≠ j := fun z => hj (z ▸ hi)
    rw [List.getElem?_set_ne e] at hw
    obtain ⟨d, h1, h2⟩ := L.sl j w hj hw
    exact ⟨d, h1, Rd.mono (fun _ q => q) (fun m c' q z => hg m c' (hq m q) z) _ _ h2⟩
  · by_cases e : i = j
    · subst e
      have hl : i < σ.length := by
        have := (List.getElem?_eq_some_iff.mp hw).1
        simpa using this
      rw [List.getElem?_set_self hl] at hw
      cases hw
      exact ⟨_, hs, o⟩
    · rw [List.getElem?_set_ne e] at hw
      obtain ⟨d, h1, h2⟩ := L.ow j w hj hw
      refine ⟨d, h1, h2.mono (fun _ q => q) fun m c' q z => hg m c' ?_ z⟩
      rcases q with q | q
      · exact hq m q
      · rintro rfl
        exact e (L.dis i j m hA q)
  · simpa using L.sep j m hm
  · simpa using L.low m q
  · have : m ≠ n := fun z => hj i hW (z ▸ hA)
    rw [List.getElem?_set_ne (Ne.symm this)]
theorem Rl.lstO {i : Nat} {vs : List PV} (L : Rl O io l0 A Q s h σ) (hi : i ∈ O) (e : σ[i]? = some (some (.lst vs))) : ∃ n ds, s[i]? = some (some (.ref n)) ∧ A i = [n] ∧ h[n]? = some (.lst ds) ∧ Rds Q h vs ds := by
  obtain ⟨d, h1, n, ds, rfl, h3, h4, h5⟩ := L.ow i _ hi e
  exact ⟨n, ds, h1, h3, h4, h5⟩
theorem Rl.updL {i n : Nat} {vs : List PV} {ds : List D} (L : Rl O io l0 A Q s h σ) (hi : i ∈ O) (hs : s[i]? = some (some (.ref n))) (hA : A i = [n]) (r : Rds Q h vs ds) (hW : i ∈ W) :
    Rl O io l0 A Q s (h.set n (.lst ds)) (σ.set i (some (.lst vs))) ∧ Fr W A A Q Q h (h.set n (.lst ds)) := by
  have hm : n ∈ A i := by rw [hA]; simp
  have hlt := (L.sep i n hm).2
  refine L.upd hi hs hm ⟨n, ds, rfl, hA, by simp [hlt], Rds.mono (fun _ q => q) (fun m c q z => ?_) _ _ r⟩ hW
  rw [List.getElem?_set_ne]
  · exact z
  · rintro rfl
    exact (L.sep i n hm).1 q
theorem app_core {i : Nat} {vs : List PV} {v : PV} {d : D} {s : SD} {h1 : HC} (L : Rl O io l0 A Q s h1 σ) (hi : i ∈ O) (hW : i ∈ W) (q0 : σ[i]? = some (some (.lst vs))) (r : Rd Q h1 v d) (hl : vs.length < BIG) {n : Nat} (hs : s[i]? = some (some (.ref n))) :
    RSp O io W l0 A Q h1 (.nx (σ.set i (some (.lst (vs ++ [v]))))) (ofR s (mAppend (.ref n) [d] h1) fun _ h2 => .nx s h2) := by
  obtain ⟨n', ds, h2, h3, h4, h5⟩ := L.lstO hi q0
  rw [hs] at h2
  cases h2
  obtain ⟨L2, F2⟩ := L.updL hi hs h3 (h5.append (.one r)) hW
  simp only [mAppend, h4, h5.len, hl, if_true, ofR]
  exact ⟨s, _, A, Q, rfl, L2, F2⟩
theorem sx_app {i : Nat} (ha : PX U a pa) (hU : (U.all fun i => !O.contains i) = true := by decide) (hi : O.contains i = true := by decide) (hW : W.contains i = true := by decide) : SX O io W (fExpr (fMt "list" mAppend (fVar i) (fCons a fNil))) (pApp i pa) := fun l0 A Q s h σ L => by
  have R := ha _ s h σ (L.strong hU)
  unfold pApp
  split
  · rename_i vs q0
    obtain ⟨n, ds, h2, h3, h4, h5⟩ := L.lstO (by simpa using hi) q0
    have e0 : fExpr (fMt "list" mAppend (fVar i) (fCons a fNil)) s h = ofR s ((a s h).bind fun x h1 => mAppend (.ref n) [x] h1) fun _ h2 => .nx s h2 := by
      simp only [fExpr, fMt, fVar, h2, Res.bind, hasTy, h4, decide_true, if_true, fCons, fNil]
      cases a s h <;> rfl
    rw [e0]
    cases q : pa σ with
    | bad => exact trivial
    | exc c => rw [q] at R; obtain ⟨h1, e, l⟩ := R; rw [e]; exact ⟨s, h1, A, _, rfl, L.step l, Fr.step l⟩
    | ok v =>
      rw [q] at R; obtain ⟨d, h1, e, l, r⟩ := R; rw [e]
      simp only [ofP, Res.bind]
      split
      · rename_i hl
        exact (app_core (L.step l) (by simpa using hi) (by simpa using hW) q0 (rd_upto r) hl h2).weak (Fr.step l)
      · exact trivial
  · exact trivial
theorem sx_appF {i : Nat} (ha : PX U a pa) (hi : O.contains i = true := by decide) (hW : W.contains i = true := by decide) : SX O io W (fExpr (fMt "list" mAppend (fVar i) (fCons a fNil))) (pAppF i pa) := fun l0 A Q s h σ L => by
  have R := ha _ s h σ L.raw
  unfold pAppF
  split
  · rename_i vs q0
    obtain ⟨n, ds, h2, h3, h4, h5⟩ := L.lstO (by simpa using hi) q0
    have e0 : fExpr (fMt "list" mAppend (fVar i) (fCons a fNil)) s h = ofR s ((a s h).bind fun x h1 => mAppend (.ref n) [x] h1) fun _ h2 => .nx s h2 := by
      simp only [fExpr, fMt, fVar, h2, Res.bind, hasTy, h4, decide_true, if_true, fCons, fNil]
      cases a s h <;> rfl
    rw [e0]
    cases q : pa σ with
    | bad => exact trivial
    | exc c => rw [q] at R; obtain ⟨h1, e, l⟩ := R; rw [e]; exact ⟨s, h1, A, _, rfl, L.step l, Fr.step l⟩
    | ok v =>
      rw [q] at R; obtain ⟨d, h1, e, l, r⟩ := R; rw [e]
      simp only [ofP, Res.bind]
      split
      · rename_i hl
        exact (app_core (L.step l) (by simpa using hi) (by simpa using hW) q0 (Rd.flat _ _ hl.1 r) hl.2 h2).weak (Fr.step l)
      · exact trivial
  · exact trivial
theorem sx_extF {i : Nat} (ha : PX U a pa) (hi : O.contains i = true := by decide) (hW : W.contains i = true := by decide) : SX O io W (fExpr (fMt "list" mExtend (fVar i) (fCons a fNil))) (pExtF i pa) := fun l0 A Q s h σ L => by
  have R := ha _ s h σ L.raw
  unfold pExtF
  split
  · rename_i vs q0
    obtain ⟨n, ds, h2, h3, h4, h5⟩ := L.lstO (by simpa using hi) q0
    have e0 : fExpr (fMt "list" mExtend (fVar i) (fCons a fNil)) s h = ofR s ((a s h).bind fun x h1 => mExtend (.ref n) [x] h1) fun _ h2 => .nx s h2 := by
      simp only [fExpr, fMt, fVar, h2, Res.bind, hasTy, h4, decide_true, if_true, fCons, fNil]
      cases a s h <;> rfl
    rw [e0]
    cases q : pa σ with
    | bad => exact trivial
    | exc c => rw [q] at R; obtain ⟨h1, e, l⟩ := R; rw [e]; exact ⟨s, h1, A, _, rfl, L.step l, Fr.step l⟩
    | ok v =>
      rw [q] at R; obtain ⟨d, h1, e, l, r⟩ := R; rw [e]
      simp only [ofP, Res.bind]
      cases v with
      | lst ws =>
        dsimp only
        split
        · rename_i hl
          simp only [Rd] at r
          obtain ⟨k, es, rfl, _, e2, r⟩ := r
          have L1 := L.step l
          have r' : Rds (upto Q h.length h1.length) h1 ws es := Rds.flat _ _ hl.1 r
          obtain ⟨n', ds1, h2', h3', h4', h5'⟩ := L1.lstO (by simpa using hi) q0
          rw [h2] at h2'
          cases h2'
          obtain ⟨L2, F2⟩ := L1.updL (W := W) (by simpa using hi) h2 h3' (h5'.append r') (by simpa using hW)
          refine RSp.weak (Fr.step l) ?_
          simp only [mExtend, h4', e2, h5'.len, r'.len, hl.2, if_true, ofR]
          exact ⟨s, _, A, _, rfl, L2, F2⟩
        · exact trivial
      | _ => exact trivial
  · exact trivial
end
end G9

set_option Elab.async false
set_option linter.all false
set_option maxRecDepth 100000
set_option maxHeartbeats 2000000
namespace G9
open PySem L2
/-! ### sorted -/
def keyPV : PV → Option (Int × Int)
  | .tup [.int a, .int b] => some (a, b)
  | _ => none
def ltPV (d e : PV) : Bool := match keyPV d, keyPV e with
  | some p, some q => SrtO.lexB p q
  | _, _ => false
def pSortA : List PV → PR PV
  | [.lst xs] => (match intsV xs with
    | some ns => newLV ((sortO (fun a b => decide (a < b)) ns).map PV.int)
    | none => if xs.all (fun d => (keyPV d).isSome) = true then newLV (sortO ltPV xs) else
      (match optAll (xs.map (toPyV 8)) with
      | some ps => if alikeB ps = true ∧ sortableB ps = true then newLV (sortBy xs ps) else .bad
      | none => .bad))
  | _ => .bad
section
variable {Q : Nat → Prop} {h : HC}
theorem keyPV_eq {v : PV} {d : D} (r : Rd Q h v d) : keyP d = keyPV v := by
  cases v with
  | tup vs =>
    simp only [Rd] at r
    obtain ⟨ds, rfl, r⟩ := r
    match vs, ds, r with
    | [], ds, r => simp only [Rds] at r; subst r; rfl
    | [v1], ds, r =>
      simp only [Rds] at r
      obtain ⟨d1, _, rfl, r1, rfl⟩ := r
      cases d1 <;> cases v1 <;> rfl
    | [v1, v2], ds, r =>
      simp only [Rds] at r
      obtain ⟨d1, _, rfl, r1, d2, _, rfl, r2, rfl⟩ := r
      cases v1 with
      | int a =>
        simp only [Rd] at r1; subst r1
        cases v2 with
        | int b => simp only [Rd] at r2; subst r2; rfl
        | tup vs => simp only [Rd] at r2; obtain ⟨_, rfl, _⟩ := r2; rfl
        | lst vs => simp only [Rd] at r2; obtain ⟨_, _, rfl, _⟩ := r2; rfl
        | dk ks vs => simp only [Rd] at r2; obtain ⟨_, _, rfl, _⟩ := r2; rfl
        | dt ks vs => simp only [Rd] at r2; obtain ⟨_, _, rfl, _⟩ := r2; rfl
        | ins c ks vs => simp only [Rd] at r2; obtain ⟨_, _, rfl, _⟩ := r2; rfl
        | _ => simp only [Rd] at r2; subst r2; rfl
      | tup vs => simp only [Rd] at r1; obtain ⟨_, rfl, _⟩ := r1; rfl
      | lst vs => simp only [Rd] at r1; obtain ⟨_, _, rfl, _⟩ := r1; rfl
      | dk ks vs => simp only [Rd] at r1; obtain ⟨_, _, rfl, _⟩ := r1; rfl
      | dt ks vs => simp only [Rd] at r1; obtain ⟨_, _, rfl, _⟩ := r1; rfl
      | ins c ks vs => simp only [Rd] at r1; obtain ⟨_, _, rfl, _⟩ := r1; rfl
      | _ => simp only [Rd] at r1; subst r1; rfl
    | v1 :: v2 :: v3 :: vs, ds, r =>
      simp only [Rds] at r
      obtain ⟨d1, _, rfl, r1, d2, _, rfl, r2, d3, _, rfl, r3, _⟩ := r
      cases d1 <;> cases d2 <;> cases v1 <;> cases v2 <;> rfl
  | lst vs => simp only [Rd] at r; obtain ⟨k, ds, rfl, r⟩ := r; rfl
  | dk ks vs => simp only [Rd] at r; obtain ⟨k, ds, rfl, r⟩ := r; rfl
  | dt ks vs => simp only [Rd] at r; obtain ⟨k, ds, rfl, r⟩ := r; rfl
  | ins c ks vs => simp only [Rd] at r; obtain ⟨k, ds, rfl, r⟩ := r; rfl
  | _ => simp only [Rd] at r; subst r; rfl
theorem insO_rds {lt : PV → PV → Bool} {lt' : D → D → Bool} (hl : ∀ v d w e, Rd Q h v d → Rd Q h w e → lt v w = lt' d e) {v : PV} {d : D} (r : Rd Q h v d) : ∀ {vs : List PV} {ds : List D}, Rds Q h vs ds → Rds Q h (insO lt v vs) (insO lt' d ds)
  | [], ds, rs => by
    simp only [Rds] at rs
    subst rs
    exact .one r
  | w :: vs, ds, rs => by
    obtain ⟨e, es, rfl, r1, r2⟩ := rs.uncons
    simp only [insO, hl v d w e r r1]
    split
    · exact .cons r (.cons r1 r2)
    · exact .cons r1 (insO_rds hl r r2)
theorem sortO_rds {lt : PV → PV → Bool} {lt' : D → D → Bool} (hl : ∀ v d w e, Rd Q h v d → Rd Q h w e → lt v w = lt' d e) {vs : List PV} {ds : List D} (r : Rds Q h vs ds) : Rds Q h (sortO lt vs) (sortO lt' ds) := by
  have key : ∀ (vs : List PV) (ds : List D) (va : List PV) (da : List D), Rds Q h vs ds → Rds Q h va da → Rds Q h (vs.foldl (fun acc y => insO lt y acc) va) (ds.foldl (fun acc y => insO lt' y acc) da) := by
    intro vs
    induction vs with
    | nil => intro ds va da r ra; simp only [Rds] at r; subst r; exact ra
    | cons v vs ih =>
      intro ds va da r ra
      obtain ⟨d, ds', rfl, r1, r2⟩ := r.uncons
      exact ih ds' _ _ r2 (insO_rds hl r1 ra)
  exact key vs ds [] [] r Rds.nil
theorem zipE_rds : ∀ {vs : List PV} {ds : List D} {ps : List PyData}, Rds Q h vs ds → PySem.W.EachIs (fun (b : D × PyData) (c : PV × PyData) => Rd Q h c.1 b.1 ∧ b.2 = c.2) (ds.zip ps) (vs.zip ps)
  | [], ds, ps, r => by
    simp only [Rds] at r
    subst r
    simpa using PySem.W.EachIs.nil
  | v :: vs, ds, ps, r => by
    obtain ⟨d, ds', rfl, h1, h2⟩ := r.uncons
    cases ps with
    | nil => simpa using PySem.W.EachIs.nil
    | cons p ps => exact .cons ⟨h1, rfl⟩ (zipE_rds h2)
theorem each_rds {as : List (D × PyData)} {bs : List (PV × PyData)} (e : PySem.W.EachIs (fun (b : D × PyData) (c : PV × PyData) => Rd Q h c.1 b.1 ∧ b.2 = c.2) as bs) : Rds Q h (bs.map Prod.fst) (as.map Prod.fst) := by
  induction e with
  | nil => exact Rds.nil
  | cons r t ih => exact .cons r.1 ih
theorem sortBy_rds {vs : List PV} {ds : List D} {ps : List PyData} (r : Rds Q h vs ds) : Rds Q h (sortBy vs ps) (sortBy ds ps) :=
  each_rds (PySem.W.sort_each (zipE_rds r) fun b hb c hc' => by
    have h1 := zipE_rds (ps := ps) r
    have e1 := (h1.zip b hb).2
    have e2 := (h1.zip c hc').2
    simp only [PySem.W.dataLe_eq, e1, e2])
theorem sortA_core {P : PR PV → Res D → Prop} (hb : ∀ x, P .bad x) (hn : ∀ vs ds, Rds Q h vs ds → P (newLV vs) (newL ds h)) {vs : List PV} {ds : List D} (r : Rds Q h vs ds) : P (pSortA vs) (bSortA ds h) := by
  unfold pSortA
  split
  · rename_i xs
    obtain ⟨n, es, rfl, _, e, r⟩ := one_lst r
    have e1 := intsV_eq r
    have e2 : (es.all fun d => (keyP d).isSome) = xs.all fun d => (keyPV d).isSome := by
      have := map_rds (f := fun d => (keyP d).isSome) (g := fun d => (keyPV d).isSome) (fun v d r => by rw [keyPV_eq r]) r
      have h2 := congrArg (fun l : List Bool => l.all id) this
      simpa [List.all_map] using h2
    have e3 := map_rds (f := toPy h 8) (g := toPyV 8) (fun v d r => toPyV_eq 8 v d r) r
    cases q : intsV xs with
    | some ns =>
      rw [q] at e1
      have hbs : bSorted [.ref n] h = newL ((sortO (fun a b => decide (a < b)) ns).map D.int) h := by simp only [bSorted, asSeq, e, e1]
      unfold bSortA
      rw [hbs]
      have hz := hn _ _ (rds_map (Q := Q) (h := h) (f := PV.int) (g := D.int) (fun _ => by simp only [Rd]) (sortO (fun a b => decide (a < b)) ns))
      unfold newL at hz ⊢
      dsimp only
      unfold newLV at hz ⊢
      simp only [List.length_map] at hz ⊢
      split
      · rename_i hl; simp only [hl, if_true] at hz ⊢; exact hz
      · exact hb _
    | none =>
      rw [q] at e1
      dsimp only
      split
      · rename_i ha
        rw [ha] at e2
        have hbs : bSorted [.ref n] h = newL (sortO ltPD es) h := by simp only [bSorted, asSeq, e, e1, e2, if_true]
        unfold bSortA
        rw [hbs]
        have rs := sortO_rds (lt := ltPV) (lt' := ltPD) (fun v d w e r1 r2 => by unfold ltPV ltPD; rw [keyPV_eq r1, keyPV_eq r2]; try (cases keyPV v <;> cases keyPV w <;> rfl)) r
        have hz := hn _ _ rs
        have hl := rs.len
        unfold newL at hz ⊢
        unfold newLV at hz ⊢
        rw [hl] at hz ⊢
        split
        · rename_i hl; simp only [hl, if_true] at hz ⊢; exact hz
        · exact hb _
      · rename_i ha
        rw [← e2] at ha
        have hbs : bSorted [.ref n] h = .bad := by simp only [bSorted, asSeq, e, e1, ha]; rfl
        unfold bSortA
        rw [hbs]
        simp only [bSortD, asSeq, e, e3]
        split
        · rename_i ps hp
          try rw [hp]
          try dsimp only
          split
          · rename_i hc
            exact hn _ _ (sortBy_rds r)
          · exact hb _
        · exact hb _
  · exact hb _
theorem cx_sortA : CX bSortA pSortA := fun Q h vs ds r => sortA_core (P := RP Rd Q h) (fun _ => trivial) (fun _ _ r => newL_rp r) r
theorem cxn_sortA : CXN bSortA pSortA := fun Q h vs ds r => sortA_core (P := RPN Q h) (fun _ => trivial) (fun _ _ r => newL_rpn r) r
end
/-! ### dicts -/
def toKeyV : PV → Option Key
  | .int i => some (.inl i)
  | .str s => some (.inr s)
  | _ => none
/-- what stands under a key -/
def getV {κ : Type} [DecidableEq κ] : List κ → List PV → κ → Option PV
  | k :: ks, v :: vs, x => if k = x then some v else getV ks vs x
  | _, _, _ => none
def hasV {κ : Type} [DecidableEq κ] (ks : List κ) (x : κ) : Bool := ks.any fun k => decide (k = x)
def putV {κ : Type} [DecidableEq κ] : List κ → List PV → κ → PV → List PV
  | k :: ks, v :: vs, x, w => (if k = x then w else v) :: putV ks vs x w
  | _, vs, _, _ => vs
def putKs {κ : Type} [DecidableEq κ] (ks : List κ) (x : κ) : List κ := if hasV ks x = true then ks else ks ++ [x]
def putVs {κ : Type} [DecidableEq κ] (ks : List κ) (vs : List PV) (x : κ) (w : PV) : List PV := if hasV ks x = true then putV ks vs x w else vs ++ [w]
section
variable {Q : Nat → Prop} {h : HC} {κ : Type} [DecidableEq κ]
theorem toKeyV_eq {v : PV} {d : D} (r : Rd Q h v d) : toKey d = toKeyV v := by
  cases v with
  | tup vs => simp only [Rd] at r; obtain ⟨ds, rfl, r⟩ := r; rfl
  | lst vs => simp only [Rd] at r; obtain ⟨k, ds, rfl, r⟩ := r; rfl
  | dk ks vs => simp only [Rd] at r; obtain ⟨k, ds, rfl, r⟩ := r; rfl
  | dt ks vs => simp only [Rd] at r; obtain ⟨k, ds, rfl, r⟩ := r; rfl
  | ins c ks vs => simp only [Rd] at r; obtain ⟨k, ds, rfl, r⟩ := r; rfl
  | _ => simp only [Rd] at r; subst r; rfl
theorem valD_get : ∀ {kvs : List (κ × D)} {vs : List PV} {x : κ}, Rds Q h vs (kvs.map Prod.snd) → (∀ v, getV (kvs.map Prod.fst) vs x = some v → ∃ d, valD kvs x = some d ∧ Rd Q h v d) ∧ (getV (kvs.map Prod.fst) vs x = none → valD kvs x = none)
  | [], vs, x, r => by
    refine ⟨fun v e => ?_, fun _ => rfl⟩
    simp [getV] at e
  | (k, d) :: kvs, [], x, r => by
    have := r.len
    simp at this
  | (k, d) :: kvs, v :: vs, x, r => by
    obtain ⟨d', ds', e, r1, r2⟩ := r.uncons
    simp at e
    obtain ⟨rfl, rfl⟩ := e
    obtain ⟨i1, i2⟩ := valD_get (x := x) r2
    simp only [List.map_cons, getV]
    by_cases hk : k = x
    · simp only [hk, if_true]
      refine ⟨fun w e => ?_, fun e => by simp at e⟩
      cases e
      exact ⟨d, by simp [valD, List.find?_cons], r1⟩
    · simp only [hk, if_false]
      have : valD ((k, d) :: kvs) x = valD kvs x := by simp [valD, List.find?_cons, hk]
      rw [this]
      exact ⟨i1, i2⟩
theorem putD_fst {kvs : List (κ × D)} {x : κ} {d : D} : (putD kvs x d).map Prod.fst = putKs (kvs.map Prod.fst) x := by
  unfold putD putKs hasV
  rw [List.any_map]
  simp only [Function.comp_def]
  split
  · rw [List.map_map]
    apply List.map_congr_left
    intro a _
    simp only [Function.comp]
    split <;> rfl
  · simp
theorem putD_snd {kvs : List (κ × D)} {vs : List PV} {x : κ} {d : D} {w : PV} (rw' : Rd Q h w d) (r : Rds Q h vs (kvs.map Prod.snd)) : Rds Q h (putVs (kvs.map Prod.fst) vs x w) ((putD kvs x d).map Prod.snd) := by
  unfold putD putVs hasV
  rw [List.any_map]
  simp only [Function.comp_def]
  split
  · have key : ∀ (kvs : List (κ × D)) (vs : List PV), Rds Q h vs (kvs.map Prod.snd) → Rds Q h (putV (kvs.map Prod.fst) vs x w) ((kvs.map fun kv => if kv.1 = x then (kv.1, d) else kv).map Prod.snd) := by
      intro kvs
      induction kvs with
      | nil => intro vs r; simpa [putV] using r
      | cons q kvs ih =>
        intro vs r
        cases vs with
        | nil => have := r.len; simp at this
        | cons v vs =>
          obtain ⟨d', ds', e, r1, r2⟩ := r.uncons
          simp at e
          obtain ⟨rfl, rfl⟩ := e
          simp only [List.map_cons, putV]
          refine .cons ?_ (ih vs r2)
          by_cases hk : q.1 = x
          · simp [hk]; exact rw'
          · simp [hk]; exact r1
    exact key kvs vs r
  · rw [List.map_append]
    exact r.append (.one rw')
end
def pDGet (x y : PV) : PR PV := match x with
  | .dk ks vs => (match toKeyV y with
    | some k => (match getV ks vs k with
      | some v => .ok v
      | none => .bad)
    | none => .bad)
  | _ => .bad
theorem ox_dget : OX opDGet pDGet := fun Q h v1 v2 d1 d2 r1 r2 => by
  unfold pDGet
  split
  · rename_i ks vs
    simp only [Rd] at r1
    obtain ⟨n, kvs, rfl, _, e, rfl, r1⟩ := r1
    rw [← toKeyV_eq r2]
    split
    · rename_i k hk
      split
      · rename_i v hv
        obtain ⟨d, h1, h2⟩ := (valD_get (x := k) r1).1 v hv
        simp only [opDGet, dGet, e, hk, Option.map_some, h1]
        exact RP.here good_rd h2
      · exact trivial
    · exact trivial
  · exact trivial
/-- displays, dict(pairs) -/
def mergeV : List (Key × PV) → List Key → List PV → List Key × List PV
  | [], ks, vs => (ks, vs)
  | (k, v) :: r, ks, vs => mergeV r (putKs ks k) (putVs ks vs k v)
def mkDV (kvs : List (Key × PV)) : PV := .dk (mergeV kvs [] []).1 (mergeV kvs [] []).2
section
variable {Q : Nat → Prop} {h : HC}
theorem merge_rds : ∀ {more : List (Key × D)} {ms : List (Key × PV)} {kvs : List (Key × D)} {vs : List PV}, more.map Prod.fst = ms.map Prod.fst → Rds Q h (ms.map Prod.snd) (more.map Prod.snd) → Rds Q h vs (kvs.map Prod.snd) →
    ((more.foldl (fun acc kv => putD acc kv.1 kv.2) kvs).map Prod.fst = (mergeV ms (kvs.map Prod.fst) vs).1 ∧ Rds Q h (mergeV ms (kvs.map Prod.fst) vs).2 ((more.foldl (fun acc kv => putD acc kv.1 kv.2) kvs).map Prod.snd))
  | [], [], kvs, vs, e, r, q => ⟨rfl, q⟩
  | [], _ :: _, kvs, vs, e, r, q => by simp at e
  | _ :: _, [], kvs, vs, e, r, q => by simp at e
  | (k, d) :: more, (k', v) :: ms, kvs, vs, e, r, q => by
    simp only [List.map_cons, List.cons.injEq] at e
    obtain ⟨rfl, e⟩ := e
    obtain ⟨d', ds', e', r1, r2⟩ := r.uncons
    simp only [List.map_cons, List.cons.injEq] at e'
    obtain ⟨rfl, rfl⟩ := e'
    simp only [List.foldl_cons, mergeV]
    have := merge_rds (kvs := putD kvs k d) (vs := putVs (kvs.map Prod.fst) vs k v) e r2 (putD_snd r1 q)
    rw [putD_fst] at this
    exact this
theorem new_dk {kvs : List (Key × D)} {ws : List (Key × PV)} (e : kvs.map Prod.fst = ws.map Prod.fst) (r : Rds Q h (ws.map Prod.snd) (kvs.map Prod.snd)) : RP Rd Q h (.ok (mkDV ws)) (.ok (.ref h.length) (h ++ [.dk (mergeD kvs)])) := by
  refine RP.okI Le.app ?_
  have m := merge_rds (kvs := []) (vs := []) e r Rds.nil
  unfold mkDV
  simp only [Rd]
  exact ⟨h.length, mergeD kvs, rfl, .inr (Nat.le_refl _), last_get, m.1, good_rds.mo (fun _ q => .inl q) Le.app m.2⟩
end
def pairV : PV → Option (Key × PV)
  | .tup [k, v] => (toKeyV k).map fun k => (k, v)
  | _ => none
def pairsV (xs : List PV) : Option (List (Key × PV)) := optAll (xs.map pairV)
def pDict : List PV → PR PV
  | [.lst xs] => (match pairsV xs with
    | some kvs => .ok (mkDV kvs)
    | none => .bad)
  | _ => .bad
section
variable {Q : Nat → Prop} {h : HC}
theorem pairV_ok {v : PV} {d : D} {kw : Key × PV} (r : Rd Q h v d) (e : pairV v = some kw) : ∃ kd, pairD d = some kd ∧ kd.1 = kw.1 ∧ Rd Q h kw.2 kd.2 := by
  unfold pairV at e
  split at e
  · rename_i k x
    simp only [Rd, Rds] at r
    obtain ⟨_, rfl, d1, _, rfl, r1, d2, _, rfl, r2, rfl⟩ := r
    cases q : toKeyV k with
    | none => simp [q] at e
    | some k' =>
      simp [q] at e
      subst e
      exact ⟨(k', d2), by simp [pairD, toKeyV_eq r1, q], rfl, r2⟩
  · cases e
theorem pairsV_ok : ∀ {vs : List PV} {ds : List D} {kws : List (Key × PV)}, Rds Q h vs ds → pairsV vs = some kws → ∃ kvs, pairsD ds = some kvs ∧ kvs.map Prod.fst = kws.map Prod.fst ∧ Rds Q h (kws.map Prod.snd) (kvs.map Prod.snd)
  | [], ds, kws, r, e => by
    simp only [Rds] at r
    simp [pairsV, optAll] at e
    subst e r
    exact ⟨[], rfl, rfl, Rds.nil⟩
  | v :: vs, ds, kws, r, e => by
    obtain ⟨d, ds', rfl, r1, r2⟩ := r.uncons
    unfold pairsV at e
    rw [List.map_cons] at e
    cases q : pairV v with
    | none => simp [optAll, q] at e
    | some kw =>
      cases q2 : optAll (vs.map pairV) with
      | none => simp [optAll, q, q2] at e
      | some kws' =>
        simp [optAll, q, q2] at e
        subst e
        obtain ⟨kd, e1, e2, e3⟩ := pairV_ok r1 q
        obtain ⟨kvs, f1, f2, f3⟩ := pairsV_ok (vs := vs) r2 q2
        refine ⟨kd :: kvs, ?_, by simp [e2, f2], .cons e3 f3⟩
        unfold pairsD at f1 ⊢
        simp [optAll, e1, f1]
theorem cx_dict : CX bDict pDict := fun Q h vs ds r => by
  unfold pDict
  split
  · obtain ⟨n, es, rfl, _, e, r⟩ := one_lst r
    split
    · rename_i kws hk
      obtain ⟨kvs, e1, e2, e3⟩ := pairsV_ok r hk
      simp only [bDict, asSeq, e, e1]
      exact new_dk e2 e3
    · exact trivial
  · exact trivial
end
def pPairs : List (XP × XP) → SP → PR (List (PV × PV))
  | [], _ => .ok []
  | (k, v) :: r, σ => (k σ).bind fun x => (v σ).bind fun y => (pPairs r σ).bind fun ps => .ok ((x, y) :: ps)
def keysPV (ps : List (PV × PV)) : Option (List (Key × PV)) := optAll (ps.map fun p => (toKeyV p.1).map fun k => (k, p.2))
def pDisp (ps : List (XP × XP)) : XP := fun σ => (pPairs ps σ).bind fun qs => match keysPV qs with
  | some kvs => if kvs.length ≤ 15 then .ok (mkDV kvs) else .bad
  | none => .bad
def pDisp0 : XP := fun _ => .ok (.dk [] [])
def RdPs : Rl2 (List (D × D)) (List (PV × PV)) := fun Q h vs ds => Rds Q h (vs.map Prod.fst) (ds.map Prod.fst) ∧ Rds Q h (vs.map Prod.snd) (ds.map Prod.snd)
theorem good_ps : Good RdPs := ⟨fun hq l r => ⟨good_rds.mo hq l r.1, good_rds.mo hq l r.2⟩⟩
inductive PPX : List Nat → List (EE × EE) → List (XP × XP) → Prop
  | nil : PPX [] [] []
  | cons {U U' U'' : List Nat} {k v : EE} {pk pv : XP} {r : List (EE × EE)} {pr : List (XP × XP)} : PX U k pk → PX U' v pv → PPX U'' r pr → PPX (U ++ (U' ++ U'')) ((k, v) :: r) ((pk, pv) :: pr)
theorem pairs_ok : ∀ {U : List Nat} {r : List (EE × EE)} {pr : List (XP × XP)}, PPX U r pr → PJ RdPs U (fPairs r) (pPairs pr)
  | _, _, _, .nil => fun Q s h σ E => RP.here good_ps ⟨Rds.nil, Rds.nil⟩
  | _, _, _, .cons hk hv hr => PJ.bind good_ps hk fun Q s h σ x d E r => (hv Q s h σ E.l).bind good_ps fun d2 h2 y l2 r2 => (pairs_ok hr _ s h2 σ (E.r.up l2)).bind good_ps fun ds h3 vs l3 r3 =>
    RP.here good_ps ⟨.cons (good_rd.mo (fun _ q => .inl (.inl q)) (l2.trans l3) r) r3.1, .cons (good_rd.mo (fun _ q => .inl q) l3 r2) r3.2⟩
theorem keys_ok {Q : Nat → Prop} {h : HC} : ∀ {vs : List (PV × PV)} {ds : List (D × D)} {kws : List (Key × PV)}, RdPs Q h vs ds → keysPV vs = some kws → ∃ kvs, keysP ds = some kvs ∧ kvs.map Prod.fst = kws.map Prod.fst ∧ Rds Q h (kws.map Prod.snd) (kvs.map Prod.snd)
  | [], ds, kws, r, e => by
    have := r.1.len
    have h0 : ds = [] := List.eq_nil_of_length_eq_zero (by simpa using this)
    subst h0
    simp [keysPV, optAll] at e
    subst e
    exact ⟨[], rfl, rfl, Rds.nil⟩
  | v :: vs, ds, kws, r, e => by
    cases ds with
    | nil => have := r.1.len; simp at this
    | cons d ds =>
      obtain ⟨_, _, e1, r1, r2⟩ := r.1.uncons
      obtain ⟨_, _, e2, r3, r4⟩ := r.2.uncons
      simp at e1 e2
      obtain ⟨rfl, rfl⟩ := e1
      obtain ⟨rfl, rfl⟩ := e2
      unfold keysPV at e
      rw [List.map_cons] at e
      cases q : toKeyV v.1 with
      | none => simp [optAll, q] at e
      | some k =>
        cases q2 : optAll (vs.map fun p => (toKeyV p.1).map fun k => (k, p.2)) with
        | none => simp [optAll, q, q2] at e
        | some kws' =>
          simp [optAll, q, q2] at e
          subst e
          obtain ⟨kvs, f1, f2, f3⟩ := keys_ok (vs := vs) (ds := ds) ⟨r2, r4⟩ q2
          refine ⟨(k, d.2) :: kvs, ?_, by simp [f2], .cons r3 f3⟩
          unfold keysP at f1 ⊢
          simp [optAll, toKeyV_eq r1, q, f1]
theorem px_disp {U : List Nat} {r : List (EE × EE)} {pr : List (XP × XP)} (hp : PPX U r pr) : PX (U ++ []) (fDisp r) (pDisp pr) := PJ.bind good_rd (pairs_ok hp) fun Q s h σ vs ds E r => by
  cases q : keysPV vs with
  | none => exact trivial
  | some kws =>
    obtain ⟨kvs, e1, e2, e3⟩ := keys_ok r q
    have hl : kvs.length = kws.length := by simpa using congrArg List.length e2
    simp only [e1, hl]
    split
    · exact new_dk e2 e3
    · exact trivial
theorem px_disp0 : PX [] fDisp0 pDisp0 := fun Q s h σ E => RP.okI Le.app (by
  simp only [Rd]
  exact ⟨h.length, [], rfl, .inr (Nat.le_refl _), last_get, rfl, Rds.nil⟩)
end G9

set_option Elab.async false
set_option linter.all false
set_option maxRecDepth 100000
set_option maxHeartbeats 2000000
namespace G9
open PySem L2
def pYes : TP := fun _ => .ok true
def pListR (a : XP) : XP := fun σ => (a σ).bind fun x => match x with
  | .int j => if 0 ≤ j ∧ j ≤ 100000 then .ok (.lst (rngV 0 j.toNat)) else .bad
  | _ => .bad
section
variable {U : List Nat} {a : EE} {pa : XP}
theorem px_listR (ha : PX U a pa) : PX (U ++ []) (fListR a) (pListR pa) := PJ.bind good_rd ha fun Q s h σ v d E r => by
  cases v with
  | int j =>
    simp only [Rd] at r
    subst r
    dsimp only
    split
    · exact RP.okI Le.app (new_rd rds_rng)
    · exact trivial
  | _ => exact trivial
end
def pGeA : PV → PV → PR PV
  | .int a, .int b => .ok (.bl (decide (b ≤ a)))
  | .tup [.int a, .str x], .tup [.int b, .str y] => .ok (.bl (geIS a x b y))
  | _, _ => .bad
theorem ox_geA : OX opGeA pGeA := fun Q h v1 v2 d1 d2 r1 r2 => by
  unfold pGeA
  split
  · simp only [Rd] at r1 r2; subst r1 r2; exact rp_bl
  · simp only [Rd, Rds] at r1 r2
    obtain ⟨_, rfl, _, _, rfl, rfl, _, _, rfl, rfl, rfl⟩ := r1
    obtain ⟨_, rfl, _, _, rfl, rfl, _, _, rfl, rfl, rfl⟩ := r2
    exact rp_bl
  · exact trivial
/-- the law, told of values -/
theorem plain_of {m : List D → HC → Res D} {p : List PV → PR PV} (c : CX m p) {ns : List Int} (e : p [.scr ns] = .ok (.bl true)) : ∃ h', m [.scr ns] [] = .ok (.bl true) h' := by
  have := c (fun _ => True) [] [.scr ns] [.scr ns] (.one (by simp only [Rd]))
  rw [e] at this
  obtain ⟨d, h', e1, _, r⟩ := this
  simp only [Rd] at r
  subst r
  exact ⟨h', e1⟩
end G9

set_option Elab.async false
set_option linter.all false
set_option maxRecDepth 100000
set_option maxHeartbeats 2000000
namespace G9
open PySem L2
/-! ### instances -/
def putKs1 : List Str → Str → List Str
  | [], f => [f]
  | k :: ks, f => if k = f then k :: ks else k :: putKs1 ks f
def putVs1 : List Str → List PV → Str → PV → List PV
  | k :: ks, v :: vs, f, w => if k = f then w :: vs else v :: putVs1 ks vs f w
  | _, _, _, w => [w]
section
variable {Q : Nat → Prop} {h : HC}
theorem look_get : ∀ {kvs : List (Str × D)} {vs : List PV} {x : Str}, Rds Q h vs (kvs.map Prod.snd) → (∀ v, getV (kvs.map Prod.fst) vs x = some v → ∃ d, kvs.lookup x = some d ∧ Rd Q h v d) ∧ (getV (kvs.map Prod.fst) vs x = none → kvs.lookup x = none)
  | [], vs, x, r => ⟨fun v e => by simp [getV] at e, fun _ => rfl⟩
  | (k, d) :: kvs, [], x, r => by
    have := r.len
    simp at this
  | (k, d) :: kvs, v :: vs, x, r => by
    obtain ⟨d', ds', e, r1, r2⟩ := r.uncons
    simp at e
    obtain ⟨rfl, rfl⟩ := e
    obtain ⟨i1, i2⟩ := look_get (x := x) r2
    simp only [List.map_cons, getV]
    by_cases hk : k = x
    · subst hk
      simp only [if_true, List.lookup_cons, beq_self_eq_true]
      refine ⟨fun w e => ?_, fun e => by simp at e⟩
      cases e
      exact ⟨d, rfl, r1⟩
    · have : (x == k) = false := by simpa using fun z : x = k => hk z.symm
      simp only [hk, if_false, List.lookup_cons, this]
      exact ⟨i1, i2⟩
theorem putFD_fst : ∀ {kvs : List (Str × D)} {f : Str} {d : D}, (putFD f d kvs).map Prod.fst = putKs1 (kvs.map Prod.fst) f
  | [], f, d => rfl
  | p :: kvs, f, d => by
    simp only [putFD, List.map_cons, putKs1]
    split
    · rfl
    · simp [putFD_fst]
end
def pFld (c f : Str) (a : XP) : XP := fun σ => (a σ).bind fun x => match x with
  | .ins c' ks vs => if c' = c then (match getV ks vs f with
    | some v => .ok v
    | none => .bad) else .bad
  | _ => .bad
def pMeth (c m : Str) (n : Nat) (pf : List PV → PR PV) (o : XP) (as : AP) : XP := fun σ => (o σ).bind fun x => match x with
  | .ins c' ks vs => if c' = c ∧ (getV ks vs m).isNone = true then (as σ).bind fun xs => if xs.length = n then pf (x :: xs) else .bad else .bad
  | _ => .bad
section
variable {U U' : List Nat} {a o : EE} {pa po : XP} {as : EA} {pas : AP} {c f m : Str} {Q : Nat → Prop} {h : HC}
theorem rd_ins {ks : List Str} {vs : List PV} {d : D} (r : Rd Q h (.ins c ks vs) d) : ∃ n kvs, d = .ref n ∧ Q n ∧ h[n]? = some (.ins c kvs) ∧ kvs.map Prod.fst = ks ∧ Rds Q h vs (kvs.map Prod.snd) ∧ insAt c h d = some (n, kvs) := by
  simp only [Rd] at r
  obtain ⟨n, kvs, rfl, q, e, k, r⟩ := r
  exact ⟨n, kvs, rfl, q, e, k, r, by simp [insAt, e]⟩
theorem px_fld (ha : PX U a pa) : PX (U ++ []) (fFld c f a) (pFld c f pa) := PJ.bind good_rd ha fun Q s h σ v d E r => by
  cases v with
  | ins c' ks vs =>
    dsimp only
    by_cases hc : c' = c
    · subst hc
      rw [if_pos rfl]
      obtain ⟨n, kvs, rfl, q, e, rfl, rs, ei⟩ := rd_ins r
      rw [ei]
      obtain ⟨i1, i2⟩ := look_get (x := f) rs
      cases g : getV (kvs.map Prod.fst) vs f with
      | none => exact trivial
      | some w =>
        obtain ⟨d, h1, h2⟩ := i1 w g
        simp only [h1]
        exact RP.here good_rd h2
    · rw [if_neg hc]; exact trivial
  | _ => exact trivial
theorem px_meth {n : Nat} {fm : List D → HC → Res D} {pf : List PV → PR PV} (hf : CX fm pf) (ho : PX U o po) (ha : PAA U' as pas) : PX (U ++ U') (fMeth c m n fm o as) (pMeth c m n pf po pas) := PJ.bind good_rd ho fun Q s h σ v d E r => by
  cases v with
  | ins c' ks vs =>
    dsimp only
    by_cases hc : c' = c ∧ (getV ks vs m).isNone = true
    · rw [if_pos hc]
      obtain ⟨rfl, hn⟩ := hc
      obtain ⟨n', kvs, hd, q, e, hk, rs, ei⟩ := rd_ins r
      rw [ei]
      dsimp only
      have hl : kvs.lookup m = none := (look_get (x := m) rs).2 (by rw [hk]; exact Option.isNone_iff_eq_none.mp hn)
      rw [if_pos hl]
      refine (ha Q s h σ E).bind good_rd fun ds h' ws l r' => ?_
      rw [r'.len]
      split
      · exact hf _ h' _ _ (.cons (good_rd.mo (fun _ q => .inl q) l r) r')
      · exact trivial
    · rw [if_neg hc]; exact trivial
  | _ => exact trivial
end
/-! ### functions that change their first argument -/
inductive PW where
  | ok (v w : PV)
  | exc (c : Str) (w : PV)
  | bad
structure FOut (Q Q' : Nat → Prop) (h h' : HC) (a a' : List Nat) (w : PV) (d0 : D) : Prop where
  le : h.length ≤ h'.length
  kp : ∀ n, n < h.length → n ∉ a → h'[n]? = h[n]?
  grow : ∀ n ∈ a', n ∈ a ∨ h.length ≤ n
  nd : a'.Nodup
  sep : ∀ n ∈ a', ¬ Q' n ∧ n < h'.length
  low : ∀ n, Q' n → n < h'.length
  qq : ∀ n, Q n → Q' n
  qn : ∀ n, Q' n → Q n ∨ h.length ≤ n
  ow : Ow Q' h' w d0 a'
def FO (fm : List D → HC → Res D) (po : PV → List PV → PW) : Prop := ∀ (Q : Nat → Prop) (h : HC) (d0 : D) (v0 : PV) (a : List Nat) (ds : List D) (vs : List PV), Ow Q h v0 d0 a → a.Nodup → (∀ n ∈ a, ¬ Q n ∧ n < h.length) → (∀ n, Q n → n < h.length) → Rds Q h vs ds →
  match po v0 vs with
  | .ok v w => ∃ d h' a' Q', fm (d0 :: ds) h = .ok d h' ∧ FOut Q Q' h h' a a' w d0 ∧ Rd Q' h' v d
  | .exc c w => ∃ h' a' Q', fm (d0 :: ds) h = .exc c h' ∧ FOut Q Q' h h' a a' w d0
  | .bad => True
def slot0 (σ : SP) (k : PV → PW) : PW := match σ[0]? with
  | some (some w) => k w
  | _ => .bad
def fnO (k n : Nat) (body : ESP) (v0 : PV) (vs : List PV) : PW := if vs.length + 1 = k then (match body ((v0 :: vs).map some ++ List.replicate (n - (vs.length + 1)) none) with
  | .nx σ => slot0 σ fun w => .ok .non w
  | .ret v σ => slot0 σ fun w => .ok v w
  | .exc c σ => slot0 σ fun w => .exc c w
  | _ => .bad) else .bad
theorem fo_fn {O W : List Nat} {k n : Nat} {f : ES} {pf : ESP} (hb : SX O true W f pf) (h0 : O.contains 0 = true := by decide) (hO : (O.all fun i => decide (i = 0 ∨ k ≤ i)) = true := by decide) : FO (fnRun n f) (fnO k n pf) := fun Q h d0 v0 a ds vs ow hnd hsep hlow r => by
  unfold fnO fnRun
  by_cases hk : vs.length + 1 = k
  · rw [if_pos hk]
    have hds : ds.length = vs.length := r.len
    have L : Rl O true (h.length, d0) (fun i => if i = 0 then a else []) Q ((d0 :: ds).map some ++ List.replicate (n - (ds.length + 1)) none) h ((v0 :: vs).map some ++ List.replicate (n - (vs.length + 1)) none) := by
      refine ⟨by simp [hds], fun i v hi hv => ?_, fun i v hi hv => ?_, fun i m hm => ?_, hlow, fun i j m h1 h2 => ?_, fun i => ?_, fun i m hm => ?_, fun _ => by simpa using h0, fun _ => by simp, Nat.le_refl _⟩
      · have hg := get_start hv
        cases i with
        | zero => exact absurd (by simpa using h0) hi
        | succ i =>
          obtain ⟨d, h1, h2⟩ := r.get (show vs[i]? = some v by simpa using hg)
          exact ⟨d, start_get (by simpa using h1), h2⟩
      · have hg := get_start hv
        have h3 := List.all_eq_true.mp hO i hi
        simp at h3
        rcases h3 with rfl | h3
        · simp at hg
          subst hg
          exact ⟨d0, start_get (by simp), by simpa using ow⟩
        · have h4 := (List.getElem?_eq_some_iff.mp hg).1
          simp at h4
          omega
      · by_cases hi : i = 0
        · simp only [hi, if_true] at hm; exact hsep m hm
        · simp [hi] at hm
      · by_cases hi : i = 0
        · by_cases hj : j = 0
          · rw [hi, hj]
          · simp [hj] at h2
        · simp [hi] at h1
      · by_cases hi : i = 0
        · simpa [hi] using hnd
        · simp [hi]
      · by_cases hi : i = 0
        · exact .inr ⟨rfl, hi⟩
        · simp [hi] at hm
    have R := hb _ _ _ _ _ _ L
    have fin : ∀ {s' : SD} {h' : HC} {A' : Nat → List Nat} {Q' : Nat → Prop} {σ : SP} {w : PV}, Rl O true (h.length, d0) A' Q' s' h' σ → Fr W (fun i => if i = 0 then a else []) A' Q Q' h h' → σ[0]? = some (some w) → FOut Q (fun m => outQ true (h.length, d0) A' Q' m ∧ m < h'.length) h h' a (A' 0) w d0 := fun {s' h' A' Q' σ w} L' F e => by
      obtain ⟨d, e1, o⟩ := L'.ow 0 w (by simpa using h0) e
      have hd : d = d0 := by
        have := L'.fix rfl
        rw [e1] at this
        simpa using this
      subst hd
      refine ⟨F.le, fun m hm hn => F.kp m hm fun j _ hj => ?_, fun m hm => ?_, L'.nd 0, fun m hm => ⟨?_, (L'.sep 0 m hm).2⟩, fun m q => q.2, fun m q => ⟨.inl (F.qq m q), Nat.lt_of_lt_of_le (hlow m q) F.le⟩, fun m q => ?_, o.mono (fun m q => ⟨.inl q, L'.low m q⟩) fun _ _ _ z => z⟩
      · by_cases hj0 : j = 0
        · simp only [hj0, if_true] at hj; exact hn hj
        · simp [hj0] at hj
      · have := F.grow 0 m hm
        simpa using this
      · rintro ⟨q | q, _⟩
        · exact (L'.sep 0 m hm).1 q
        · exact q.2 rfl hm
      · rcases q.1 with q | q
        · exact F.qn m q
        · exact .inr q.1
    have hst : ((d0 :: ds).map some ++ List.replicate (n - (d0 :: ds).length) none : SD) = (d0 :: ds).map some ++ List.replicate (n - (ds.length + 1)) none := rfl
    rw [hst]
    cases q : pf ((v0 :: vs).map some ++ List.replicate (n - (vs.length + 1)) none) with
    | nx σ =>
      rw [q] at R
      obtain ⟨s', h', A', Q', e, L', F⟩ := R
      rw [e]
      dsimp only [slot0]
      cases q2 : σ[0]? with
      | none => exact trivial
      | some o =>
        cases o with
        | none => exact trivial
        | some w => exact ⟨_, h', _, _, rfl, fin L' F q2, by simp only [Rd]⟩
    | ret v σ =>
      rw [q] at R
      obtain ⟨d, s', h', A', Q', e, L', F, r'⟩ := R
      rw [e]
      dsimp only [slot0]
      cases q2 : σ[0]? with
      | none => exact trivial
      | some o =>
        cases o with
        | none => exact trivial
        | some w => exact ⟨d, h', _, _, rfl, fin L' F q2, (Rd.low v d r')⟩
    | exc c σ =>
      rw [q] at R
      obtain ⟨s', h', A', Q', e, L', F⟩ := R
      rw [e]
      dsimp only [slot0]
      cases q2 : σ[0]? with
      | none => exact trivial
      | some o =>
        cases o with
        | none => exact trivial
        | some w => exact ⟨h', _, _, rfl, fin L' F q2⟩
    | bk σ => exact trivial
    | ct σ => exact trivial
    | bad => exact trivial
  · rw [if_neg hk]; exact trivial
/-! ### expressions that change owned things -/
inductive PQ (α : Type) where
  | ok (a : α) (σ : SP)
  | exc (c : Str) (σ : SP)
  | bad
def REx {α β : Type} (R : Rl2 α β) (O : List Nat) (io : Bool) (W : List Nat) (l0 : Nat × D) (A : Nat → List Nat) (Q : Nat → Prop) (s : SD) (h : HC) : PQ β → Res α → Prop
  | .ok v σ', x => ∃ d h' A' Q', x = .ok d h' ∧ Rl O io l0 A' Q' s h' σ' ∧ Fr W A A' Q Q' h h' ∧ R Q' h' v d
  | .exc c σ', x => ∃ h' A' Q', x = .exc c h' ∧ Rl O io l0 A' Q' s h' σ' ∧ Fr W A A' Q Q' h h'
  | .bad, _ => True
def EJ {α β : Type} (R : Rl2 α β) (O : List Nat) (io : Bool) (W : List Nat) (f : SD → HC → Res α) (p : SP → PQ β) : Prop := ∀ (l0 : Nat × D) (A : Nat → List Nat) (Q : Nat → Prop) (s : SD) (h : HC) (σ : SP), Rl O io l0 A Q s h σ → REx R O io W l0 A Q s h (p σ) (f s h)
abbrev EX := EJ Rd
abbrev ETX := EJ (RE (α := Bool))
abbrev EAX := EJ Rds
def PQ.bind {α β : Type} (r : PQ α) (f : α → SP → PQ β) : PQ β := match r with
  | .ok a σ => f a σ
  | .exc c σ => .exc c σ
  | .bad => .bad
section
variable {α β α' β' : Type} {R : Rl2 α β} {R' : Rl2 α' β'} {O W U : List Nat} {io : Bool} {l0 : Nat × D} {A A' : Nat → List Nat} {Q Q' : Nat → Prop} {s : SD} {h h' : HC} {σ σ' : SP}
theorem REx.weak {r : PQ β} {x : Res α} (F : Fr W A A' Q Q' h h') (a : REx R O io W l0 A' Q' s h' r x) : REx R O io W l0 A Q s h r x := by
  cases r with
  | ok v σ => obtain ⟨d, h1, A1, Q1, e, L1, F1, r1⟩ := a; exact ⟨d, h1, A1, Q1, e, L1, F.trans F1, r1⟩
  | exc c σ => obtain ⟨h1, A1, Q1, e, L1, F1⟩ := a; exact ⟨h1, A1, Q1, e, L1, F.trans F1⟩
  | bad => exact trivial
theorem REx.bind {ra : PQ β} {r : Res α} {kp : β → SP → PQ β'} {k : α → HC → Res α'} (ha : REx R O io W l0 A Q s h ra r)
    (hk : ∀ d h' v A' Q' σ', Rl O io l0 A' Q' s h' σ' → Fr W A A' Q Q' h h' → R Q' h' v d → REx R' O io W l0 A' Q' s h' (kp v σ') (k d h')) : REx R' O io W l0 A Q s h (ra.bind kp) (r.bind k) := by
  cases ra with
  | ok v σ => obtain ⟨d, h1, A1, Q1, rfl, L1, F1, r1⟩ := ha; exact (hk d h1 v A1 Q1 σ L1 F1 r1).weak F1
  | exc c σ => obtain ⟨h1, A1, Q1, rfl, L1, F1⟩ := ha; exact ⟨h1, A1, Q1, rfl, L1, F1⟩
  | bad => exact trivial
theorem REx.here {v : β} {d : α} (L : Rl O io l0 A Q s h σ) (r : R Q h v d) : REx R O io W l0 A Q s h (.ok v σ) (.ok d h) := ⟨d, h, A, Q, rfl, L, Fr.refl, r⟩
end
def liftP {α : Type} (p : SP → PR α) : SP → PQ α := fun σ => match p σ with
  | .ok v => .ok v σ
  | .exc c => .exc c σ
  | .bad => .bad
def liftF (p : XP) : SP → PQ PV := fun σ => match p σ with
  | .ok v => if isFl v = true then .ok v σ else .bad
  | .exc c => .exc c σ
  | .bad => .bad
def liftN (p : XP) : SP → PQ PV := fun σ => match p σ with
  | .ok (.lst vs) => if isFls vs = true then .ok (.lst vs) σ else .bad
  | .ok _ => .bad
  | .exc c => .exc c σ
  | .bad => .bad
section
variable {O W U : List Nat} {io : Bool} {a b : EE} {pa pb : SP → PQ PV} {p : XP}
theorem ex_px {f : EE} (hf : PX U f p) (hU : (U.all fun i => !O.contains i) = true := by decide) : EX O io W f (liftP p) := fun l0 A Q s h σ L => by
  have R := hf _ s h σ (L.strong hU)
  unfold liftP
  cases q : p σ with
  | bad => exact trivial
  | ok v => rw [q] at R; obtain ⟨d, h1, e, l, r⟩ := R; exact ⟨d, h1, A, _, e, L.step l, Fr.step l, rd_upto r⟩
  | exc c => rw [q] at R; obtain ⟨h1, e, l⟩ := R; exact ⟨h1, A, _, e, L.step l, Fr.step l⟩
theorem ex_pxF {f : EE} (hf : PX U f p) : EX O io W f (liftF p) := fun l0 A Q s h σ L => by
  have R := hf _ s h σ L.raw
  unfold liftF
  cases q : p σ with
  | bad => exact trivial
  | ok v =>
    rw [q] at R; obtain ⟨d, h1, e, l, r⟩ := R
    dsimp only
    split
    · rename_i hf; exact ⟨d, h1, A, _, e, L.step l, Fr.step l, Rd.flat v d hf r⟩
    · exact trivial
  | exc c => rw [q] at R; obtain ⟨h1, e, l⟩ := R; exact ⟨h1, A, _, e, L.step l, Fr.step l⟩
theorem ex_pxN {f : EE} (hf : PXN U f p) : EX O io W f (liftN p) := fun l0 A Q s h σ L => by
  have R := hf _ s h σ L.raw
  unfold liftN
  cases q : p σ with
  | bad => exact trivial
  | ok v =>
    rw [q] at R
    cases v with
    | lst vs =>
      obtain ⟨n, ds, h1, e, l, hn, e2, r⟩ := R
      dsimp only
      split
      · rename_i hfl
        have hlt := (List.getElem?_eq_some_iff.mp e2).1
        exact ⟨.ref n, h1, A, _, e, L.step l, Fr.step l, Rd.lst (.inr ⟨hn, hlt⟩) e2 (Rds.flat _ _ hfl r)⟩
      · exact trivial
    | _ => exact trivial
  | exc c => rw [q] at R; obtain ⟨h1, e, l⟩ := R; exact ⟨h1, A, _, e, L.step l, Fr.step l⟩
theorem et_px {f : ET} {p : TP} (hf : PTT U f p) : ETX O io W f (liftP p) := fun l0 A Q s h σ L => by
  have R := hf _ s h σ L.raw
  unfold liftP
  cases q : p σ with
  | bad => exact trivial
  | ok v => rw [q] at R; obtain ⟨d, h1, e, l, r⟩ := R; exact ⟨d, h1, A, _, e, L.step l, Fr.step l, r⟩
  | exc c => rw [q] at R; obtain ⟨h1, e, l⟩ := R; exact ⟨h1, A, _, e, L.step l, Fr.step l⟩
/-! the words with effects -/
def eOp (op : PV → PV → PR PV) (a b : SP → PQ PV) : SP → PQ PV := fun σ => (a σ).bind fun x σ1 => (b σ1).bind fun y σ2 => match op x y with
  | .ok v => .ok v σ2
  | .exc c => .exc c σ2
  | .bad => .bad
theorem ex_op {op : D → D → HC → Res D} {pop : PV → PV → PR PV} (ho : OX op pop) (ha : EX O io W a pa) (hb : EX O io W b pb) : EX O io W (fOp op a b) (eOp pop pa pb) := fun l0 A Q s h σ L =>
  (ha l0 A Q s h σ L).bind fun d1 h1 v1 A1 Q1 σ1 L1 F1 r1 => (hb l0 A1 Q1 s h1 σ1 L1).bind fun d2 h2 v2 A2 Q2 σ2 L2 F2 r2 => by
    have R := ho Q2 h2 v1 v2 d1 d2 (F2.rd L1 r1) r2
    cases q : pop v1 v2 with
    | bad => exact trivial
    | ok v => rw [q] at R; obtain ⟨d, h3, e, l, r⟩ := R; exact ⟨d, h3, A2, _, e, L2.step l, Fr.step l, rd_upto r⟩
    | exc c => rw [q] at R; obtain ⟨h3, e, l⟩ := R; exact ⟨h3, A2, _, e, L2.step l, Fr.step l⟩
def eNil : SP → PQ (List PV) := fun σ => .ok [] σ
def eCons (a : SP → PQ PV) (as : SP → PQ (List PV)) : SP → PQ (List PV) := fun σ => (a σ).bind fun x σ1 => (as σ1).bind fun xs σ2 => .ok (x :: xs) σ2
theorem ea_nil : EAX O io W fNil eNil := fun l0 A Q s h σ L => REx.here L Rds.nil
theorem ea_cons {as : EA} {pas : SP → PQ (List PV)} (ha : EX O io W a pa) (hb : EAX O io W as pas) : EAX O io W (fCons a as) (eCons pa pas) := fun l0 A Q s h σ L =>
  (ha l0 A Q s h σ L).bind fun d1 h1 v1 A1 Q1 σ1 L1 F1 r1 => (hb l0 A1 Q1 s h1 σ1 L1).bind fun d2 h2 v2 A2 Q2 σ2 L2 F2 r2 => REx.here L2 (.cons (F2.rd L1 r1) r2)
def eTup (as : SP → PQ (List PV)) : SP → PQ PV := fun σ => (as σ).bind fun xs σ1 => if xs.length ≤ BIG then .ok (.tup xs) σ1 else .bad
theorem ex_tup {as : EA} {pas : SP → PQ (List PV)} (ha : EAX O io W as pas) : EX O io W (fTup as) (eTup pas) := fun l0 A Q s h σ L =>
  (ha l0 A Q s h σ L).bind fun d1 h1 v1 A1 Q1 σ1 L1 F1 r1 => by
    unfold mkT
    rw [r1.len]
    split
    · exact REx.here L1 (Rd.tup r1)
    · exact trivial
def eLst (as : SP → PQ (List PV)) : SP → PQ PV := fun σ => (as σ).bind fun xs σ1 => if xs.length ≤ BIG then .ok (.lst xs) σ1 else .bad
theorem ex_lst {as : EA} {pas : SP → PQ (List PV)} (ha : EAX O io W as pas) : EX O io W (fLst as) (eLst pas) := fun l0 A Q s h σ L =>
  (ha l0 A Q s h σ L).bind fun d1 h1 v1 A1 Q1 σ1 L1 F1 r1 => by
    unfold newL
    rw [r1.len]
    split
    · exact ⟨_, _, A1, _, rfl, L1.step Le.app, Fr.step Le.app, rd_upto (new_rd r1)⟩
    · exact trivial
def eIf (c : SP → PQ Bool) (a b : SP → PQ PV) : SP → PQ PV := fun σ => (c σ).bind fun x σ1 => if x = true then a σ1 else b σ1
theorem ex_if {c : ET} {pc : SP → PQ Bool} (hc : ETX O io W c pc) (ha : EX O io W a pa) (hb : EX O io W b pb) : EX O io W (fIf c a b) (eIf pc pa pb) := fun l0 A Q s h σ L =>
  (hc l0 A Q s h σ L).bind fun d1 h1 v1 A1 Q1 σ1 L1 F1 r1 => by
    obtain rfl : v1 = d1 := r1
    cases v1
    · exact hb l0 A1 Q1 s h1 σ1 L1
    · exact ha l0 A1 Q1 s h1 σ1 L1
def eBo (a : SP → PQ PV) : SP → PQ Bool := fun σ => (a σ).bind fun x σ1 => match x with
  | .bl b => .ok b σ1
  | _ => .bad
theorem et_bo (ha : EX O io W a pa) : ETX O io W (fBo a) (eBo pa) := fun l0 A Q s h σ L => (ha l0 A Q s h σ L).bind fun d1 h1 v1 A1 Q1 σ1 L1 F1 r1 => by
  cases v1 with
  | bl b => simp only [Rd] at r1; subst r1; exact REx.here L1 rfl
  | _ => exact trivial
def eAnd (a b : SP → PQ Bool) : SP → PQ Bool := fun σ => (a σ).bind fun x σ1 => if x = true then b σ1 else .ok false σ1
def eOr (a b : SP → PQ Bool) : SP → PQ Bool := fun σ => (a σ).bind fun x σ1 => if x = true then .ok true σ1 else b σ1
def eNot (a : SP → PQ Bool) : SP → PQ Bool := fun σ => (a σ).bind fun x σ1 => .ok (!x) σ1
section
variable {f g : ET} {pf pg : SP → PQ Bool}
theorem et_and (ha : ETX O io W f pf) (hb : ETX O io W g pg) : ETX O io W (fAnd f g) (eAnd pf pg) := fun l0 A Q s h σ L => (ha l0 A Q s h σ L).bind fun d1 h1 v1 A1 Q1 σ1 L1 F1 r1 => by
  obtain rfl : v1 = d1 := r1
  cases v1
  · exact REx.here L1 rfl
  · exact hb l0 A1 Q1 s h1 σ1 L1
theorem et_or (ha : ETX O io W f pf) (hb : ETX O io W g pg) : ETX O io W (fOr f g) (eOr pf pg) := fun l0 A Q s h σ L => (ha l0 A Q s h σ L).bind fun d1 h1 v1 A1 Q1 σ1 L1 F1 r1 => by
  obtain rfl : v1 = d1 := r1
  cases v1
  · exact hb l0 A1 Q1 s h1 σ1 L1
  · exact REx.here L1 rfl
theorem et_not (ha : ETX O io W f pf) : ETX O io W (fNot f) (eNot pf) := fun l0 A Q s h σ L => (ha l0 A Q s h σ L).bind fun d1 h1 v1 A1 Q1 σ1 L1 F1 r1 => by
  obtain rfl : v1 = d1 := r1
  exact REx.here L1 rfl
end
/-! statements over them -/
def ofQ {α : Type} (r : PQ α) (k : α → SP → PS) : PS := match r with
  | .ok a σ => k a σ
  | .exc c σ => .exc c σ
  | .bad => .bad
def eExprS (a : SP → PQ PV) : ESP := fun σ => ofQ (a σ) fun _ σ1 => .nx σ1
def eSetS (i : Nat) (a : SP → PQ PV) : ESP := fun σ => ofQ (a σ) fun v σ1 => .nx (σ1.set i (some v))
def eRetS (a : SP → PQ PV) : ESP := fun σ => ofQ (a σ) fun v σ1 => .ret v σ1
def eIfS (c : SP → PQ Bool) (f g : ESP) : ESP := fun σ => ofQ (c σ) fun x σ1 => if x = true then f σ1 else g σ1
theorem sx_exprE (ha : EX O io W a pa) : SX O io W (fExpr a) (eExprS pa) := fun l0 A Q s h σ L => by
  have R := ha l0 A Q s h σ L
  unfold eExprS fExpr ofQ ofR
  cases q : pa σ with
  | bad => exact trivial
  | ok v σ1 => rw [q] at R; obtain ⟨d, h1, A1, Q1, e, L1, F1, r1⟩ := R; rw [e]; exact ⟨s, h1, A1, Q1, rfl, L1, F1⟩
  | exc c σ1 => rw [q] at R; obtain ⟨h1, A1, Q1, e, L1, F1⟩ := R; rw [e]; exact ⟨s, h1, A1, Q1, rfl, L1, F1⟩
theorem sx_setE {i : Nat} (ha : EX O io W a pa) (hi : O.contains i = false := by decide) : SX O io W (fSet i a) (eSetS i pa) := fun l0 A Q s h σ L => by
  have R := ha l0 A Q s h σ L
  unfold eSetS fSet ofQ ofR
  cases q : pa σ with
  | bad => exact trivial
  | ok v σ1 => rw [q] at R; obtain ⟨d, h1, A1, Q1, e, L1, F1, r1⟩ := R; rw [e]; exact ⟨_, h1, A1, Q1, rfl, L1.set (by simpa using hi) r1, F1⟩
  | exc c σ1 => rw [q] at R; obtain ⟨h1, A1, Q1, e, L1, F1⟩ := R; rw [e]; exact ⟨s, h1, A1, Q1, rfl, L1, F1⟩
theorem sx_retE (ha : EX O io W a pa) : SX O io W (fRet a) (eRetS pa) := fun l0 A Q s h σ L => by
  have R := ha l0 A Q s h σ L
  unfold eRetS fRet ofQ ofR
  cases q : pa σ with
  | bad => exact trivial
  | ok v σ1 => rw [q] at R; obtain ⟨d, h1, A1, Q1, e, L1, F1, r1⟩ := R; rw [e]; exact ⟨d, s, h1, A1, Q1, rfl, L1, F1, r1.sub fun _ q => .inl q⟩
  | exc c σ1 => rw [q] at R; obtain ⟨h1, A1, Q1, e, L1, F1⟩ := R; rw [e]; exact ⟨s, h1, A1, Q1, rfl, L1, F1⟩
theorem sx_ifE {c : ET} {pc : SP → PQ Bool} {f g : ES} {pf pg : ESP} (hc : ETX O io W c pc) (hf : SX O io W f pf) (hg : SX O io W g pg) : SX O io W (fIfS c f g) (eIfS pc pf pg) := fun l0 A Q s h σ L => by
  have R := hc l0 A Q s h σ L
  unfold eIfS fIfS ofQ ofR
  cases q : pc σ with
  | bad => exact trivial
  | ok v σ1 =>
    rw [q] at R; obtain ⟨d, h1, A1, Q1, e, L1, F1, r1⟩ := R; rw [e]
    obtain rfl : v = d := r1
    cases v
    · exact (hg l0 A1 Q1 s h1 σ1 L1).weak F1
    · exact (hf l0 A1 Q1 s h1 σ1 L1).weak F1
  | exc c σ1 => rw [q] at R; obtain ⟨h1, A1, Q1, e, L1, F1⟩ := R; rw [e]; exact ⟨s, h1, A1, Q1, rfl, L1, F1⟩
end
end G9

set_option Elab.async false
set_option linter.all false
set_option maxRecDepth 100000
set_option maxHeartbeats 2000000
namespace G9
open PySem L2
section
variable {O W U : List Nat} {io : Bool} {l0 : Nat × D} {A A' : Nat → List Nat} {Q Q' : Nat → Prop} {s : SD} {h h' : HC} {σ σ' : SP}
theorem Rl.call {i : Nat} {a' : List Nat} {v0 w : PV} {d0 : D} (L : Rl O io l0 A Q s h σ) (hi : i ∈ O) (hs : s[i]? = some (some d0)) (F : FOut Q Q' h h' (A i) a' w d0) (hW : i ∈ W) :
    Rl O io l0 (fun j => if j = i then a' else A j) Q' s h' (σ.set i (some w)) ∧ Fr W A (fun j => if j = i then a' else A j) Q Q' h h' := by
  have hk : ∀ n c, Q n → h[n]? = some c → h'[n]? = some c := fun n c q e => by
    rw [F.kp n (L.low n q) fun z => (L.sep i n z).1 q]
    exact e
  refine ⟨⟨by simp [L.len], fun j v hj hv => ?_, fun j v hj hv => ?_, fun j n hn => ?_, F.low, fun j k n h1 h2 => ?_, fun j => ?_, fun j n hn => ?_, L.zero, L.fix, Nat.le_trans L.l0 F.le⟩, ⟨F.le, fun n hn hj => F.kp n hn (hj i hW), fun j hj => ?_, fun j n hn => ?_, F.qq, F.qn⟩⟩
  · have e : i ≠ j := fun z => hj (z ▸ hi)
    rw [List.getElem?_set_ne e] at hv
    obtain ⟨d, h1, h2⟩ := L.sl j v hj hv
    exact ⟨d, h1, Rd.mono F.qq hk v d h2⟩
  · by_cases e : i = j
    · subst e
      have hl : i < σ.length := by
        have := (List.getElem?_eq_some_iff.mp hv).1
        simpa using this
      rw [List.getElem?_set_self hl] at hv
      cases hv
      exact ⟨d0, hs, by simpa using F.ow⟩
    · rw [List.getElem?_set_ne e] at hv
      obtain ⟨d, h1, h2⟩ := L.ow j v hj hv
      refine ⟨d, h1, ?_⟩
      simp only [Ne.symm e, if_false]
      refine h2.mono F.qq fun n c hc z => ?_
      rcases hc with q | q
      · exact hk n c q z
      · rw [F.kp n (L.sep j n q).2 fun z => e (L.dis i j n z q)]
        exact z
  · by_cases e : j = i
    · simp only [e, if_true] at hn; exact F.sep n hn
    · simp only [e, if_false] at hn
      refine ⟨fun q => ?_, Nat.lt_of_lt_of_le (L.sep j n hn).2 F.le⟩
      rcases F.qn n q with q | q
      · exact (L.sep j n hn).1 q
      · have := (L.sep j n hn).2
        omega
  · have key : ∀ k n, n ∈ a' → k ≠ i → n ∉ A k := fun k n hn hk hm => by
      rcases F.grow n hn with z | z
      · exact hk (L.dis k i n hm z)
      · have := (L.sep k n hm).2
        omega
    by_cases e : j = i
    · by_cases e2 : k = i
      · rw [e, e2]
      · simp only [e, if_true] at h1
        simp only [e2, if_false] at h2
        exact absurd h2 (key k n h1 e2)
    · simp only [e, if_false] at h1
      by_cases e2 : k = i
      · simp only [e2, if_true] at h2
        exact absurd h1 (key j n h2 e)
      · simp only [e2, if_false] at h2
        exact L.dis j k n h1 h2
  · by_cases e : j = i
    · simpa [e] using F.nd
    · simpa [e] using L.nd j
  · by_cases e : j = i
    · simp only [e, if_true] at hn
      rcases F.grow n hn with z | z
      · have := L.loc i n z
        rwa [e]
      · exact .inl (Nat.le_trans L.l0 z)
    · simp only [e, if_false] at hn
      exact L.loc j n hn
  · have : j ≠ i := fun z => hj (z ▸ hW)
    simp [this]
  · by_cases e : j = i
    · simp only [e, if_true] at hn
      rw [e]
      exact F.grow n hn
    · simp only [e, if_false] at hn
      exact .inl hn
end
/-! ### calls that change an owned slot -/
def runO (i : Nat) (po : PV → List PV → PW) (xs : List PV) (σ : SP) : PQ PV := match σ[i]? with
  | some (some v0) => (match po v0 xs with
    | .ok v w => .ok v (σ.set i (some w))
    | .exc c w => .exc c (σ.set i (some w))
    | .bad => .bad)
  | _ => .bad
def eCallO (i n : Nat) (po : PV → List PV → PW) (as : SP → PQ (List PV)) : SP → PQ PV := fun σ => match σ[i]? with
  | some (some _) => (as σ).bind fun xs σ1 => if xs.length = n then runO i po xs σ1 else .bad
  | _ => .bad
def eMethO (i : Nat) (c m : Str) (n : Nat) (po : PV → List PV → PW) (as : SP → PQ (List PV)) : SP → PQ PV := fun σ => match σ[i]? with
  | some (some (.ins c' ks vs)) => if c' = c ∧ (getV ks vs m).isNone = true then (as σ).bind fun xs σ1 => if xs.length = n then runO i po xs σ1 else .bad else .bad
  | _ => .bad
section
variable {O W U : List Nat} {io : Bool} {as : EA} {pas : SP → PQ (List PV)} {fm : List D → HC → Res D} {po : PV → List PV → PW}
theorem runO_ok {i : Nat} {l0 : Nat × D} {A : Nat → List Nat} {Q : Nat → Prop} {s : SD} {h : HC} {σ : SP} {xs : List PV} {ds : List D} {d0 : D} (hf : FO fm po) (L : Rl O io l0 A Q s h σ) (hi : i ∈ O) (hW : i ∈ W) (hs : s[i]? = some (some d0)) (r : Rds Q h xs ds) :
    REx Rd O io W l0 A Q s h (runO i po xs σ) (fm (d0 :: ds) h) := by
  unfold runO
  cases q : σ[i]? with
  | none => exact trivial
  | some o =>
    cases o with
    | none => exact trivial
    | some v0 =>
      obtain ⟨d, h1, ow⟩ := L.ow i v0 hi q
      rw [hs] at h1
      cases h1
      have R := hf Q h d0 v0 (A i) ds xs ow (L.nd i) (L.sep i) L.low r
      dsimp only
      cases q2 : po v0 xs with
      | bad => exact trivial
      | ok v w =>
        rw [q2] at R
        obtain ⟨d, h', a', Q', e, F, r'⟩ := R
        obtain ⟨L2, F2⟩ := L.call (v0 := v0) (W := W) hi hs F hW
        exact ⟨d, h', _, Q', e, L2, F2, r'⟩
      | exc c w =>
        rw [q2] at R
        obtain ⟨h', a', Q', e, F⟩ := R
        obtain ⟨L2, F2⟩ := L.call (v0 := v0) (W := W) hi hs F hW
        exact ⟨h', _, Q', e, L2, F2⟩
theorem ex_call {i n : Nat} (hf : FO fm po) (ha : EAX O io W as pas) (hi : O.contains i = true := by decide) (hW : W.contains i = true := by decide) : EX O io W (fCall (n + 1) fm (fCons (fVar i) as)) (eCallO i n po pas) := fun l0 A Q s h σ L => by
  unfold eCallO
  split
  · rename_i v0 q
    obtain ⟨d0, h1, ow⟩ := L.ow i v0 (by simpa using hi) q
    have e0 : fCall (n + 1) fm (fCons (fVar i) as) s h = (as s h).bind fun ds h1 => if ds.length = n then fm (d0 :: ds) h1 else .bad := by
      simp only [fCall, fCons, fVar, h1, Res.bind]
      cases as s h <;> simp [Res.bind]
    rw [e0]
    refine (ha l0 A Q s h σ L).bind fun d1 h2 v1 A1 Q1 σ1 L1 F1 r1 => ?_
    rw [r1.len]
    split
    · exact runO_ok hf L1 (by simpa using hi) (by simpa using hW) h1 r1
    · exact trivial
  · exact trivial
theorem ex_meth {i n : Nat} {c m : Str} (hf : FO fm po) (ha : EAX O io W as pas) (hi : O.contains i = true := by decide) (hW : W.contains i = true := by decide) : EX O io W (fMeth c m n fm (fVar i) as) (eMethO i c m n po pas) := fun l0 A Q s h σ L => by
  unfold eMethO
  split
  · rename_i c' ks vs q
    split
    · rename_i hc
      obtain ⟨rfl, hn⟩ := hc
      obtain ⟨d0, h1, ow⟩ := L.ow i _ (by simpa using hi) q
      obtain ⟨n', kvs, hd, _, e, hk, rs, ei⟩ := rd_ins ow.rd.all
      have hl : kvs.lookup m = none := (look_get (x := m) rs).2 (by rw [hk]; exact Option.isNone_iff_eq_none.mp hn)
      have e0 : fMeth c' m n fm (fVar i) as s h = (as s h).bind fun ds h1 => if ds.length = n then fm (d0 :: ds) h1 else .bad := by
        simp only [fMeth, fVar, h1, Res.bind, ei, hl, if_true]
      rw [e0]
      refine (ha l0 A Q s h σ L).bind fun d1 h2 v1 A1 Q1 σ1 L1 F1 r1 => ?_
      rw [r1.len]
      split
      · exact runO_ok hf L1 (by simpa using hi) (by simpa using hW) h1 r1
      · exact trivial
    · exact trivial
  · exact trivial
end
/-! ### new things that are owned -/
def RPO (Q : Nat → Prop) (h : HC) : PR PV → Res D → Prop
  | .ok v, x => ∃ d h' a, x = .ok d h' ∧ Le h h' ∧ (∀ n ∈ a, h.length ≤ n ∧ n < h'.length) ∧ a.Nodup ∧ Ow (fun m => up Q h.length m ∧ m ∉ a) h' v d a
  | .exc c, x => ∃ h', x = .exc c h' ∧ Le h h'
  | .bad, _ => True
def PXO (U : List Nat) (f : EE) (p : XP) : Prop := ∀ (Q : Nat → Prop) (s : SD) (h : HC) (σ : SP), En U Q s h σ → RPO Q h (p σ) (f s h)
def CXO (f : List D → HC → Res D) (pf : List PV → PR PV) : Prop := ∀ (Q : Nat → Prop) (h : HC) (vs : List PV) (ds : List D), Rds Q h vs ds → RPO Q h (pf vs) (f ds h)
section
variable {U U' : List Nat} {as : EA} {pas : AP} {fm : List D → HC → Res D} {po : PV → List PV → PW} {pf : List PV → PR PV} {Q : Nat → Prop} {h h1 : HC}
theorem RPO.rp {r : PR PV} {x : Res D} (a : RPO Q h r x) : RP Rd Q h r x := by
  cases r with
  | ok v =>
    obtain ⟨d, h', a, e, l, ha, _, o⟩ := a
    refine ⟨d, h', e, l, o.rd.sub ?_⟩
    rintro n (q | q)
    · exact q.1
    · exact .inr (ha n q).1
  | exc c => exact a
  | bad => exact trivial
theorem PXO.px {f : EE} {p : XP} (x : PXO U f p) : PX U f p := fun Q s h σ E => (x Q s h σ E).rp
theorem CXO.cx (x : CXO fm pf) : CX fm pf := fun Q h vs ds r => (x Q h vs ds r).rp
theorem RPO.weak {Q1 : Nat → Prop} {r : PR PV} {x : Res D} (l : Le h h1) (hq : ∀ n, Q1 n → up Q h.length n) (a : RPO Q1 h1 r x) : RPO Q h r x := by
  cases r with
  | ok v =>
    obtain ⟨d, h2, b, e, l2, hb, nd, o⟩ := a
    refine ⟨d, h2, b, e, l.trans l2, fun n hn => ⟨Nat.le_trans l.len (hb n hn).1, (hb n hn).2⟩, nd, o.mono (fun m hm => ⟨?_, hm.2⟩) fun _ _ _ z => z⟩
    rcases hm.1 with q | q
    · exact hq m q
    · exact .inr (Nat.le_trans l.len q)
  | exc c =>
    obtain ⟨h2, e, l2⟩ := a
    exact ⟨h2, e, l.trans l2⟩
  | bad => exact trivial
theorem RP.bindO {α β : Type} {R : Rl2 α β} {ra : PR β} {r : Res α} {kp : β → PR PV} {k : α → HC → Res D} (ha : RP R Q h ra r)
    (hk : ∀ d h' v, Le h h' → R (up Q h.length) h' v d → RPO (up Q h.length) h' (kp v) (k d h')) : RPO Q h (ra.bind kp) (r.bind k) := by
  cases ra with
  | ok v =>
    obtain ⟨d, h', rfl, l, q⟩ := ha
    exact (hk d h' v l q).weak l (fun _ q => q)
  | exc c =>
    obtain ⟨h', rfl, l⟩ := ha
    exact ⟨h', rfl, l⟩
  | bad => exact trivial
theorem pxo_call {n : Nat} (hf : CXO fm pf) (ha : PAA U as pas) : PXO U (fCall n fm as) (pCall n pf pas) := fun Q s h σ E => (ha Q s h σ E).bindO fun d h' v l r => by
  rw [r.len]
  split
  · exact hf _ h' v d r
  · exact trivial
/-- C(e ..) -/
def makeV (c : Str) (po : PV → List PV → PW) (xs : List PV) : PR PV := match po (.ins c [] []) xs with
  | .ok .non w => .ok w
  | .ok _ _ => .bad
  | .exc c' _ => .exc c'
  | .bad => .bad
def pMake (c : Str) (n : Nat) (po : PV → List PV → PW) (as : AP) : XP := fun σ => (as σ).bind fun xs => if xs.length = n then makeV c po xs else .bad
theorem make_ok {c : Str} {xs : List PV} {ds : List D} (hf : FO fm po) (r : Rds Q h xs ds) : RPO Q h (makeV c po xs) ((fm (.ref h.length :: ds) (h ++ [.ins c []])).bind fun v h2 => (match v with | .non => .ok (D.ref h.length) h2 | _ => .bad)) := by
  have r1 : Rds (fun m => Q m ∧ m < h.length) (h ++ [.ins c []]) xs ds := (Rds.low _ _ r).le Le.app
  have R := hf (fun m => Q m ∧ m < h.length) (h ++ [.ins c []]) (.ref h.length) (.ins c [] []) [h.length] ds xs ⟨h.length, [], [], rfl, rfl, last_get, rfl, rfl, rfl⟩ (by simp) (fun n hn => by
    simp at hn
    subst hn
    exact ⟨fun q => by omega, by simp⟩) (fun n q => by simp; omega) r1
  have hle : ∀ {Q' : Nat → Prop} {h' : HC} {a' : List Nat} {w : PV}, FOut (fun m => Q m ∧ m < h.length) Q' (h ++ [.ins c []]) h' [h.length] a' w (.ref h.length) → Le h h' := fun F => Le.of (Nat.le_trans (by simp) F.le) fun n hn => by
    rw [F.kp n (by simp; omega) (by simp; omega), List.getElem?_append_left hn]
  unfold makeV
  cases q : po (.ins c [] []) xs with
  | bad => exact trivial
  | exc c' w =>
    rw [q] at R
    obtain ⟨h', a', Q', e, F⟩ := R
    rw [e]
    exact ⟨h', rfl, hle F⟩
  | ok v w =>
    rw [q] at R
    obtain ⟨d, h', a', Q', e, F, r'⟩ := R
    cases v with
    | non =>
      simp only [Rd] at r'
      subst r'
      rw [e]
      refine ⟨_, h', a', rfl, hle F, fun n hn => ⟨?_, (F.sep n hn).2⟩, F.nd, F.ow.mono (fun n q => ⟨?_, fun z => (F.sep n z).1 q⟩) fun _ _ _ z => z⟩
      · rcases F.grow n hn with z | z
        · simp at z; omega
        · simp at z; omega
      · rcases F.qn n q with z | z
        · exact .inl z.1
        · simp at z
          exact .inr (by omega)
    | _ => exact trivial
theorem pxo_make {c : Str} {n : Nat} (hf : FO fm po) (ha : PAA U as pas) : PXO U (fMake c n fm as) (pMake c n po pas) := fun Q s h σ E => (ha Q s h σ E).bindO fun d h' v l r => by
  rw [r.len]
  split
  · exact make_ok hf r
  · exact trivial
theorem pxo_disp0 : PXO [] fDisp0 pDisp0 := fun Q s h σ E => ⟨_, _, [h.length], rfl, Le.app, by simp, by simp, h.length, [], rfl, rfl, last_get, rfl, Rds.nil⟩
theorem pxo_disp {r : List (EE × EE)} {pr : List (XP × XP)} (hp : PPX U r pr) : PXO U (fDisp r) (pDisp pr) := fun Q s h σ E => (pairs_ok hp Q s h σ E).bindO fun ds h' vs l r => by
  cases q : keysPV vs with
  | none => exact trivial
  | some kws =>
    obtain ⟨kvs, e1, e2, e3⟩ := keys_ok r q
    have hl : kvs.length = kws.length := by simpa using congrArg List.length e2
    simp only [e1, hl]
    split
    · have m := merge_rds (kvs := []) (vs := []) e2 e3 Rds.nil
      refine ⟨_, _, [h'.length], rfl, Le.app, by simp, by simp, h'.length, mergeD kvs, rfl, rfl, last_get, m.1, ?_⟩
      exact ((Rds.low _ _ m.2).le Le.app).sub fun n hn => ⟨.inl hn.1, by simp; omega⟩
    · exact trivial
end
def pSetW (i : Nat) (a : XP) : ESP := fun σ => ofP σ (a σ) fun v => .nx (σ.set i (some v))
section
variable {O W U : List Nat} {io : Bool} {l0 : Nat × D} {A : Nat → List Nat} {Q : Nat → Prop} {s : SD} {h h' : HC} {σ : SP} {a : EE} {pa : XP}
theorem Rl.newW {i : Nat} {v : PV} {d : D} {b : List Nat} (L : Rl O io l0 A Q s h σ) (l : Le h h') (hi : i ∈ O) (hio : ¬ (io = true ∧ i = 0)) (hb : ∀ n ∈ b, h.length ≤ n ∧ n < h'.length) (nd : b.Nodup) (o : Ow (fun m => up Q h.length m ∧ m ∉ b) h' v d b) (hW : i ∈ W) :
    Rl O io l0 (fun j => if j = i then b else A j) (fun m => upto Q h.length h'.length m ∧ m ∉ b) (s.set i (some d)) h' (σ.set i (some v)) ∧ Fr W A (fun j => if j = i then b else A j) Q (fun m => upto Q h.length h'.length m ∧ m ∉ b) h h' := by
  have L1 := L.step l
  have hQ : ∀ m, Q m → m ∉ b := fun m q z => by have := L.low m q; have := (hb m z).1; omega
  have L2 : Rl O io l0 A (fun m => upto Q h.length h'.length m ∧ m ∉ b) s h' σ := by
    refine ⟨L.len, fun j w hj hw => ?_, fun j w hj hw => ?_, fun j m hm => ?_, fun m q => L1.low m q.1, L.dis, L.nd, L.loc, L.zero, L.fix, L1.l0⟩
    · obtain ⟨d, h1, h2⟩ := L.sl j w hj hw
      exact ⟨d, h1, Rd.mono (fun m q => ⟨.inl q, hQ m q⟩) (fun _ _ _ z => l.get z) _ _ h2⟩
    · obtain ⟨d, h1, h2⟩ := L.ow j w hj hw
      exact ⟨d, h1, h2.mono (fun m q => ⟨.inl q, hQ m q⟩) (fun _ _ _ z => l.get z)⟩
    · exact ⟨fun q => (L1.sep j m hm).1 q.1, (L1.sep j m hm).2⟩
  have o2 : Ow (fun m => upto Q h.length h'.length m ∧ m ∉ b) h' v d b := by
    have hlow : Ow (fun m => (up Q h.length m ∧ m ∉ b) ∧ m < h'.length) h' v d b := o.low
    exact hlow.mono (fun m hm => ⟨hm.1.1.imp id fun z => ⟨z, hm.2⟩, hm.1.2⟩) fun _ _ _ z => z
  refine ⟨L2.setO hi hio o2 (fun m hm => ?_) nd, ⟨l.len, fun m hm _ => ?_, fun j hj => ?_, fun j m hm => ?_, fun m q => ⟨.inl q, hQ m q⟩, fun m q => q.1.imp id (·.1)⟩⟩
  · refine ⟨fun q => q.2 hm, (hb m hm).2, Nat.le_trans L.l0 (hb m hm).1, fun j _ hj => ?_⟩
    have h1 := (L.sep j m hj).2
    have h2 := (hb m hm).1
    omega
  · obtain ⟨x, rfl⟩ := l
    exact List.getElem?_append_left hm
  · have : j ≠ i := fun z => hj (z ▸ hW)
    simp [this]
  · by_cases ej : j = i
    · simp only [ej, if_true] at hm
      exact .inr (hb m hm).1
    · simp only [ej, if_false] at hm
      exact .inl hm
end
end G9

set_option Elab.async false
set_option linter.all false
set_option maxRecDepth 100000
set_option maxHeartbeats 2000000
namespace G9
open PySem L2
/-! ### fields of an owned instance -/
section
variable {Q : Nat → Prop} {h : HC}
theorem Ows.put {v : PV} {d : D} {a1 : List Nat} (f : Str) (o1 : Ow1 Q h v d a1) : ∀ {kvs : List (Str × D)} {vs : List PV} {a : List Nat}, Ows Q h vs (kvs.map Prod.snd) a →
    ∃ a2, Ows Q h (putVs1 (kvs.map Prod.fst) vs f v) ((putFD f d kvs).map Prod.snd) a2 ∧ (∀ n ∈ a2, n ∈ a ∨ n ∈ a1) ∧ (a.Nodup → a1.Nodup → (∀ n ∈ a1, n ∉ a) → a2.Nodup)
  | [], [], a, o => by
    obtain ⟨_, rfl⟩ := o
    exact ⟨a1, ⟨d, [], a1, [], rfl, by simp, o1, rfl, rfl⟩, fun n hn => .inr hn, fun _ h1 _ => h1⟩
  | [], v' :: vs, a, o => by
    obtain ⟨d', ds', b1, b2, e, _⟩ := o
    simp at e
  | p :: kvs, [], a, o => by
    have := o.1
    simp at this
  | p :: kvs, v' :: vs, a, o => by
    obtain ⟨d', ds', b1, b2, e, rfl, ob, or'⟩ := o
    simp only [List.map_cons, List.cons.injEq] at e
    obtain ⟨rfl, rfl⟩ := e
    simp only [List.map_cons, putVs1, putFD]
    by_cases hk : p.1 = f
    · simp only [hk, if_true]
      refine ⟨a1 ++ b2, ⟨d, _, a1, b2, rfl, rfl, o1, or'⟩, fun n hn => ?_, fun ha h1 hd => ?_⟩
      · rcases List.mem_append.mp hn with z | z
        · exact .inr z
        · exact .inl (List.mem_append_right _ z)
      · rw [List.nodup_append] at ha ⊢
        exact ⟨h1, ha.2.1, fun x hx y hy e => hd x hx (List.mem_append_right _ (e ▸ hy))⟩
    · simp only [hk, if_false]
      obtain ⟨a2, oa, hm, hn⟩ := Ows.put f o1 or'
      refine ⟨b1 ++ a2, ⟨p.2, _, b1, a2, rfl, rfl, ob, oa⟩, fun n hn' => ?_, fun ha h1 hd => ?_⟩
      · rcases List.mem_append.mp hn' with z | z
        · exact .inl (List.mem_append_left _ z)
        · exact (hm n z).imp (List.mem_append_right _) id
      · rw [List.nodup_append] at ha ⊢
        refine ⟨ha.1, hn ha.2.1 h1 fun n z q => hd n z (List.mem_append_right _ q), fun x hx y hy e => ?_⟩
        rcases hm y hy with z | z
        · exact ha.2.2 x hx y z e
        · exact hd y z (List.mem_append_left _ (e ▸ hx))
/-- a list under a field -/
theorem Ows.upd (f : Str) : ∀ {kvs : List (Str × D)} {vs : List PV} {a : List Nat} {xs : List PV}, Ows Q h vs (kvs.map Prod.snd) a → getV (kvs.map Prod.fst) vs f = some (.lst xs) → a.Nodup → (∀ n ∈ a, ¬ Q n ∧ n < h.length) →
    ∃ m ds, kvs.lookup f = some (.ref m) ∧ m ∈ a ∧ h[m]? = some (.lst ds) ∧ Rds Q h xs ds ∧ ∀ (xs' : List PV) (ds' : List D), Rds Q h xs' ds' → Ows Q (h.set m (.lst ds')) (putVs1 (kvs.map Prod.fst) vs f (.lst xs')) (kvs.map Prod.snd) a
  | [], vs, a, xs, o, g, _, _ => by cases vs <;> simp [getV] at g
  | p :: kvs, [], a, xs, o, g, _, _ => by simp [getV] at g
  | p :: kvs, v' :: vs, a, xs, o, g, hnd, hs => by
    obtain ⟨d', ds', b1, b2, e, rfl, ob, or'⟩ := o
    simp only [List.map_cons, List.cons.injEq] at e
    obtain ⟨rfl, rfl⟩ := e
    obtain ⟨k, d⟩ := p
    rw [List.nodup_append] at hnd
    simp only [List.map_cons, getV] at g
    by_cases hk : k = f
    · subst hk
      simp only [if_true, Option.some.injEq] at g
      subst g
      obtain ⟨m, ds, rfl, rfl, e3, r⟩ := ob
      refine ⟨m, ds, by simp [List.lookup_cons], by simp, e3, r, fun xs' ds' r' => ?_⟩
      have hlt := (hs m (by simp)).2
      have hm : ∀ n c, (Q n ∨ n ∈ b2) → h[n]? = some c → (h.set m (.lst ds'))[n]? = some c := fun n c hc z => by
        rw [List.getElem?_set_ne]
        · exact z
        · rintro rfl
          rcases hc with q | q
          · exact (hs m (by simp)).1 q
          · exact hnd.2.2 m (by simp) m q rfl
      simp only [List.map_cons, putVs1, if_true]
      exact ⟨.ref m, _, [m], b2, rfl, rfl, ⟨m, ds', rfl, rfl, by simp [hlt], Rds.mono (fun _ q => q) (fun n c q z => hm n c (.inl q) z) _ _ r'⟩, Ows.mono (fun _ q => q) hm or'⟩
    · simp only [hk, if_false] at g
      obtain ⟨m, ds, h1, h2, h3, h4, h5⟩ := Ows.upd f or' g hnd.2.1 fun n hn => hs n (List.mem_append_right _ hn)
      have hkf : (f == k) = false := by simpa using fun z : f = k => hk z.symm
      refine ⟨m, ds, by simp [List.lookup_cons, hkf, h1], List.mem_append_right _ h2, h3, h4, fun xs' ds' r' => ?_⟩
      simp only [List.map_cons, putVs1, hk, if_false]
      refine ⟨d, _, b1, b2, rfl, rfl, ob.mono (fun _ q => q) fun n c hc z => ?_, h5 xs' ds' r'⟩
      rw [List.getElem?_set_ne]
      · exact z
      · rintro rfl
        rcases hc with q | q
        · exact (hs m (List.mem_append_right _ h2)).1 q
        · exact hnd.2.2 m q m h2 rfl
end
section
variable {O W U : List Nat} {io : Bool} {l0 : Nat × D} {A : Nat → List Nat} {Q : Nat → Prop} {s : SD} {h h1 : HC} {σ : SP} {a : EE} {pa : XP}
theorem Rl.insO {i : Nat} {c : Str} {ks : List Str} {vs : List PV} (L : Rl O io l0 A Q s h σ) (hi : i ∈ O) (q : σ[i]? = some (some (.ins c ks vs))) : ∃ n kvs a', s[i]? = some (some (.ref n)) ∧ A i = n :: a' ∧ h[n]? = some (.ins c kvs) ∧ kvs.map Prod.fst = ks ∧ Ows Q h vs (kvs.map Prod.snd) a' := by
  obtain ⟨d, hd, n, kvs, a', rfl, e2, e3, e4, o⟩ := L.ow i _ hi q
  exact ⟨n, kvs, a', hd, e2, e3, e4, o⟩
theorem fld_out {i : Nat} {c f : Str} {ks : List Str} {vs : List PV} {v : PV} {d : D} {a1 : List Nat} (L : Rl O io l0 A Q s h σ) (hi : i ∈ O) (q : σ[i]? = some (some (.ins c ks vs))) (l : Le h h1)
    (o1 : Ow1 (fun m => upto Q h.length h1.length m ∧ m ∉ a1) h1 v d a1) (ha1 : ∀ n ∈ a1, h.length ≤ n ∧ n < h1.length) (nd1 : a1.Nodup) :
    ∃ n kvs a', s[i]? = some (some (.ref n)) ∧ h1[n]? = some (.ins c kvs) ∧ kvs.map Prod.fst = ks ∧ FOut Q (fun m => upto Q h.length h1.length m ∧ m ∉ a1) h (h1.set n (.ins c (putFD f d kvs))) (A i) a' (.ins c (putKs1 ks f) (putVs1 ks vs f v)) (.ref n) := by
  obtain ⟨n, kvs, b, hs, hA, hn, rfl, o⟩ := L.insO hi q
  have hnA : n ∈ A i := by rw [hA]; simp
  have hnlt := (L.sep i n hnA).2
  have hQ : ∀ m, Q m → m ∉ a1 := fun m q z => by have := L.low m q; have := (ha1 m z).1; omega
  have o' : Ows (fun m => upto Q h.length h1.length m ∧ m ∉ a1) h1 vs (kvs.map Prod.snd) b := o.mono (fun m q => ⟨.inl q, hQ m q⟩) fun m c _ z => l.get z
  obtain ⟨a2, oa, hm, hnd⟩ := Ows.put f o1 o'
  have hb : ∀ m ∈ b, m ∈ A i := fun m hm => by rw [hA]; exact List.mem_cons_of_mem _ hm
  have hdis : ∀ m ∈ a1, m ∉ b := fun m z w => by have := (ha1 m z).1; have := (L.sep i m (hb m w)).2; omega
  have hndA := L.nd i
  rw [hA] at hndA
  have hn2 : n ∉ a2 := fun z => by
    rcases hm n z with w | w
    · exact (List.nodup_cons.mp hndA).1 w
    · have := (ha1 n w).1; omega
  have hup : ∀ m, upto Q h.length h1.length m ∧ m ∉ a1 → m ≠ n := fun m hm z => by
    subst z
    rcases hm.1 with q | q
    · exact (L.sep i m hnA).1 q
    · omega
  refine ⟨n, kvs, n :: a2, hs, l.get hn, rfl, ⟨by simpa using l.len, fun m hlt hA' => ?_, fun m hm' => ?_, List.nodup_cons.mpr ⟨hn2, hnd (List.nodup_cons.mp hndA).2 nd1 hdis⟩, fun m hm' => ⟨fun z => ?_, ?_⟩, fun m z => ?_, fun m q => ⟨.inl q, hQ m q⟩, fun m z => z.1.imp id (·.1), ⟨n, putFD f d kvs, a2, rfl, rfl, ?_, putFD_fst, ?_⟩⟩⟩
  · rw [List.getElem?_set_ne (show n ≠ m from fun z => hA' (by rw [← z]; exact hnA))]
    obtain ⟨e, rfl⟩ := l
    exact List.getElem?_append_left hlt
  · rcases List.mem_cons.mp hm' with rfl | z
    · exact .inl hnA
    · rcases hm m z with w | w
      · exact .inl (hb m w)
      · exact .inr (ha1 m w).1
  · rcases List.mem_cons.mp hm' with rfl | w
    · exact hup m z rfl
    · rcases hm m w with w | w
      · rcases z.1 with q | q
        · exact (L.sep i m (hb m w)).1 q
        · have := (L.sep i m (hb m w)).2; omega
      · exact z.2 w
  · have hl := l.len
    rcases List.mem_cons.mp hm' with rfl | w
    · simp; omega
    · rcases hm m w with w | w
      · have := (L.sep i m (hb m w)).2; simp; omega
      · have := (ha1 m w).2; simpa using this
  · have hl := l.len
    rcases z.1 with q | q
    · have := L.low m q; simp; omega
    · simpa using q.2
  · rw [List.getElem?_set_self (by have := l.len; omega)]
  · refine Ows.mono (fun _ q => q) (fun m c' hc z => ?_) oa
    rw [List.getElem?_set_ne]
    · exact z
    · intro z'
      rcases hc with q | q
      · exact hup m q z'.symm
      · exact hn2 (z' ▸ q)
end
def setFldV (i : Nat) (c f : Str) (v : PV) (σ : SP) : PS := match σ[i]? with
  | some (some (.ins c' ks vs)) => if c' = c ∧ ks.length < 1000 then .nx (σ.set i (some (.ins c (putKs1 ks f) (putVs1 ks vs f v)))) else .bad
  | _ => .bad
def pSetFldF (i : Nat) (c f : Str) (a : XP) : ESP := fun σ => ofP σ (a σ) fun v => if isFl v = true then setFldV i c f v σ else .bad
def pSetFldN (i : Nat) (c f : Str) (a : XP) : ESP := fun σ => ofP σ (a σ) fun v => match v with
  | .lst vs => if isFls vs = true then setFldV i c f (.lst vs) σ else .bad
  | _ => .bad
section
variable {O W U : List Nat} {io : Bool} {l0 : Nat × D} {A : Nat → List Nat} {Q : Nat → Prop} {s : SD} {h h1 : HC} {σ : SP} {a : EE} {pa : XP} {c f : Str}
theorem setFld_core {i : Nat} {v : PV} {d : D} {a1 : List Nat} (L : Rl O io l0 A Q s h σ) (hi : i ∈ O) (hW : i ∈ W) (l : Le h h1) (o1 : Ow1 (fun m => upto Q h.length h1.length m ∧ m ∉ a1) h1 v d a1) (ha1 : ∀ n ∈ a1, h.length ≤ n ∧ n < h1.length) (nd1 : a1.Nodup) :
    RSp O io W l0 A Q h (setFldV i c f v σ) (ofR s (fVar i s h1) fun x h2 => match insAt c h2 x with | some (n, fs) => if fs.length < 1000 then .nx s (h2.set n (.ins c (putFD f d fs))) else .bad | none => .bad) := by
  unfold setFldV
  split
  · rename_i c' ks vs q
    split
    · rename_i hc
      obtain ⟨rfl, hlen⟩ := hc
      obtain ⟨n, kvs, a', hs, hn, hk, F⟩ := fld_out (f := f) L hi q l o1 ha1 nd1
      have hl : kvs.length < 1000 := by rw [← hk] at hlen; simpa using hlen
      obtain ⟨L2, F2⟩ := L.call (v0 := .non) (W := W) hi hs F hW
      simp only [fVar, hs, ofR, insAt, hn, if_true, hl]
      exact ⟨s, _, _, _, rfl, L2, F2⟩
    · exact trivial
  · exact trivial
theorem sx_fldF {i : Nat} (ha : PX U a pa) (hi : O.contains i = true := by decide) (hW : W.contains i = true := by decide) : SX O io W (fSetFld c f (fVar i) a) (pSetFldF i c f pa) := fun l0 A Q s h σ L => by
  have R := ha _ s h σ L.raw
  unfold pSetFldF fSetFld ofP
  cases q : pa σ with
  | bad => exact trivial
  | exc c => rw [q] at R; obtain ⟨h1, e, l⟩ := R; rw [e]; exact ⟨s, h1, A, _, rfl, L.step l, Fr.step l⟩
  | ok v =>
    rw [q] at R; obtain ⟨d, h1, e, l, r⟩ := R; rw [e]
    dsimp only
    split
    · rename_i hf
      have ho : Ow1 (fun m => upto Q h.length h1.length m ∧ m ∉ ([] : List Nat)) h1 v d [] := by
        have hr : Rd (fun m => upto Q h.length h1.length m ∧ m ∉ ([] : List Nat)) h1 v d := Rd.flat v d hf r
        cases v with
        | lst vs => simp [isFl] at hf
        | dk ks vs => simp [isFl] at hf
        | dt ks vs => simp [isFl] at hf
        | ins c ks vs => simp [isFl] at hf
        | _ => exact ⟨rfl, hr⟩
      exact setFld_core L (by simpa using hi) (by simpa using hW) l ho (by simp) (by simp)
    · exact trivial
theorem sx_fldN {i : Nat} (ha : PXN U a pa) (hi : O.contains i = true := by decide) (hW : W.contains i = true := by decide) : SX O io W (fSetFld c f (fVar i) a) (pSetFldN i c f pa) := fun l0 A Q s h σ L => by
  have R := ha _ s h σ L.raw
  unfold pSetFldN fSetFld ofP
  cases q : pa σ with
  | bad => exact trivial
  | exc c => rw [q] at R; obtain ⟨h1, e, l⟩ := R; rw [e]; exact ⟨s, h1, A, _, rfl, L.step l, Fr.step l⟩
  | ok v =>
    rw [q] at R
    cases v with
    | lst vs =>
      obtain ⟨n, ds, h1, e, l, hn, e2, r⟩ := R
      rw [e]
      dsimp only
      split
      · rename_i hfl
        have hlt := (List.getElem?_eq_some_iff.mp e2).1
        exact setFld_core L (by simpa using hi) (by simpa using hW) l ⟨n, ds, rfl, rfl, e2, Rds.flat _ _ hfl r⟩ (by simp; omega) (by simp)
      · exact trivial
    | _ => exact trivial
def pAugFld (i : Nat) (c f : Str) (a : XP) : ESP := fun σ => match σ[i]? with
  | some (some (.ins c' ks vs)) => if c' = c ∧ ks.length < 1000 then (match getV ks vs f with
    | some (.int x) => ofP σ (a σ) fun v => (match v with
      | .int y => .nx (σ.set i (some (.ins c (putKs1 ks f) (putVs1 ks vs f (.int (x + y))))))
      | _ => .bad)
    | _ => .bad) else .bad
  | _ => .bad
theorem sx_fldaug {i : Nat} (ha : PX U a pa) (hi : O.contains i = true := by decide) (hW : W.contains i = true := by decide) : SX O io W (fAugFld c f (fVar i) a) (pAugFld i c f pa) := fun l0 A Q s h σ L => by
  have R := ha _ s h σ L.raw
  unfold pAugFld
  split
  · rename_i c' ks vs q
    split
    · rename_i hc
      obtain ⟨rfl, hlen⟩ := hc
      split
      · rename_i x hx
        obtain ⟨n, kvs, b, hs, hA, hn, hk, o⟩ := L.insO (by simpa using hi) q
        subst hk
        obtain ⟨dx, g1, g2⟩ := (look_get (x := f) o.rds).1 _ hx
        simp only [Rd] at g2
        subst g2
        have e0 : fAugFld c' f (fVar i) a s h = ofR s (a s h) fun y h2 => (match y, insAt c' h2 (.ref n) with
            | .int j, some (n, fs2) => if fs2.length < 1000 then .nx s (h2.set n (.ins c' (putFD f (.int (x + j)) fs2))) else .bad
            | _, _ => .bad) := by
          simp only [fAugFld, fVar, hs, ofR, insAt, hn, if_true, g1]
          (try (cases a s h <;> rfl))
        rw [e0]
        unfold ofP
        cases q2 : pa σ with
        | bad => exact trivial
        | exc c => rw [q2] at R; obtain ⟨h1, e, l⟩ := R; rw [e]; exact ⟨s, h1, A, _, rfl, L.step l, Fr.step l⟩
        | ok v =>
          rw [q2] at R; obtain ⟨d, h1, e, l, r⟩ := R; rw [e]
          cases v with
          | int y =>
            simp only [Rd] at r
            subst r
            obtain ⟨n', kvs', a', hs', hn', hk', F⟩ := fld_out (f := f) (v := .int (x + y)) (d := .int (x + y)) (a1 := []) L (by simpa using hi) q l ⟨rfl, by simp only [Rd]⟩ (by simp) (by simp)
            rw [hs] at hs'
            cases hs'
            have hl : kvs'.length < 1000 := by rw [← hk'] at hlen; simpa using hlen
            obtain ⟨L2, F2⟩ := L.call (v0 := .non) (W := W) (by simpa using hi) hs F (by simpa using hW)
            simp only [ofR, insAt, hn', if_true, hl]
            exact ⟨s, _, _, _, rfl, L2, F2⟩
          | _ => exact trivial
      · exact trivial
    · exact trivial
  · exact trivial
/-! ### lists under fields -/
def MFl (f : D → List D → HC → Res D) (g : List PV → List PV → Option (PV × List PV)) : Prop := ∀ (Q : Nat → Prop) (h : HC) (m : Nat) (xs ys : List PV) (ds es : List D) (v : PV) (xs' : List PV), h[m]? = some (.lst ds) → Rds Q h xs ds → Rds Q h ys es → g xs ys = some (v, xs') →
  ∃ d ds', f (.ref m) es h = .ok d (h.set m (.lst ds')) ∧ Rds Q h xs' ds' ∧ Rd Q h v d ∧ isFl v = true
def eMtF (i : Nat) (c f : Str) (g : List PV → List PV → Option (PV × List PV)) (as : AP) : SP → PQ PV := fun σ => match σ[i]? with
  | some (some (.ins c' ks vs)) => if c' = c then (match getV ks vs f with
    | some (.lst xs) => (match as σ with
      | .ok ys => if isFls ys = true then (match g xs ys with
        | some (v, xs') => .ok v (σ.set i (some (.ins c ks (putVs1 ks vs f (.lst xs')))))
        | none => .bad) else .bad
      | .exc c => .exc c σ
      | .bad => .bad)
    | _ => .bad) else .bad
  | _ => .bad
theorem mtf_core {i : Nat} {mf : D → List D → HC → Res D} {g : List PV → List PV → Option (PV × List PV)} {ks : List Str} {vs ys xs xs' : List PV} {v : PV} {es : List D} (hm : MFl mf g) (L : Rl O io l0 A Q s h σ) (hi : i ∈ O) (hW : i ∈ W) (q : σ[i]? = some (some (.ins c ks vs)))
    (hx : getV ks vs f = some (.lst xs)) (l : Le h h1) (r : Rds (fun _ => True) h1 ys es) (hfl : isFls ys = true) (hg : g xs ys = some (v, xs')) : ∃ m, fFld c f (fVar i) s h = .ok (.ref m) h ∧ hasTy "list" h (.ref m) = true ∧ REx Rd O io W l0 A Q s h (.ok v (σ.set i (some (.ins c ks (putVs1 ks vs f (.lst xs')))))) (mf (.ref m) es h1) := by
  obtain ⟨n, kvs, b, hs, hA, hn, rfl, o⟩ := L.insO hi q
  have L1 := L.step l
  obtain ⟨n', kvs', b', hs', hA', hn', hk', o'⟩ := L1.insO hi q
  rw [hs] at hs'
  cases hs'
  rw [hA] at hA'
  cases hA'
  have : kvs' = kvs := by
    have := l.get hn
    rw [hn'] at this
    cases this
    rfl
  subst this
  have hndA := L.nd i
  rw [hA] at hndA
  have hsep : ∀ m ∈ b, ¬ upto Q h.length h1.length m ∧ m < h1.length := fun m hm => L1.sep i m (by rw [hA]; exact List.mem_cons_of_mem _ hm)
  obtain ⟨m, ds, g1, g2, g3, g4, g5⟩ := Ows.upd f o' hx (List.nodup_cons.mp hndA).2 hsep
  have hlt : m < h.length := (L.sep i m (by rw [hA]; exact List.mem_cons_of_mem _ g2)).2
  have g3' : h[m]? = some (.lst ds) := by
    obtain ⟨e, rfl⟩ := l
    rwa [List.getElem?_append_left hlt] at g3
  refine ⟨m, by simp [fFld, fVar, hs, Res.bind, insAt, hn, g1], by simp [hasTy, g3'], ?_⟩
  have r' : Rds (upto Q h.length h1.length) h1 ys es := Rds.flat _ _ hfl r
  obtain ⟨d, ds', e, k1, k2, k3⟩ := hm _ h1 m xs ys ds es v xs' g3 g4 r' hg
  have hmn : m ≠ n := fun z => (List.nodup_cons.mp hndA).1 (z ▸ g2)
  have F : FOut (upto Q h.length h1.length) (upto Q h.length h1.length) h1 (h1.set m (.lst ds')) (A i) (A i) (.ins c (kvs'.map Prod.fst) (putVs1 (kvs'.map Prod.fst) vs f (.lst xs'))) (.ref n) := by
    refine ⟨by simp, fun p _ hp => ?_, fun p hp => .inl hp, L.nd i, fun p hp => ⟨(L1.sep i p hp).1, by simpa using (L1.sep i p hp).2⟩, fun p hp => by simpa using L1.low p hp, fun _ z => z, fun _ z => .inl z, ?_⟩
    · rw [List.getElem?_set_ne]
      rintro rfl
      exact hp (by rw [hA]; exact List.mem_cons_of_mem _ g2)
    · rw [hA]
      exact ⟨n, kvs', b, rfl, rfl, by rw [List.getElem?_set_ne hmn]; exact hn', rfl, g5 xs' ds' k1⟩
  obtain ⟨L2, F2⟩ := L1.call (v0 := .non) (W := W) hi hs F hW
  exact ⟨d, _, _, _, e, L2, (Fr.step l).trans F2, Rd.flat v d k3 k2⟩
theorem ex_mtF {i : Nat} {mf : D → List D → HC → Res D} {g : List PV → List PV → Option (PV × List PV)} {as : EA} {pas : AP} (hm : MFl mf g) (ha : PAA U as pas) (hi : O.contains i = true := by decide) (hW : W.contains i = true := by decide) : EX O io W (fMt "list" mf (fFld c f (fVar i)) as) (eMtF i c f g pas) := fun l0 A Q s h σ L => by
  have R := ha _ s h σ L.raw
  unfold eMtF
  split
  · rename_i c' ks vs q
    split
    · rename_i hc
      subst hc
      split
      · rename_i xs hx
        cases q2 : pas σ with
        | bad => exact trivial
        | exc cc =>
          rw [q2] at R; obtain ⟨h1, e, l⟩ := R
          obtain ⟨n, kvs, b, hs, hA, hn, hk, o⟩ := L.insO (by simpa using hi) q
          subst hk
          obtain ⟨m, ds, g1, g2, g3, _⟩ := Ows.upd f o hx (by have := L.nd i; rw [hA] at this; exact (List.nodup_cons.mp this).2) fun m hm => L.sep i m (by rw [hA]; exact List.mem_cons_of_mem _ hm)
          have e0 : fMt "list" mf (fFld c' f (fVar i)) as s h = .exc cc h1 := by simp [fMt, fFld, fVar, hs, Res.bind, insAt, hn, g1, hasTy, g3, e]
          rw [e0]
          exact ⟨h1, A, _, rfl, L.step l, Fr.step l⟩
        | ok ys =>
          rw [q2] at R; obtain ⟨es, h1, e, l, r⟩ := R
          dsimp only
          split
          · rename_i hfl
            split
            · rename_i v xs' hg
              obtain ⟨m, e1, e2, R2⟩ := mtf_core hm L (by simpa using hi) (by simpa using hW) q hx l r.all hfl hg
              have e0 : fMt "list" mf (fFld c' f (fVar i)) as s h = mf (.ref m) es h1 := by simp only [fMt, e1, Res.bind, e2, if_true, e]
              rw [e0]
              exact R2
            · exact trivial
          · exact trivial
      · exact trivial
    · exact trivial
  · exact trivial
theorem ex_mtF0 {i : Nat} {mf : D → List D → HC → Res D} {g : List PV → List PV → Option (PV × List PV)} (hm : MFl mf g) (hi : O.contains i = true := by decide) (hW : W.contains i = true := by decide) : EX O io W (fMt0 "list" mf (fFld c f (fVar i))) (eMtF i c f g pNil) := fun l0 A Q s h σ L => by
  have := ex_mtF (c := c) (f := f) (O := O) (io := io) (W := W) (i := i) hm pa_nil hi hW l0 A Q s h σ L
  have e0 : fMt0 "list" mf (fFld c f (fVar i)) s h = fMt "list" mf (fFld c f (fVar i)) fNil s h := by
    unfold fMt0 fMt fNil
    rfl
  rw [e0]
  exact this
end
end G9

set_option Elab.async false
set_option linter.all false
set_option maxRecDepth 100000
set_option maxHeartbeats 2000000
namespace G9
open PySem L2
/-! ### methods of lists, by values -/
def gAppend (xs ys : List PV) : Option (PV × List PV) := match ys with
  | [y] => if xs.length < BIG then some (.non, xs ++ [y]) else none
  | _ => none
def gPop0 (xs ys : List PV) : Option (PV × List PV) := match xs, ys with
  | x :: r, [.int 0] => if isFl x = true ∧ xs.length ≤ BIG then some (x, r) else none
  | _, _ => none
def gPop (xs ys : List PV) : Option (PV × List PV) := match ys, xs[xs.length - 1]? with
  | [], some x => if isFl x = true then some (x, xs.dropLast) else none
  | _, _ => none
def gRemove (xs ys : List PV) : Option (PV × List PV) := match ys with
  | [.int k] => (match intsV xs with
    | some ns => (match ns.findIdx? fun x => decide (x = k) with
      | some j => some (.non, xs.eraseIdx j)
      | none => none)
    | none => none)
  | _ => none
section
variable {Q : Nat → Prop} {h : HC}
theorem Rds.erase : ∀ {vs : List PV} {ds : List D} (j : Nat), Rds Q h vs ds → Rds Q h (vs.eraseIdx j) (ds.eraseIdx j)
  | [], ds, j, r => by simp only [Rds] at r; subst r; simpa using Rds.nil
  | v :: vs, ds, j, r => by
    obtain ⟨d, ds', rfl, r1, r2⟩ := r.uncons
    cases j with
    | zero => exact r2
    | succ j => exact .cons r1 (Rds.erase j r2)
end
theorem mf_append : MFl mAppend gAppend := fun Q h m xs ys ds es v xs' e r r' hg => by
  unfold gAppend at hg
  split at hg
  · split at hg
    · rename_i y hl
      cases hg
      obtain ⟨d, ds', rfl, r1, r2⟩ := r'.uncons
      simp only [Rds] at r2
      subst r2
      exact ⟨.non, ds ++ [d], by simp only [mAppend, e, r.len, hl, if_true], r.append (.one r1), by simp only [Rd], rfl⟩
    · cases hg
  · cases hg
theorem mf_pop0 : MFl mPop gPop0 := fun Q h m xs ys ds es v xs' e r r' hg => by
  unfold gPop0 at hg
  split at hg
  · rename_i x rest
    split at hg
    · rename_i hc
      cases hg
      obtain ⟨d, ds', rfl, r1, r2⟩ := r.uncons
      obtain ⟨d2, ds2, rfl, r3, r4⟩ := r'.uncons
      simp only [Rds] at r4
      subst r4
      simp only [Rd] at r3
      subst r3
      refine ⟨d, ds', ?_, r2, r1, hc.1⟩
      have hs : seqIndex? 0 (d :: ds').length = some 0 := by
        simp [seqIndex?]
      simp only [mPop, e, hs]
      simp
    · cases hg
  · cases hg
theorem mf_pop : MFl mPop gPop := fun Q h m xs ys ds es v xs' e r r' hg => by
  unfold gPop at hg
  split at hg
  · rename_i x hx
    split at hg
    · rename_i hf
      cases hg
      simp only [Rds] at r'
      subst r'
      obtain ⟨d, h1, h2⟩ := r.get hx
      refine ⟨d, ds.dropLast, ?_, ?_, h2, hf⟩
      · rw [← r.len] at h1
        simp only [mPop, e, h1]
      · rw [List.dropLast_eq_take, List.dropLast_eq_take, r.len]
        exact r.take _
    · cases hg
  · cases hg
theorem mf_remove : MFl mRemove gRemove := fun Q h m xs ys ds es v xs' e r r' hg => by
  unfold gRemove at hg
  split at hg
  · rename_i k
    split at hg
    · rename_i ns hn
      split at hg
      · rename_i j hj
        cases hg
        obtain ⟨d2, ds2, rfl, r3, r4⟩ := r'.uncons
        simp only [Rds] at r4
        subst r4
        simp only [Rd] at r3
        subst r3
        exact ⟨.non, ds.eraseIdx j, by simp only [mRemove, e, intsV_eq r, hn, hj], r.erase j, by simp only [Rd], rfl⟩
      · cases hg
    · cases hg
  · cases hg
/-! ### int, str -/
def pInt : List PV → PR PV
  | [.int i] => .ok (.int i)
  | [.bl b] => .ok (.int (if b then 1 else 0))
  | _ => .bad
def pStr : List PV → PR PV
  | [.int i] => if i.natAbs.log2 < 1920 then .ok (.str (toString i)) else .bad
  | _ => .bad
theorem cx_int : CX bInt pInt := fun Q h vs ds r => by
  unfold pInt
  split
  · obtain ⟨d, ds', rfl, r1, r2⟩ := r.uncons
    simp only [Rds] at r2; subst r2
    simp only [Rd] at r1; subst r1
    exact rp_int
  · obtain ⟨d, ds', rfl, r1, r2⟩ := r.uncons
    simp only [Rds] at r2; subst r2
    simp only [Rd] at r1; subst r1
    exact rp_int
  · exact trivial
theorem cx_str : CX bStr pStr := fun Q h vs ds r => by
  unfold pStr
  split
  · obtain ⟨d, ds', rfl, r1, r2⟩ := r.uncons
    simp only [Rds] at r2; subst r2
    simp only [Rd] at r1; subst r1
    simp only [bStr]
    split
    · exact rp_str
    · exact trivial
  · exact trivial
/-! ### targets that are stored into -/
def KX (O : List Nat) (io : Bool) (W : List Nat) (k : EK) (kp : PV → SP → Option SP) : Prop := ∀ (l0 : Nat × D) (A : Nat → List Nat) (Q : Nat → Prop) (s : SD) (h : HC) (σ σ' : SP) (v : PV) (d : D), Rl O io l0 A Q s h σ → Rd Q h v d → kp v σ = some σ' →
  ∃ s' h' A' Q', k d s h = .nx s' h' ∧ Rl O io l0 A' Q' s' h' σ' ∧ Fr W A A' Q Q' h h'
def KXs (O : List Nat) (io : Bool) (W : List Nat) (k : EKs) (kp : List PV → SP → Option SP) : Prop := ∀ (l0 : Nat × D) (A : Nat → List Nat) (Q : Nat → Prop) (s : SD) (h : HC) (σ σ' : SP) (v : List PV) (d : List D), Rl O io l0 A Q s h σ → Rds Q h v d → kp v σ = some σ' →
  ∃ s' h' A' Q', k d s h = .nx s' h' ∧ Rl O io l0 A' Q' s' h' σ' ∧ Fr W A A' Q Q' h h'
def hSubD (i : Nat) (ix : XP) : PV → SP → Option SP := fun v σ => match σ[i]?, ix σ with
  | some (some (.dk ks vs)), .ok y => (match toKeyV y with
    | some k => if ks.length < 100000 then some (σ.set i (some (.dk (putKs ks k) (putVs ks vs k v)))) else none
    | none => none)
  | _, _ => none
def hSubL (i : Nat) (ix : XP) : PV → SP → Option SP := fun v σ => match σ[i]?, ix σ with
  | some (some (.lst vs)), .ok (.int j) => (match ixN vs.length j with
    | some n => some (σ.set i (some (.lst (vs.set n v))))
    | none => none)
  | _, _ => none
def hT' (n : Nat) (g : List PV → SP → Option SP) : PV → SP → Option SP := fun v σ => match v with
  | .tup xs => if xs.length = n then g xs σ else none
  | _ => none
section
variable {O W U : List Nat} {io : Bool} {fi a : EE} {pi : XP} {k : EK} {ks : EKs} {kp : PV → SP → Option SP} {kps : List PV → SP → Option SP} {pa : SP → PQ PV}
theorem kx_n {i : Nat} (hi : O.contains i = false := by decide) : KX O io W (kN i) (hN i) := fun l0 A Q s h σ σ' v d L r e => by
  simp only [hN, Option.some.injEq] at e
  subst e
  exact ⟨_, h, A, Q, rfl, L.set (by simpa using hi) r, Fr.refl⟩
theorem kx_subD {i : Nat} (hx : PX U fi pi) (hi : O.contains i = true := by decide) (hW : W.contains i = true := by decide) : KX O io W (kSub stD (fVar i) fi) (hSubD i pi) := fun l0 A Q s h σ σ' v d L r e => by
  unfold hSubD at e
  split at e
  · rename_i kk vs y q1 q2
    split at e
    · rename_i key hk
      split at e
      · rename_i hl
        cases e
        have R := hx _ s h σ L.raw
        rw [q2] at R
        obtain ⟨dy, h1, e1, l, ry⟩ := R
        obtain ⟨d0, hs, _⟩ := L.ow i _ (by simpa using hi) q1
        have L1 := L.step l
        obtain ⟨d0', hs', n, kvs, rfl, hA, hn, hk', rs⟩ := L1.ow i _ (by simpa using hi) q1
        rw [hs] at hs'
        cases hs'
        subst hk'
        have hkey : toKey dy = some key := by rw [toKeyV_eq ry]; exact hk
        have hl' : kvs.length < 100000 := by simpa using hl
        have hnA : n ∈ A i := by rw [hA]; simp
        have hlt := (L1.sep i n hnA).2
        have r1 := (Fr.step (W := W) (A := A) (Q := Q) l).rd L r
        obtain ⟨L2, F2⟩ := L1.upd (W := W) (c := .dk (putD kvs key d)) (v := .dk (putKs (kvs.map Prod.fst) key) (putVs (kvs.map Prod.fst) vs key v)) (by simpa using hi) hs hnA (by
          refine ⟨n, putD kvs key d, rfl, hA, by simp [hlt], putD_fst, ?_⟩
          refine Rds.mono (fun _ q => q) (fun m c q z => ?_) _ _ (putD_snd r1 rs)
          rw [List.getElem?_set_ne]
          · exact z
          · rintro rfl
            exact (L1.sep i n hnA).1 q) (by simpa using hW)
        refine ⟨s, _, A, _, ?_, L2, (Fr.step l).trans F2⟩
        simp only [kSub, fVar, hs, e1, stD, hn, hkey, Option.bind_some, hl', if_true]
      · cases e
    · cases e
  · cases e
theorem kx_subL {i : Nat} (hx : PX U fi pi) (hi : O.contains i = true := by decide) (hW : W.contains i = true := by decide) : KX O io W (kSub stL (fVar i) fi) (hSubL i pi) := fun l0 A Q s h σ σ' v d L r e => by
  unfold hSubL at e
  split at e
  · rename_i vs j q1 q2
    split at e
    · rename_i n hj
      cases e
      have R := hx _ s h σ L.raw
      rw [q2] at R
      obtain ⟨dy, h1, e1, l, ry⟩ := R
      simp only [Rd] at ry
      subst ry
      have L1 := L.step l
      obtain ⟨m, ds, hs, hA, hm, rs⟩ := L1.lstO (by simpa using hi) q1
      have r1 := (Fr.step (W := W) (A := A) (Q := Q) l).rd L r
      obtain ⟨L2, F2⟩ := L1.updL (W := W) (by simpa using hi) hs hA (rs.set (i := n) r1) (by simpa using hW)
      refine ⟨s, _, A, _, ?_, L2, (Fr.step l).trans F2⟩
      simp only [kSub, fVar, hs, e1, stL, hm, rs.len, hj]
    · cases e
  · cases e
theorem kxs_nil : KXs O io W ksN hsN := fun l0 A Q s h σ σ' v d L r e => by
  cases v with
  | nil =>
    simp only [hsN, Option.some.injEq] at e
    subst e
    simp only [Rds] at r
    subst r
    exact ⟨s, h, A, Q, rfl, L, Fr.refl⟩
  | cons v vs => simp [hsN] at e
theorem kxs_cons (hk : KX O io W k kp) (hks : KXs O io W ks kps) : KXs O io W (ksC k ks) (hsC kp kps) := fun l0 A Q s h σ σ' v d L r e => by
  cases v with
  | nil => simp [hsC] at e
  | cons v vs =>
    simp only [hsC] at e
    obtain ⟨d1, ds', rfl, r1, r2⟩ := r.uncons
    cases q : kp v σ with
    | none => simp [q] at e
    | some σ1 =>
      simp [q] at e
      obtain ⟨s1, h1, A1, Q1, e1, L1, F1⟩ := hk l0 A Q s h σ σ1 v d1 L r1 q
      obtain ⟨s2, h2, A2, Q2, e2, L2, F2⟩ := hks l0 A1 Q1 s1 h1 σ1 σ' vs ds' L1 (F1.rds L r2) e
      exact ⟨s2, h2, A2, Q2, by simp only [ksC, e1, e2], L2, F1.trans F2⟩
theorem kx_t {n : Nat} (hks : KXs O io W ks kps) : KX O io W (kT n ks) (hT' n kps) := fun l0 A Q s h σ σ' v d L r e => by
  cases v with
  | tup xs =>
    simp only [Rd] at r
    obtain ⟨ds, rfl, r⟩ := r
    simp only [hT'] at e
    split at e
    · rename_i hl
      obtain ⟨s1, h1, A1, Q1, e1, L1, F1⟩ := hks l0 A Q s h σ σ' xs ds L r e
      exact ⟨s1, h1, A1, Q1, by simp only [kT, r.len, hl, if_true, e1], L1, F1⟩
    · cases e
  | _ => simp [hT'] at e
def eAsgK (kp : PV → SP → Option SP) (a : SP → PQ PV) : ESP := fun σ => ofQ (a σ) fun v σ1 => match kp v σ1 with
  | some σ2 => .nx σ2
  | none => .bad
theorem sx_asgK (ha : EX O io W a pa) (hk : KX O io W k kp) : SX O io W (fAsgK k a) (eAsgK kp pa) := fun l0 A Q s h σ L => by
  have R := ha l0 A Q s h σ L
  unfold eAsgK fAsgK ofQ ofR
  cases q : pa σ with
  | bad => exact trivial
  | ok v σ1 =>
    rw [q] at R; obtain ⟨d, h1, A1, Q1, e, L1, F1, r1⟩ := R; rw [e]
    dsimp only
    cases q2 : kp v σ1 with
    | none => exact trivial
    | some σ2 =>
      obtain ⟨s2, h2, A2, Q2, e2, L2, F2⟩ := hk l0 A1 Q1 s h1 σ1 σ2 v d L1 r1 q2
      rw [e2]
      exact ⟨s2, h2, A2, Q2, rfl, L2, F1.trans F2⟩
  | exc c σ1 => rw [q] at R; obtain ⟨h1, A1, Q1, e, L1, F1⟩ := R; rw [e]; exact ⟨s, h1, A1, Q1, rfl, L1, F1⟩
theorem sx_setW {i : Nat} {p : XP} (ha : PXO U a p) (hU : (U.all fun i => !O.contains i) = true := by decide) (hi : O.contains i = true := by decide) (hW : W.contains i = true := by decide) (hio : (io && decide (i = 0)) = false := by decide) : SX O io W (fSet i a) (pSet i p) := fun l0 A Q s h σ L => by
  have R := ha _ s h σ (L.strong hU)
  have hio' : ¬ (io = true ∧ i = 0) := by rintro ⟨rfl, rfl⟩; simp at hio
  unfold pSet fSet ofP ofR
  cases q : p σ with
  | bad => exact trivial
  | exc c => rw [q] at R; obtain ⟨h1, e, l⟩ := R; rw [e]; exact ⟨s, h1, A, _, rfl, L.step l, Fr.step l⟩
  | ok v =>
    rw [q] at R
    obtain ⟨d, h1, b, e, l, hb, nd, o⟩ := R
    rw [e]
    obtain ⟨L2, F2⟩ := L.newW (W := W) l (by simpa using hi) hio' hb nd o (by simpa using hW)
    exact ⟨_, h1, _, _, rfl, L2, F2⟩
/-- d[k] += e -/
def pAugD (i : Nat) (ix v : XP) : ESP := fun σ => match σ[i]?, ix σ with
  | some (some (.dk ks vs)), .ok y => if isFl y = true then (match toKeyV y with
    | some k => (match getV ks vs k with
      | some (.int a) => ofP σ (v σ) fun z => (match z with
        | .int b => if ks.length < 100000 then .nx (σ.set i (some (.dk (putKs ks k) (putVs ks vs k (.int (a + b)))))) else .bad
        | _ => .bad)
      | _ => .bad)
    | none => .bad) else .bad
  | _, _ => .bad
end
/-! ### what is handed out is owned -/
def pSeqO (f g : ESP) : ESP := fun σ => match f σ with
  | .nx σ1 => g σ1
  | .exc c σ1 => .exc c σ1
  | _ => .bad
def SRO (O W : List Nat) (f : ES) (p : ESP) : Prop := ∀ (l0 : Nat × D) (A : Nat → List Nat) (Q : Nat → Prop) (s : SD) (h : HC) (σ : SP), Rl O false l0 A Q s h σ → match p σ with
  | .ret v σ' => ∃ d s' h' A' Q' j, f s h = .ret d h' ∧ Rl O false l0 A' Q' s' h' σ' ∧ Fr W A A' Q Q' h h' ∧ Ow Q' h' v d (A' j)
  | .exc c σ' => ∃ s' h' A' Q', f s h = .exc c s' h' ∧ Rl O false l0 A' Q' s' h' σ' ∧ Fr W A A' Q Q' h h'
  | _ => True
theorem sro_ret {O W : List Nat} {i : Nat} (hi : O.contains i = true := by decide) : SRO O W (fRet (fVar i)) (pRet (pVar i)) := fun l0 A Q s h σ L => by
  simp only [pRet, pVar, ofP]
  cases q : σ[i]? with
  | none => exact trivial
  | some o =>
    cases o with
    | none => exact trivial
    | some v =>
      obtain ⟨d, hd, ow⟩ := L.ow i v (by simpa using hi) q
      exact ⟨d, s, h, A, Q, i, by simp [fRet, fVar, hd, ofR], L, Fr.refl, ow⟩
theorem sro_seq {O W : List Nat} {f g : ES} {pf pg : ESP} (hf : SX O false W f pf) (hg : SRO O W g pg) : SRO O W (fSeq f g) (pSeqO pf pg) := fun l0 A Q s h σ L => by
  have R := hf l0 A Q s h σ L
  unfold pSeqO fSeq
  cases q : pf σ with
  | nx σ1 =>
    rw [q] at R
    obtain ⟨s1, h1, A1, Q1, e, L1, F1⟩ := R
    rw [e]
    have R2 := hg l0 A1 Q1 s1 h1 σ1 L1
    dsimp only
    cases q2 : pg σ1 with
    | ret v σ2 => rw [q2] at R2; obtain ⟨d, s2, h2, A2, Q2, j, e2, L2, F2, o⟩ := R2; exact ⟨d, s2, h2, A2, Q2, j, e2, L2, F1.trans F2, o⟩
    | exc c σ2 => rw [q2] at R2; obtain ⟨s2, h2, A2, Q2, e2, L2, F2⟩ := R2; exact ⟨s2, h2, A2, Q2, e2, L2, F1.trans F2⟩
    | _ => exact trivial
  | exc c σ1 => rw [q] at R; obtain ⟨s1, h1, A1, Q1, e, L1, F1⟩ := R; rw [e]; exact ⟨s1, h1, A1, Q1, rfl, L1, F1⟩
  | _ => exact trivial
def onlyR (pf : ESP) : ESP := fun σ => match pf σ with
  | .ret v σ' => .ret v σ'
  | .exc c σ' => .exc c σ'
  | _ => .bad
theorem cxo_fn {O W : List Nat} {k n : Nat} {f : ES} {pf : ESP} (hb : SRO O W f pf) (hO : (O.all fun i => decide (k ≤ i)) = true := by decide) : CXO (fnRun n f) (fnP k n (onlyR pf)) := fun Q h vs ds r => by
  unfold fnP fnRun onlyR
  split
  · rename_i hk
    have L : Rl O false (h.length, .non) (fun _ => []) (fun m => Q m ∧ m < h.length) (ds.map some ++ List.replicate (n - ds.length) none) h (vs.map some ++ List.replicate (n - vs.length) none) := by
      refine ⟨by simp [r.len], fun i v hi hv => ?_, fun i v hi hv => ?_, fun i m hm => by simp at hm, fun m q => q.2, fun i j m hm => by simp at hm, fun i => by simp, fun i m hm => by simp at hm, (fun z => by cases z), (fun z => by cases z), Nat.le_refl _⟩
      · obtain ⟨d, h1, h2⟩ := r.get (get_start hv)
        exact ⟨d, start_get h1, Rd.low v d h2⟩
      · have h1 := (List.getElem?_eq_some_iff.mp (get_start hv)).1
        have h2 := List.all_eq_true.mp hO i hi
        simp at h2
        omega
    have R := hb _ _ _ _ _ _ L
    have hle : ∀ {A' : Nat → List Nat} {Q' : Nat → Prop} {h' : HC}, Fr W (fun _ => []) A' (fun m => Q m ∧ m < h.length) Q' h h' → Le h h' := fun F => Le.of F.le fun m hm => F.kp m hm (by simp)
    cases q : pf (vs.map some ++ List.replicate (n - vs.length) none) with
    | ret v σ =>
      rw [q] at R
      obtain ⟨d, s', h', A', Q', j, e, L', F, o⟩ := R
      rw [e]
      refine ⟨d, h', A' j, rfl, hle F, fun m hm => ⟨?_, (L'.sep j m hm).2⟩, L'.nd j, o.mono (fun m q => ⟨?_, fun z => (L'.sep j m z).1 q⟩) fun _ _ _ z => z⟩
      · rcases F.grow j m hm with z | z
        · simp at z
        · exact z
      · exact (F.qn m q).imp (·.1) id
    | exc c σ =>
      rw [q] at R
      obtain ⟨s', h', A', Q', e, L', F⟩ := R
      rw [e]
      exact ⟨h', rfl, hle F⟩
    | _ => exact trivial
  · exact trivial
end G9

set_option Elab.async false
set_option linter.all false
set_option maxRecDepth 100000
set_option maxHeartbeats 2000000
namespace G9
open PySem L2
section
variable {O W U U' : List Nat} {io : Bool} {a b fi fv : EE} {pa pb pi pv : XP}
theorem getV_val {Q : Nat → Prop} {h : HC} {kvs : List (Key × D)} {vs : List PV} {k : Key} {v : PV} (r : Rds Q h vs (kvs.map Prod.snd)) (e : getV (kvs.map Prod.fst) vs k = some v) : ∃ d, valD kvs k = some d ∧ Rd Q h v d := (valD_get (x := k) r).1 v e
theorem sx_augD {i : Nat} (hx : PX U fi pi) (hv : PX U' fv pv) (hi : O.contains i = true := by decide) (hW : W.contains i = true := by decide) : SX O io W (fAugD (fVar i) fi fv) (pAugD i pi pv) := fun l0 A Q s h σ L => by
  unfold pAugD
  split
  · rename_i ks vs y q1 q2
    split
    · rename_i hfl
      split
      · rename_i key hk
        split
        · rename_i x hg
          have R := hx _ s h σ L.raw
          rw [q2] at R
          obtain ⟨dy, h1, e1, l, ry⟩ := R
          have L1 := L.step l
          obtain ⟨d0, hs, n, kvs, rfl, hA, hn, hk', rs⟩ := L1.ow i _ (by simpa using hi) q1
          subst hk'
          have hkey : toKey dy = some key := by rw [toKeyV_eq ry]; exact hk
          obtain ⟨dx, g1, g2⟩ := getV_val rs hg
          simp only [Rd] at g2
          subst g2
          have e0 : fAugD (fVar i) fi fv s h = ofR s (fv s h1) fun z h3 => (match z with
              | .int b => (match stD (.ref n) dy (.int (x + b)) h3 with
                | some h4 => .nx s h4
                | none => .bad)
              | _ => .bad) := by
            simp only [fAugD, fVar, hs, ofR, e1, dGet, hn, hkey, Option.map_some, g1]
            try
              cases fv s h1 with
              | ok z h3 =>
                cases z with
                | int b => dsimp only; cases stD (D.ref n) dy (D.int (x + b)) h3 <;> rfl
                | _ => rfl
              | _ => rfl
          rw [e0]
          have R2 := hv _ s h1 σ L1.raw
          unfold ofP
          cases q3 : pv σ with
          | bad => exact trivial
          | exc c => rw [q3] at R2; obtain ⟨h2, e, l2⟩ := R2; rw [e]; exact ⟨s, h2, A, _, rfl, L1.step l2, (Fr.step l).trans (Fr.step l2)⟩
          | ok v =>
            rw [q3] at R2; obtain ⟨d, h2, e, l2, r⟩ := R2; rw [e]
            cases v with
            | int b =>
              simp only [Rd] at r
              subst r
              dsimp only
              split
              · rename_i hl
                have L2 := L1.step l2
                obtain ⟨d0', hs', n', kvs', hd', hA', hn', hk'', rs'⟩ := L2.ow i _ (by simpa using hi) q1
                rw [hs] at hs'
                cases hs'
                cases hd'
                have hkk : kvs' = kvs := by
                  have := l2.get hn
                  rw [hn'] at this
                  cases this
                  rfl
                subst hkk
                have hl' : kvs'.length < 100000 := by simpa using hl
                have hnA : n ∈ A i := by rw [hA]; simp
                have hlt := (L2.sep i n hnA).2
                obtain ⟨L3, F3⟩ := L2.upd (W := W) (c := .dk (putD kvs' key (.int (x + b)))) (v := .dk (putKs (kvs'.map Prod.fst) key) (putVs (kvs'.map Prod.fst) vs key (.int (x + b)))) (by simpa using hi) hs hnA (by
                  refine ⟨n, putD kvs' key (.int (x + b)), rfl, hA, by simp [hlt], putD_fst, ?_⟩
                  refine Rds.mono (fun _ q => q) (fun m c q z => ?_) _ _ (putD_snd (by simp only [Rd]) rs')
                  rw [List.getElem?_set_ne]
                  · exact z
                  · rintro rfl
                    exact (L2.sep i n hnA).1 q) (by simpa using hW)
                refine RSp.weak ((Fr.step l).trans (Fr.step l2)) ?_
                simp only [ofR, stD, hn', hkey, Option.bind_some, hl', if_true]
                exact ⟨s, _, A, _, rfl, L3, F3⟩
              · exact trivial
            | _ => exact trivial
        · exact trivial
      · exact trivial
    · exact trivial
  · exact trivial
/-- two new things, both owned -/
def pParW (i j : Nat) (a b : XP) : ESP := fun σ => ofP σ (a σ) fun v => ofP σ (b σ) fun w => .nx ((σ.set i (some v)).set j (some w))
theorem sx_parW {i j : Nat} (ha : PXO U a pa) (hb : PXO U' b pb) (hU : (U.all fun i => !O.contains i) = true := by decide) (hU' : (U'.all fun i => !O.contains i) = true := by decide) (hi : O.contains i = true := by decide) (hj : O.contains j = true := by decide) (hWi : W.contains i = true := by decide) (hWj : W.contains j = true := by decide)
    (hio : (io && (decide (i = 0) || decide (j = 0))) = false := by decide) (hij : decide (i = j) = false := by decide) (hsi : U'.contains i = false := by decide) : SX O io W (fPar i j (fCons a (fCons b fNil))) (pParW i j pa pb) := fun l0 A Q s h σ L => by
  have hij' : i ≠ j := by simpa using hij
  have R := ha _ s h σ (L.strong hU)
  have hio1 : ¬ (io = true ∧ i = 0) := by rintro ⟨rfl, rfl⟩; simp at hio
  have hio2 : ¬ (io = true ∧ j = 0) := by rintro ⟨rfl, rfl⟩; simp at hio
  unfold pParW fPar ofP
  cases q : pa σ with
  | bad => exact trivial
  | exc c => rw [q] at R; obtain ⟨h1, e, l⟩ := R; simp only [fCons, e, Res.bind, ofR]; exact ⟨s, h1, A, _, rfl, L.step l, Fr.step l⟩
  | ok v =>
    rw [q] at R
    obtain ⟨d, h1, b1, e, l, hb1, nd1, o1⟩ := R
    -- the first one owned, the slots as they were
    obtain ⟨L2, F2⟩ := L.newW (W := W) l (by simpa using hi) hio1 hb1 nd1 o1 (by simpa using hWi)
    have E2 : En U' (fun m => upto Q h.length h1.length m ∧ m ∉ b1) s h1 σ := by
      have hQ : ∀ m, Q m → m ∉ b1 := fun m q z => by have := L.low m q; have := (hb1 m z).1; omega
      refine ⟨L.len, fun k w hk hw => ?_⟩
      have := List.all_eq_true.mp hU' k hk
      simp at this
      obtain ⟨d', h2, h3⟩ := L.sl k w this hw
      exact ⟨d', h2, Rd.mono (fun m q => ⟨.inl q, hQ m q⟩) (fun _ _ _ z => l.get z) _ _ h3⟩
    have R2 := hb _ s h1 σ E2
    dsimp only
    cases q2 : pb σ with
    | bad => exact trivial
    | exc c =>
      rw [q2] at R2
      obtain ⟨h2, e2, l2⟩ := R2
      simp only [fCons, e, Res.bind, e2, ofR]
      exact ⟨s, h2, A, _, rfl, L.step (l.trans l2), Fr.step (l.trans l2)⟩
    | ok w =>
      rw [q2] at R2
      obtain ⟨d2, h2, b2, e2, l2, hb2, nd2, o2⟩ := R2
      simp only [fCons, fNil, e, Res.bind, e2, ofR]
      obtain ⟨L3, F3⟩ := L2.newW (W := W) l2 (by simpa using hj) hio2 hb2 nd2 o2 (by simpa using hWj)
      exact ⟨_, h2, _, _, rfl, L3, F2.trans F3⟩
end
end G9

set_option Elab.async false
set_option linter.all false
set_option maxRecDepth 100000
set_option maxHeartbeats 2000000
namespace G9
open PySem L2
/-! ### comprehensions with effects -/
def eLcL (own : List Nat) (g : GP) (c : SP → PQ Bool) (a : SP → PQ PV) : List PV → SP → PQ (List PV)
  | [], σ => .ok [] σ
  | v :: vs, σ => match g v σ with
    | some σ1 => (match c σ1 with
      | .ok true σ2 => (match a σ2 with
        | .ok y σ3 => (match eLcL own g c a vs (wipeP σ3 own) with
          | .ok ys σ4 => .ok (y :: ys) σ4
          | _ => .bad)
        | _ => .bad)
      | .ok false σ2 => eLcL own g c a vs (wipeP σ2 own)
      | _ => .bad)
    | none => .bad
def eLcR (own : List Nat) (g : GP) (c : SP → PQ Bool) (a : SP → PQ PV) (xs : List PV) (σ : SP) : PQ PV := if xs.length ≤ BIG then (match eLcL own g c a xs (wipeP σ own) with
  | .ok ys σ' => .ok (.lst ys) (wipeP σ' own)
  | _ => .bad) else .bad
def eLc (it : IP) (own : List Nat) (g : GP) (c : SP → PQ Bool) (a : SP → PQ PV) : SP → PQ PV := fun σ => match it σ with
  | .ok xs => eLcR own g c a xs σ
  | .exc c => .exc c σ
  | .bad => .bad
def eLcN (it : XP) (own : List Nat) (g : GP) (c : SP → PQ Bool) (a : SP → PQ PV) : SP → PQ PV := fun σ => match it σ with
  | .ok (.lst xs) => if isFls xs = true then eLcR own g c a xs σ else .bad
  | .exc c => .exc c σ
  | _ => .bad
section
variable {O W U own : List Nat} {io : Bool} {l0 : Nat × D} {A A' : Nat → List Nat} {Q Q' : Nat → Prop} {s s' s1 : SD} {h h' : HC} {σ σ1 : SP}
theorem Rl.conv (L : Rl O io l0 A Q s h σ) (hl : s'.length = s.length) (hs : ∀ i, i ∉ own → s'[i]? = s[i]?) (ho : (own.all fun i => !O.contains i) = true) : Rl O io l0 A Q s' h (wipeP σ own) := by
  refine ⟨by rw [hl, wipeP_len, L.len], fun i v hi hv => ?_, fun i v hi hv => ?_, L.sep, L.low, L.dis, L.nd, L.loc, L.zero, fun z => ?_, L.l0⟩
  · obtain ⟨h1, h2⟩ := wipeP_get σ own i v hv
    rw [hs i h1]; exact L.sl i v hi h2
  · obtain ⟨h1, h2⟩ := wipeP_get σ own i v hv
    rw [hs i h1]; exact L.ow i v hi h2
  · have : 0 ∉ own := fun x0 => by
      have := List.all_eq_true.mp ho 0 x0
      simp at this
      exact this (L.zero z)
    rw [hs 0 this]; exact L.fix z
theorem elc_ok {g : EG} {gp : GP} {c : ET} {pc : SP → PQ Bool} {a : EE} {pa : SP → PQ PV} (hg : GX own g gp) (hc : ETX O io W c pc) (ha : EX O io W a pa) (ho : (own.all fun i => !O.contains i) = true) : ∀ (vs : List PV) (ds acc : List D) (vacc ys : List PV) (A : Nat → List Nat) (Q : Nat → Prop) (s : SD) (h : HC) (σ σ' : SP) (G : List (Nat × Cell)),
    Rl O io l0 A Q (wipeD s own) h σ → Rds Q h vs ds → Rds Q h vacc acc → (∀ g ∈ G, h[g.1]? = some g.2 ∧ ∀ j ∈ W, g.1 ∉ A j) → acc.length + vs.length ≤ BIG → eLcL own gp pc pa vs σ = .ok ys σ' →
    ∃ ds' h' A' Q', lcLoop G g c a (wipeD s own) ds acc h = .ok ds' h' ∧ Rl O io l0 A' Q' (wipeD s own) h' σ' ∧ Fr W A A' Q Q' h h' ∧ Rds Q' h' (vacc ++ ys) ds'
  | [], ds, acc, vacc, ys, A, Q, s, h, σ, σ', G, L, r, ra, hG, hl, e => by
    simp only [Rds] at r
    subst r
    simp only [eLcL, PQ.ok.injEq] at e
    obtain ⟨rfl, rfl⟩ := e
    have hck : chk G h = true := by
      unfold chk
      rw [List.all_eq_true]
      exact fun g hg => decide_eq_true (hG g hg).1
    exact ⟨acc, h, A, Q, by simp only [lcLoop, hck, if_true], L, Fr.refl, by rw [List.append_nil]; exact ra⟩
  | v :: vs, ds, acc, vacc, ys, A, Q, s, h, σ, σ', G, L, r, ra, hG, hl, e => by
    obtain ⟨d, ds', rfl, r1, r2⟩ := r.uncons
    simp only [List.length_cons] at hl
    have hck : chk G h = true := by
      unfold chk
      rw [List.all_eq_true]
      exact fun g hg => decide_eq_true (hG g hg).1
    simp only [eLcL] at e
    cases q : gp v σ with
    | none => rw [q] at e; cases e
    | some σ1 =>
      rw [q] at e
      obtain ⟨s1, e1, B⟩ := hg Q h (wipeD s own) σ σ1 v d L.len r1 q
      have L1 := L.bound B ho
      have hback : ∀ i, i ∉ own → (wipeD s own)[i]? = s1[i]? := fun i hi => by
        rcases B.at_ i with ⟨_, x2⟩ | ⟨x0, _⟩
        · exact x2.symm
        · exact absurd x0 hi
      have hG' : ∀ {A2 : Nat → List Nat} {Q2 : Nat → Prop} {h2 : HC}, Fr W A A2 Q Q2 h h2 → ∀ g ∈ G, h2[g.1]? = some g.2 ∧ ∀ j ∈ W, g.1 ∉ A2 j := fun F2 g hg => by
        obtain ⟨e, hj⟩ := hG g hg
        have hlt := (List.getElem?_eq_some_iff.mp e).1
        refine ⟨by rw [F2.kp g.1 hlt hj, e], fun j hj' hn => ?_⟩
        rcases F2.grow j g.1 hn with z | z
        · exact hj j hj' z
        · omega
      have hc' := hc l0 A Q s1 h σ1 L1
      dsimp only at e
      cases q2 : pc σ1 with
      | exc x _ => rw [q2] at e; cases e
      | bad => rw [q2] at e; cases e
      | ok b σ2 =>
        rw [q2] at e hc'
        obtain ⟨b', h2, A2, Q2, e2, L2, F2, rfl⟩ := hc'
        cases b with
        | false =>
          dsimp only at e
          obtain ⟨ds2, h3, A3, Q3, e3, L3, F3, r3⟩ := elc_ok hg hc ha ho vs ds' acc vacc ys A2 Q2 s h2 (wipeP σ2 own) σ' G (L2.conv B.l1.symm hback ho) (F2.rds L1 r2) (F2.rds L1 ra) (hG' F2) (by omega) e
          exact ⟨ds2, h3, A3, Q3, by simp only [lcLoop, hck, if_true, e1, e2, e3], L3, F2.trans F3, r3⟩
        | true =>
          dsimp only at e
          have ha' := ha l0 A2 Q2 s1 h2 σ2 L2
          cases q3 : pa σ2 with
          | exc x _ => rw [q3] at e; cases e
          | bad => rw [q3] at e; cases e
          | ok y σ3 =>
            rw [q3] at e ha'
            obtain ⟨dy, h3, A3, Q3, e3, L3, F3, r3⟩ := ha'
            dsimp only at e
            cases q4 : eLcL own gp pc pa vs (wipeP σ3 own) with
            | exc x _ => rw [q4] at e; cases e
            | bad => rw [q4] at e; cases e
            | ok ys' σ4 =>
              rw [q4] at e
              simp only [PQ.ok.injEq] at e
              obtain ⟨rfl, rfl⟩ := e
              have F23 := F2.trans F3
              obtain ⟨ds2, h4, A4, Q4, e4, L4, F4, r4⟩ := elc_ok hg hc ha ho vs ds' (acc ++ [dy]) (vacc ++ [y]) ys' A3 Q3 s h3 (wipeP σ3 own) σ4 G (L3.conv B.l1.symm hback ho) (F23.rds L1 r2) ((F23.rds L1 ra).append (.one r3)) (hG' F23) (by simp; omega) q4
              refine ⟨ds2, h4, A4, Q4, ?_, L4, F23.trans F4, by rw [List.append_assoc] at r4; exact r4⟩
              simp only [lcLoop, hck, if_true, e1, e2, e3]
              rw [if_pos (by omega)]
              exact e4
theorem elcR_ok {g : EG} {gp : GP} {c : ET} {pc : SP → PQ Bool} {a : EE} {pa : SP → PQ PV} (hg : GX own g gp) (hc : ETX O io W c pc) (ha : EX O io W a pa) (ho : (own.all fun i => !O.contains i) = true) (L : Rl O io l0 A Q s h σ) {vs : List PV} {d : List D × List (Nat × Cell)} (r : Rds Q h vs d.1) (hG : ∀ g ∈ d.2, h[g.1]? = some g.2 ∧ ∀ j ∈ W, g.1 ∉ A j) :
    REx Rd O io W l0 A Q s h (eLcR own gp pc pa vs σ) ((lcLoop d.2 g c a (wipeD s own) d.1 [] h).bind fun xs h2 => .ok (.ref h2.length) (h2 ++ [.lst xs])) := by
  unfold eLcR
  split
  · rename_i hl
    cases q : eLcL own gp pc pa vs (wipeP σ own) with
    | exc x _ => exact trivial
    | bad => exact trivial
    | ok ys σ' =>
      obtain ⟨ds', h', A', Q', e, L', F', r'⟩ := elc_ok hg hc ha ho vs d.1 [] [] ys A Q s h (wipeP σ own) σ' d.2 (L.conv (wipeD_len s own) (fun i hi => wipeD_get s own i hi) ho) r Rds.nil hG (by simpa using hl) q
      rw [e]
      have L2 : Rl O io l0 A' Q' s h' (wipeP σ' own) := L'.conv (wipeD_len s own).symm (fun i hi => (wipeD_get s own i hi).symm) ho
      have l : Le h' (h' ++ [.lst ds']) := Le.app
      refine ⟨.ref h'.length, h' ++ [.lst ds'], A', _, rfl, L2.step l, F'.trans (Fr.step l), ?_⟩
      simp only [List.nil_append] at r'
      exact Rd.lst (.inr ⟨Nat.le_refl _, by simp⟩) last_get ((r'.le l).sub fun _ q => .inl q)
  · exact trivial
theorem ex_lc {it : EI} {pit : IP} {g : EG} {gp : GP} {c : ET} {pc : SP → PQ Bool} {a : EE} {pa : SP → PQ PV} (hi : PII U it pit) (hg : GX own g gp) (hc : ETX O io W c pc) (ha : EX O io W a pa) (hU : (U.all fun i => !O.contains i) = true := by decide) (ho : (own.all fun i => !O.contains i) = true := by decide) : EX O io W (fLc it own g c a) (eLc pit own gp pc pa) := fun l0 A Q s h σ L => by
  have R := hi _ s h σ (L.strong hU)
  unfold eLc fLc
  cases q : pit σ with
  | bad => exact trivial
  | exc c => rw [q] at R; obtain ⟨h1, e, l⟩ := R; rw [e]; exact ⟨h1, A, _, rfl, L.step l, Fr.step l⟩
  | ok vs =>
    rw [q] at R; obtain ⟨d, h1, e, l, r⟩ := R; rw [e]
    refine (elcR_ok hg hc ha ho (L.step l) (rds_upto r.1) fun g hg => ⟨(r.2 g hg).2, fun j _ hn => ?_⟩).weak (Fr.step l)
    rcases (r.2 g hg).1 with z | z
    · exact (L.sep j _ hn).1 z
    · have := (L.sep j _ hn).2
      omega
theorem ex_lcN {it : EE} {pit : XP} {g : EG} {gp : GP} {c : ET} {pc : SP → PQ Bool} {a : EE} {pa : SP → PQ PV} (hi : PXN U it pit) (hg : GX own g gp) (hc : ETX O io W c pc) (ha : EX O io W a pa) (ho : (own.all fun i => !O.contains i) = true := by decide) : EX O io W (fLc (fItL it) own g c a) (eLcN pit own gp pc pa) := fun l0 A Q s h σ L => by
  have R := hi _ s h σ L.raw
  unfold eLcN fLc fItL
  cases q : pit σ with
  | bad => exact trivial
  | exc c => rw [q] at R; obtain ⟨h1, e, l⟩ := R; rw [e]; exact ⟨h1, A, _, rfl, L.step l, Fr.step l⟩
  | ok v =>
    rw [q] at R
    cases v with
    | lst vs =>
      obtain ⟨n, ds, h1, e, l, hn, e2, r⟩ := R
      dsimp only
      split
      · rename_i hfl
        rw [e]
        simp only [Res.bind, e2]
        refine (elcR_ok (d := (ds, [(n, .lst ds)])) hg hc ha ho (L.step l) (Rds.flat _ _ hfl r) fun g hg => ?_).weak (Fr.step l)
        simp at hg
        subst hg
        refine ⟨e2, fun j _ hn' => ?_⟩
        have := (L.sep j _ hn').2
        omega
      · exact trivial
    | _ => exact trivial
end
end G9

set_option Elab.async false
set_option linter.all false
set_option maxRecDepth 100000
set_option maxHeartbeats 2000000
namespace G9
open PySem L2
def eAndV (a b : SP → PQ PV) : SP → PQ PV := fun σ => (a σ).bind fun x σ1 => match truV x with
  | some k => if k = true then b σ1 else .ok x σ1
  | none => .bad
def eOrV (a b : SP → PQ PV) : SP → PQ PV := fun σ => (a σ).bind fun x σ1 => match truV x with
  | some k => if k = true then .ok x σ1 else b σ1
  | none => .bad
def eParS (i j : Nat) (as : SP → PQ (List PV)) : ESP := fun σ => ofQ (as σ) fun xs σ1 => match xs with
  | [a, b] => .nx ((σ1.set i (some a)).set j (some b))
  | _ => .bad
section
variable {O W U U' : List Nat} {io : Bool} {a b o : EE} {pa pb : SP → PQ PV} {as : EA} {pas : AP}
theorem ex_andV (ha : EX O io W a pa) (hb : EX O io W b pb) : EX O io W (fAndV a b) (eAndV pa pb) := fun l0 A Q s h σ L =>
  (ha l0 A Q s h σ L).bind fun d1 h1 v1 A1 Q1 σ1 L1 F1 r1 => by
    cases e : truV v1 with
    | none => exact trivial
    | some k =>
      simp only [truV_eq r1 e]
      cases k
      · exact REx.here L1 r1
      · exact hb l0 A1 Q1 s h1 σ1 L1
theorem ex_orV (ha : EX O io W a pa) (hb : EX O io W b pb) : EX O io W (fOrV a b) (eOrV pa pb) := fun l0 A Q s h σ L =>
  (ha l0 A Q s h σ L).bind fun d1 h1 v1 A1 Q1 σ1 L1 F1 r1 => by
    cases e : truV v1 with
    | none => exact trivial
    | some k =>
      simp only [truV_eq r1 e]
      cases k
      · exact hb l0 A1 Q1 s h1 σ1 L1
      · exact REx.here L1 r1
theorem sx_parE {i j : Nat} {as : EA} {pas : SP → PQ (List PV)} (ha : EAX O io W as pas) (hi : O.contains i = false := by decide) (hj : O.contains j = false := by decide) : SX O io W (fPar i j as) (eParS i j pas) := fun l0 A Q s h σ L => by
  have R := ha l0 A Q s h σ L
  unfold eParS fPar ofQ ofR
  cases q : pas σ with
  | bad => exact trivial
  | ok v σ1 =>
    rw [q] at R; obtain ⟨d, h1, A1, Q1, e, L1, F1, r1⟩ := R; rw [e]
    dsimp only
    split
    · obtain ⟨x, y, rfl, r1, r2⟩ := par_two r1 rfl
      exact ⟨_, h1, A1, Q1, rfl, (L1.set (by simpa using hi) r1).set (by simpa using hj) r2, F1⟩
    · exact trivial
  | exc c σ1 => rw [q] at R; obtain ⟨h1, A1, Q1, e, L1, F1⟩ := R; rw [e]; exact ⟨s, h1, A1, Q1, rfl, L1, F1⟩
/-- a def that gives a new list -/
theorem cxn_ret {k n : Nat} {f : EE} {p : XP} (hf : PXN U f p) : CXN (fnRun n (fRet f)) (fnP k n (pRet p)) := fun Q h vs ds r => by
  unfold fnP fnRun fRet pRet ofR ofP
  by_cases hk : vs.length = k
  · rw [if_pos hk]
    have E : En U Q (ds.map some ++ List.replicate (n - ds.length) none) h (vs.map some ++ List.replicate (n - vs.length) none) := ⟨by simp [r.len], fun i v _ hv => by
      obtain ⟨d, h1, h2⟩ := r.get (get_start hv)
      exact ⟨d, start_get h1, h2⟩⟩
    have R := hf Q _ h _ E
    generalize p (vs.map some ++ List.replicate (n - vs.length) none) = x at R
    cases x with
    | bad => exact trivial
    | exc c => obtain ⟨h1, e, l⟩ := R; rw [e]; exact ⟨h1, rfl, l⟩
    | ok v =>
      cases v with
      | lst vs' => obtain ⟨m, ds', h', e, l, hn, e2, r2⟩ := R; rw [e]; exact ⟨m, ds', h', rfl, l, hn, e2, r2⟩
      | _ => exact trivial
  · rw [if_neg hk]; exact trivial
theorem pxn_meth {n : Nat} {c m : Str} {po : XP} {fm : List D → HC → Res D} {pf : List PV → PR PV} (hf : CXN fm pf) (ho : PX U o po) (ha : PAA U' as pas) : PXN (U ++ U') (fMeth c m n fm o as) (pMeth c m n pf po pas) := fun Q s h σ E => (ho Q s h σ E.l).bindN fun d h1 v l1 r => by
  have E1 := E.r.up l1
  cases v with
  | ins c' ks vs =>
    dsimp only
    by_cases hc : c' = c ∧ (getV ks vs m).isNone = true
    · rw [if_pos hc]
      obtain ⟨rfl, hn⟩ := hc
      obtain ⟨n', kvs, hd, q, e, hk, rs, ei⟩ := rd_ins r
      rw [ei]
      dsimp only
      have hl : kvs.lookup m = none := (look_get (x := m) rs).2 (by rw [hk]; exact Option.isNone_iff_eq_none.mp hn)
      rw [if_pos hl]
      refine (ha _ s h1 σ E1).bindN fun ds h' ws l r' => ?_
      rw [r'.len]
      split
      · exact hf _ h' _ _ (.cons (good_rd.mo (fun _ q => .inl q) l r) r')
      · exact trivial
    · rw [if_neg hc]; exact trivial
  | _ => exact trivial
end
end G9

set_option Elab.async false
set_option linter.all false
set_option maxRecDepth 100000
set_option maxHeartbeats 2000000
namespace G9
open PySem L2
def pStrip : PV → List PV → PR PV
  | .str a, [.str b] => if a.length ≤ 1000 then .ok (.str (Txt.stripChars a b)) else .bad
  | _, _ => .bad
theorem mx_strip : MX mStrip pStrip := fun Q h v d vs ds r rs => by
  unfold pStrip
  split
  · simp only [Rd] at r; subst r
    obtain ⟨d1, ds1, rfl, r1, r2⟩ := rs.uncons
    simp only [Rd] at r1; subst r1
    simp only [Rds] at r2; subst r2
    simp only [mStrip]
    split
    · exact RP.here good_rd (by simp only [Rd])
    · exact trivial
  · exact trivial
end G9

set_option Elab.async false
set_option linter.all false
set_option maxRecDepth 100000
set_option maxHeartbeats 2000000
namespace G9
open PySem L2
/-! ### values are told apart -/
mutual
def beqPV : PV → PV → Bool
  | .non, .non => true
  | .bl a, .bl b => a == b
  | .int a, .int b => decide (a = b)
  | .str a, .str b => decide (a = b)
  | .tup a, .tup b => beqPVs a b
  | .lst a, .lst b => beqPVs a b
  | .dk k a, .dk l b => decide (k = l) && beqPVs a b
  | .dt k a, .dt l b => decide (k = l) && beqPVs a b
  | .ins c k a, .ins d l b => decide (c = d) && decide (k = l) && beqPVs a b
  | .scr a, .scr b => decide (a = b)
  | _, _ => false
def beqPVs : List PV → List PV → Bool
  | [], [] => true
  | a :: as, b :: bs => beqPV a b && beqPVs as bs
  | _, _ => false
end
mutual
theorem beqPV_ok : ∀ a b : PV, beqPV a b = true → a = b
  | .non, b, h => by cases b <;> simp_all [beqPV]
  | .bl x, b, h => by cases b <;> simp_all [beqPV]
  | .int x, b, h => by cases b <;> simp_all [beqPV]
  | .str x, b, h => by cases b <;> simp_all [beqPV]
  | .scr x, b, h => by cases b <;> simp_all [beqPV]
  | .tup x, b, h => by
    cases b with
    | tup y => exact congrArg PV.tup (beqPVs_ok x y (by simpa [beqPV] using h))
    | _ => simp [beqPV] at h
  | .lst x, b, h => by
    cases b with
    | lst y => exact congrArg PV.lst (beqPVs_ok x y (by simpa [beqPV] using h))
    | _ => simp [beqPV] at h
  | .dk k x, b, h => by
    cases b with
    | dk l y =>
      simp only [beqPV, Bool.and_eq_true, decide_eq_true_eq] at h
      rw [h.1, beqPVs_ok x y h.2]
    | _ => simp [beqPV] at h
  | .dt k x, b, h => by
    cases b with
    | dt l y =>
      simp only [beqPV, Bool.and_eq_true, decide_eq_true_eq] at h
      rw [h.1, beqPVs_ok x y h.2]
    | _ => simp [beqPV] at h
  | .ins c k x, b, h => by
    cases b with
    | ins d l y =>
      simp only [beqPV, Bool.and_eq_true, decide_eq_true_eq] at h
      rw [h.1.1, h.1.2, beqPVs_ok x y h.2]
    | _ => simp [beqPV] at h
theorem beqPVs_ok : ∀ a b : List PV, beqPVs a b = true → a = b
  | [], b, h => by cases b <;> simp_all [beqPVs]
  | x :: xs, b, h => by
    cases b with
    | nil => simp [beqPVs] at h
    | cons y ys =>
      simp only [beqPVs, Bool.and_eq_true] at h
      rw [beqPV_ok x y h.1, beqPVs_ok xs ys h.2]
end
/-- the answer is this one -/
def isOk (r : PR PV) (v : PV) : Bool := match r with
  | .ok w => beqPV w v
  | _ => false
theorem isOk_ok {r : PR PV} {v : PV} (h : isOk r v = true) : r = .ok v := by
  cases r with
  | ok w => rw [beqPV_ok w v h]
  | _ => simp [isOk] at h
def isExc (r : PR PV) (c : Str) : Bool := match r with
  | .exc d => decide (d = c)
  | _ => false
theorem isExc_ok {r : PR PV} {c : Str} (h : isExc r c = true) : r = .exc c := by
  cases r with
  | exc d => rw [of_decide_eq_true h]
  | _ => simp [isExc] at h
@[simp] theorem prb_ok {α β : Type} {a : α} {f : α → PR β} : (PR.ok a).bind f = f a := id rfl
@[simp] theorem prb_exc {α β : Type} {c : Str} {f : α → PR β} : (PR.exc c : PR α).bind f = .exc c := id rfl
@[simp] theorem prb_bad {α β : Type} {f : α → PR β} : (PR.bad : PR α).bind f = .bad := id rfl
@[simp] theorem ofP_ok {α : Type} {σ : SP} {a : α} {f : α → PS} : ofP σ (.ok a) f = f a := id rfl
@[simp] theorem ofP_exc {α : Type} {σ : SP} {c : Str} {f : α → PS} : ofP σ (.exc c : PR α) f = .exc c σ := id rfl
@[simp] theorem ofP_bad {α : Type} {σ : SP} {f : α → PS} : ofP σ (.bad : PR α) f = .bad := id rfl
@[simp] theorem pYes_ap {σ : SP} : pYes σ = .ok true := id rfl
/-! ### the words, applied -/
@[simp] theorem pVar_ap {i : Nat} {σ : SP} : pVar i σ = match σ[i]? with
      | some (some v) => .ok v
      | _ => .bad := id rfl
@[simp] theorem pC_ap {v : PV} {σ : SP} : pC v σ = .ok v := id rfl
@[simp] theorem pBad_ap {σ : SP} : pBad  σ = .bad := id rfl
@[simp] theorem pOp_ap {op : PV → PV → PR PV} {a b : XP} {σ : SP} : pOp op a b σ = (a σ).bind fun x => (b σ).bind fun y => op x y := id rfl
@[simp] theorem pTru_ap {a : XP} {σ : SP} : pTru a σ = (a σ).bind fun x => match truV x with
      | some b => .ok b
      | none => .bad := id rfl
@[simp] theorem pNot_ap {a : TP} {σ : SP} : pNot a σ = (a σ).bind fun b => .ok (!b) := id rfl
@[simp] theorem pAnd_ap {a b : TP} {σ : SP} : pAnd a b σ = (a σ).bind fun x => if x = true then b σ else .ok false := id rfl
@[simp] theorem pOr_ap {a b : TP} {σ : SP} : pOr a b σ = (a σ).bind fun x => if x = true then .ok true else b σ := id rfl
@[simp] theorem pNotV_ap {a : XP} {σ : SP} : pNotV a σ = (a σ).bind fun x => match truV x with
      | some b => .ok (.bl (!b))
      | none => .bad := id rfl
@[simp] theorem pAndV_ap {a b : XP} {σ : SP} : pAndV a b σ = (a σ).bind fun x => match truV x with
      | some k => if k = true then b σ else .ok x
      | none => .bad := id rfl
@[simp] theorem pOrV_ap {a b : XP} {σ : SP} : pOrV a b σ = (a σ).bind fun x => match truV x with
      | some k => if k = true then .ok x else b σ
      | none => .bad := id rfl
@[simp] theorem pIf_ap {c : TP} {a b : XP} {σ : SP} : pIf c a b σ = (c σ).bind fun x => if x = true then a σ else b σ := id rfl
@[simp] theorem pChain_ap {op op' : PV → PV → PR PV} {a b c : XP} {σ : SP} : pChain op op' a b c σ = (a σ).bind fun x => (b σ).bind fun y => (op x y).bind fun z => match z with
      | .bl true => (c σ).bind fun w => op' y w
      | .bl false => .ok (.bl false)
      | _ => .bad := id rfl
@[simp] theorem pBo_ap {a : XP} {σ : SP} : pBo a σ = (a σ).bind fun x => match x with
      | .bl b => .ok b
      | _ => .bad := id rfl
@[simp] theorem pNil_ap {σ : SP} : pNil  σ = .ok [] := id rfl
@[simp] theorem pCons_ap {a : XP} {as : AP} {σ : SP} : pCons a as σ = (a σ).bind fun x => (as σ).bind fun xs => .ok (x :: xs) := id rfl
@[simp] theorem pTup_ap {as : AP} {σ : SP} : pTup as σ = (as σ).bind fun xs => mkTV xs := id rfl
@[simp] theorem pLst_ap {as : AP} {σ : SP} : pLst as σ = (as σ).bind fun xs => newLV xs := id rfl
@[simp] theorem pCl_ap {f : List PV → PR PV} {as : AP} {σ : SP} : pCl f as σ = (as σ).bind fun xs => f xs := id rfl
@[simp] theorem pCall_ap {n : Nat} {f : List PV → PR PV} {as : AP} {σ : SP} : pCall n f as σ = (as σ).bind fun xs => if xs.length = n then f xs else .bad := id rfl
@[simp] theorem pCall0_ap {f : List PV → PR PV} {σ : SP} : pCall0 f σ = f [] := id rfl
@[simp] theorem pNoP_ap {σ : SP} : pNoP  σ = .ok none := id rfl
@[simp] theorem pPart_ap {a : XP} {σ : SP} : pPart a σ = (a σ).bind fun x => match x with
      | .int i => .ok (some i)
      | _ => .bad := id rfl
@[simp] theorem pSl_ap {a : XP} {lo hi : OP} {σ : SP} : pSl a lo hi σ = (a σ).bind fun x => (lo σ).bind fun l => (hi σ).bind fun u => pSlV x l u := id rfl
@[simp] theorem pIsi_ap {c : String} {a : XP} {σ : SP} : pIsi c a σ = (a σ).bind fun x => match tyV x with
      | some t => (match isiT t c with
        | some b => .ok (.bl b)
        | none => .bad)
      | none => .bad := id rfl
@[simp] theorem pNeg_ap {a : XP} {σ : SP} : pNeg a σ = (a σ).bind fun x => match x with
      | .int i => .ok (.int (-i))
      | _ => .bad := id rfl
@[simp] theorem pLenSet_ap {a : XP} {σ : SP} : pLenSet a σ = (a σ).bind fun x => match x with
      | .tup ds => (match strsV ds with
        | some xs => if xs.length ≤ 1000 then .ok (.int (dn xs)) else .bad
        | none => .bad)
      | _ => .bad := id rfl
@[simp] theorem pMt_ap {T : String} {f : PV → List PV → PR PV} {o : XP} {as : AP} {σ : SP} : pMt T f o as σ = (o σ).bind fun x => if hasTyV T x = true then (as σ).bind fun xs => f x xs else .bad := id rfl
@[simp] theorem pMt0_ap {T : String} {f : PV → List PV → PR PV} {o : XP} {σ : SP} : pMt0 T f o σ = (o σ).bind fun x => if hasTyV T x = true then f x [] else .bad := id rfl
@[simp] theorem pItL_ap {a : XP} {σ : SP} : pItL a σ = (a σ).bind fun x => match x with
      | .lst xs => .ok xs
      | .scr ns => .ok (ns.map PV.int)
      | _ => .bad := id rfl
@[simp] theorem pItT_ap {a : XP} {σ : SP} : pItT a σ = (a σ).bind fun x => match x with
      | .tup xs => .ok xs
      | _ => .bad := id rfl
@[simp] theorem pItS_ap {a : XP} {σ : SP} : pItS a σ = (a σ).bind fun x => match x with
      | .str z => .ok (z.cps.toList.map fun c => .str ⟨#[c]⟩)
      | _ => .bad := id rfl
@[simp] theorem pItR2_ap {a b : XP} {σ : SP} : pItR2 a b σ = (a σ).bind fun x => (b σ).bind fun y => match x, y with
      | .int i, .int j => if -(2 ^ 62) ≤ i ∧ i < 2 ^ 62 ∧ -(2 ^ 62) ≤ j ∧ j < 2 ^ 62 then .ok (rngV i (j - i).toNat) else .bad
      | _, _ => .bad := id rfl
@[simp] theorem pItEL_ap {a : XP} {σ : SP} : pItEL a σ = (a σ).bind fun x => match x with
      | .lst xs => .ok (enumV xs)
      | _ => .bad := id rfl
@[simp] theorem pItET_ap {a : XP} {σ : SP} : pItET a σ = (a σ).bind fun x => match x with
      | .tup xs => .ok (enumV xs)
      | _ => .bad := id rfl
@[simp] theorem pItZM_ap {a b : XP} {σ : SP} : pItZM a b σ = (a σ).bind fun x => (b σ).bind fun y => match x, y with
      | .lst xs, .tup ys => .ok (zipV xs ys)
      | _, _ => .bad := id rfl
@[simp] theorem pLc_ap {it : IP} {own : List Nat} {g : GP} {c : TP} {a : XP} {σ : SP} : pLc it own g c a σ = (it σ).bind fun xs => if xs.length ≤ BIG then (match pLcL g c a (wipeP σ own) xs with
      | .ok ys => .ok (.lst ys)
      | _ => .bad) else .bad := id rfl
@[simp] theorem pNx_ap {σ : SP} : pNx  σ = .nx σ := id rfl
@[simp] theorem pSeq_ap {f g : ESP} {σ : SP} : pSeq f g σ = match f σ with
      | .nx σ1 => g σ1
      | r => r := id rfl
@[simp] theorem pExpr_ap {a : XP} {σ : SP} : pExpr a σ = ofP σ (a σ) fun _ => .nx σ := id rfl
@[simp] theorem pRet_ap {a : XP} {σ : SP} : pRet a σ = ofP σ (a σ) fun v => .ret v σ := id rfl
@[simp] theorem pRetF_ap {a : XP} {σ : SP} : pRetF a σ = ofP σ (a σ) fun v => if isFl v = true then .ret v σ else .bad := id rfl
@[simp] theorem pRetN_ap {σ : SP} : pRetN  σ = .ret .non σ := id rfl
@[simp] theorem pIfS_ap {c : TP} {a b : ESP} {σ : SP} : pIfS c a b σ = ofP σ (c σ) fun x => if x = true then a σ else b σ := id rfl
@[simp] theorem pSet_ap {i : Nat} {a : XP} {σ : SP} : pSet i a σ = ofP σ (a σ) fun v => .nx (σ.set i (some v)) := id rfl
@[simp] theorem pSetF_ap {i : Nat} {a : XP} {σ : SP} : pSetF i a σ = ofP σ (a σ) fun v => if isFl v = true then .nx (σ.set i (some v)) else .bad := id rfl
@[simp] theorem pRaise_ap {c : Str} {σ : SP} : pRaise c σ = .exc c σ := id rfl
@[simp] theorem pBadS_ap {σ : SP} : pBadS  σ = .bad := id rfl
@[simp] theorem pFor_ap {it : IP} {g : GP} {body : ESP} {σ : SP} : pFor it g body σ = ofP σ (it σ) fun xs => pForL g body xs σ := id rfl
@[simp] theorem pForF_ap {it : IP} {g : GP} {body : ESP} {σ : SP} : pForF it g body σ = ofP σ (it σ) fun xs => if isFls xs = true then pForL g body xs σ else .bad := id rfl
@[simp] theorem pTry_ap {T : Tab} {f : ESP} {hs : List (Str × ESP)} {σ : SP} : pTry T f hs σ = match f σ with
      | .exc c σ1 => handleP T c hs σ1
      | r => r := id rfl
@[simp] theorem pAsg_ap {g : GP} {a : XP} {σ : SP} : pAsg g a σ = ofP σ (a σ) fun v => match g v σ with
      | some σ1 => .nx σ1
      | none => .bad := id rfl
@[simp] theorem pAsgF_ap {g : GP} {a : XP} {σ : SP} : pAsgF g a σ = ofP σ (a σ) fun v => if isFl v = true then (match g v σ with
      | some σ1 => .nx σ1
      | none => .bad) else .bad := id rfl
@[simp] theorem pAugI_ap {f : Int → Int → Int} {i : Nat} {a : XP} {σ : SP} : pAugI f i a σ = match σ[i]? with
      | some (some (.int x)) => ofP σ (a σ) fun v => (match v with
        | .int y => .nx (σ.set i (some (.int (f x y))))
        | _ => .bad)
      | _ => .bad := id rfl
@[simp] theorem pPar_ap {i j : Nat} {as : AP} {σ : SP} : pPar i j as σ = ofP σ (as σ) fun xs => match xs with
      | [a, b] => .nx ((σ.set i (some a)).set j (some b))
      | _ => .bad := id rfl
@[simp] theorem pParF_ap {i j : Nat} {as : AP} {σ : SP} : pParF i j as σ = ofP σ (as σ) fun xs => if isFls xs = true then (match xs with
      | [a, b] => .nx ((σ.set i (some a)).set j (some b))
      | _ => .bad) else .bad := id rfl
@[simp] theorem pSetO_ap {i : Nat} {a : XP} {σ : SP} : pSetO i a σ = ofP σ (a σ) fun v => match v with
      | .lst vs => .nx (σ.set i (some (.lst vs)))
      | _ => .bad := id rfl
@[simp] theorem pSetOF_ap {i : Nat} {a : XP} {σ : SP} : pSetOF i a σ = ofP σ (a σ) fun v => match v with
      | .lst vs => if isFls vs = true then .nx (σ.set i (some (.lst vs))) else .bad
      | _ => .bad := id rfl
@[simp] theorem pApp_ap {i : Nat} {a : XP} {σ : SP} : pApp i a σ = match σ[i]? with
      | some (some (.lst vs)) => ofP σ (a σ) fun v => if vs.length < BIG then .nx (σ.set i (some (.lst (vs ++ [v])))) else .bad
      | _ => .bad := id rfl
@[simp] theorem pAppF_ap {i : Nat} {a : XP} {σ : SP} : pAppF i a σ = match σ[i]? with
      | some (some (.lst vs)) => ofP σ (a σ) fun v => if isFl v = true ∧ vs.length < BIG then .nx (σ.set i (some (.lst (vs ++ [v])))) else .bad
      | _ => .bad := id rfl
@[simp] theorem pExtF_ap {i : Nat} {a : XP} {σ : SP} : pExtF i a σ = match σ[i]? with
      | some (some (.lst vs)) => ofP σ (a σ) fun v => (match v with
        | .lst ws => if isFls ws = true ∧ vs.length + ws.length ≤ BIG then .nx (σ.set i (some (.lst (vs ++ ws)))) else .bad
        | _ => .bad)
      | _ => .bad := id rfl
@[simp] theorem pDisp_ap {ps : List (XP × XP)} {σ : SP} : pDisp ps σ = (pPairs ps σ).bind fun qs => match keysPV qs with
      | some kvs => if kvs.length ≤ 15 then .ok (mkDV kvs) else .bad
      | none => .bad := id rfl
@[simp] theorem pDisp0_ap {σ : SP} : pDisp0  σ = .ok (.dk [] []) := id rfl
@[simp] theorem hN_ap {i : Nat} {v : PV} {σ : SP} : hN i v σ = some (σ.set i (some v)) := id rfl
@[simp] theorem hT_ap {g : GPs} {vs : List PV} {σ : SP} : hT g (.tup vs) σ = g vs σ := id rfl
@[simp] theorem hsN_ap {σ : SP} : hsN [] σ = some σ := id rfl
@[simp] theorem hsC_ap {g : GP} {gs : GPs} {v : PV} {vs : List PV} {σ : SP} : hsC g gs (v :: vs) σ = (g v σ).bind fun σ1 => gs vs σ1 := id rfl
@[simp] theorem pPairs_nil {σ : SP} : pPairs [] σ = .ok [] := id rfl
@[simp] theorem pPairs_cons {k v : XP} {r : List (XP × XP)} {σ : SP} : pPairs ((k, v) :: r) σ = (k σ).bind fun x => (v σ).bind fun y => (pPairs r σ).bind fun ps => .ok ((x, y) :: ps) := id rfl
def fnS : PS → PR PV
  | .nx _ => .ok .non
  | .ret v _ => .ok v
  | .exc c _ => .exc c
  | _ => .bad
@[simp] theorem fnS_nx {σ : SP} : fnS (.nx σ) = .ok .non := id rfl
@[simp] theorem fnS_ret {v : PV} {σ : SP} : fnS (.ret v σ) = .ok v := id rfl
@[simp] theorem fnS_exc {c : Str} {σ : SP} : fnS (.exc c σ) = .exc c := id rfl
theorem fnP_run {k n : Nat} {body : ESP} {vs : List PV} (h : vs.length = k) : fnP k n body vs = fnS (body (vs.map some ++ List.replicate (n - vs.length) none)) := by
  unfold fnP
  rw [if_pos h]
  unfold fnS
  split <;> simp_all
theorem seq_nx {f g : ESP} {σ σ1 : SP} (e : f σ = .nx σ1) : pSeq f g σ = g σ1 := by simp [pSeq, e]
theorem seq_ret {f g : ESP} {σ σ1 : SP} {v : PV} (e : f σ = .ret v σ1) : pSeq f g σ = .ret v σ1 := by simp [pSeq, e]
theorem seq_exc {f g : ESP} {σ σ1 : SP} {c : Str} (e : f σ = .exc c σ1) : pSeq f g σ = .exc c σ1 := by simp [pSeq, e]
theorem run_nx {f g : ESP} {σ σ1 : SP} {r : PR PV} (e : f σ = .nx σ1) (k : fnS (g σ1) = r) : fnS (pSeq f g σ) = r := by rw [seq_nx e, k]
theorem run_ret {f g : ESP} {σ σ1 : SP} {v : PV} (e : f σ = .ret v σ1) : fnS (pSeq f g σ) = .ok v := by rw [seq_ret e]; rfl
theorem run_exc {f g : ESP} {σ σ1 : SP} {c : Str} (e : f σ = .exc c σ1) : fnS (pSeq f g σ) = .exc c := by rw [seq_exc e]; rfl
/-! ### loops -/
/-- a for by an invariant -/
theorem for_inv {α : Type} (F : α → PV) {g : GP} {b : ESP} (I : List α → SP → Prop) : ∀ (xs done : List α) (σ : SP), I done σ → (∀ l x r σ, done ++ xs = l ++ x :: r → I l σ → ∃ σ1 σ2, g (F x) σ = some σ1 ∧ (b σ1 = .nx σ2 ∨ b σ1 = .ct σ2) ∧ I (l ++ [x]) σ2) → ∃ σ', pForL g b (xs.map F) σ = .nx σ' ∧ I (done ++ xs) σ'
  | [], done, σ, h, _ => ⟨σ, rfl, by simpa using h⟩
  | x :: xs, done, σ, h, st => by
    obtain ⟨σ1, σ2, e1, e2, h2⟩ := st done x xs σ rfl h
    obtain ⟨σ', e3, h3⟩ := for_inv F I xs (done ++ [x]) σ2 h2 fun l y r τ el hl => st l y r τ (by rw [← el]; simp) hl
    refine ⟨σ', ?_, by simpa using h3⟩
    rcases e2 with e2 | e2 <;> simp [pForL, e1, e2, e3]
/-- a comprehension that keeps some -/
theorem lc_fn {α : Type} (F : α → PV) {g : GP} {c : TP} {a : XP} {σ : SP} (k : α → Bool) (G : α → PV) : ∀ xs : List α, (∀ x ∈ xs, ∃ σ1, g (F x) σ = some σ1 ∧ c σ1 = .ok (k x) ∧ (k x = true → a σ1 = .ok (G x))) → pLcL g c a σ (xs.map F) = .ok ((xs.filter k).map G)
  | [], _ => rfl
  | x :: xs, h => by
    obtain ⟨σ1, e1, e2, e3⟩ := h x (by simp)
    have ih := lc_fn F k G xs fun y hy => h y (by simp [hy])
    cases q : k x with
    | true => simp [pLcL, e1, e2, e3 q, ih, q]
    | false => simp [pLcL, e1, e2, ih, q]
theorem lc_all {α : Type} (F : α → PV) {g : GP} {c : TP} {a : XP} {σ : SP} (G : α → PV) (xs : List α) (h : ∀ x ∈ xs, ∃ σ1, g (F x) σ = some σ1 ∧ c σ1 = .ok true ∧ a σ1 = .ok (G x)) : pLcL g c a σ (xs.map F) = .ok (xs.map G) := by
  have := lc_fn F (k := fun _ => true) G xs (g := g) (c := c) (a := a) (σ := σ) fun x hx => by
    obtain ⟨σ1, e1, e2, e3⟩ := h x hx
    exact ⟨σ1, e1, e2, fun _ => e3⟩
  rw [List.filter_eq_self.mpr (by simp)] at this
  exact this
end G9

set_option Elab.async false
set_option linter.all false
set_option maxRecDepth 100000
set_option maxHeartbeats 2000000
namespace G9
open PySem L2
@[simp] theorem pqb_ok {α β : Type} {a : α} {σ : SP} {f : α → SP → PQ β} : (PQ.ok a σ).bind f = f a σ := id rfl
@[simp] theorem pqb_exc {α β : Type} {c : Str} {σ : SP} {f : α → SP → PQ β} : (PQ.exc c σ : PQ α).bind f = .exc c σ := id rfl
@[simp] theorem ofQ_ok {α : Type} {a : α} {σ : SP} {f : α → SP → PS} : ofQ (.ok a σ) f = f a σ := id rfl
@[simp] theorem ofQ_exc {α : Type} {c : Str} {σ : SP} {f : α → SP → PS} : ofQ (.exc c σ : PQ α) f = .exc c σ := id rfl
@[simp] theorem pFld_ap {c f : Str} {a : XP} {σ : SP} : pFld c f a σ = (a σ).bind fun x => match x with
      | .ins c' ks vs => if c' = c then (match getV ks vs f with
        | some v => .ok v
        | none => .bad) else .bad
      | _ => .bad := id rfl
@[simp] theorem pMeth_ap {c m : Str} {n : Nat} {pf : List PV → PR PV} {o : XP} {as : AP} {σ : SP} : pMeth c m n pf o as σ = (o σ).bind fun x => match x with
      | .ins c' ks vs => if c' = c ∧ (getV ks vs m).isNone = true then (as σ).bind fun xs => if xs.length = n then pf (x :: xs) else .bad else .bad
      | _ => .bad := id rfl
@[simp] theorem eOp_ap {op : PV → PV → PR PV} {a b : SP → PQ PV} {σ : SP} : eOp op a b σ = (a σ).bind fun x σ1 => (b σ1).bind fun y σ2 => match op x y with
      | .ok v => .ok v σ2
      | .exc c => .exc c σ2
      | .bad => .bad := id rfl
@[simp] theorem eNil_ap  {σ : SP} : eNil  σ = .ok [] σ := id rfl
@[simp] theorem eCons_ap {a : SP → PQ PV} {as : SP → PQ (List PV)} {σ : SP} : eCons a as σ = (a σ).bind fun x σ1 => (as σ1).bind fun xs σ2 => .ok (x :: xs) σ2 := id rfl
@[simp] theorem eTup_ap {as : SP → PQ (List PV)} {σ : SP} : eTup as σ = (as σ).bind fun xs σ1 => if xs.length ≤ BIG then .ok (.tup xs) σ1 else .bad := id rfl
@[simp] theorem eLst_ap {as : SP → PQ (List PV)} {σ : SP} : eLst as σ = (as σ).bind fun xs σ1 => if xs.length ≤ BIG then .ok (.lst xs) σ1 else .bad := id rfl
@[simp] theorem eIf_ap {c : SP → PQ Bool} {a b : SP → PQ PV} {σ : SP} : eIf c a b σ = (c σ).bind fun x σ1 => if x = true then a σ1 else b σ1 := id rfl
@[simp] theorem eBo_ap {a : SP → PQ PV} {σ : SP} : eBo a σ = (a σ).bind fun x σ1 => match x with
      | .bl b => .ok b σ1
      | _ => .bad := id rfl
@[simp] theorem eAnd_ap {a b : SP → PQ Bool} {σ : SP} : eAnd a b σ = (a σ).bind fun x σ1 => if x = true then b σ1 else .ok false σ1 := id rfl
@[simp] theorem eOr_ap {a b : SP → PQ Bool} {σ : SP} : eOr a b σ = (a σ).bind fun x σ1 => if x = true then .ok true σ1 else b σ1 := id rfl
@[simp] theorem eNot_ap {a : SP → PQ Bool} {σ : SP} : eNot a σ = (a σ).bind fun x σ1 => .ok (!x) σ1 := id rfl
@[simp] theorem eExprS_ap {a : SP → PQ PV} {σ : SP} : eExprS a σ = ofQ (a σ) fun _ σ1 => .nx σ1 := id rfl
@[simp] theorem eSetS_ap {i : Nat} {a : SP → PQ PV} {σ : SP} : eSetS i a σ = ofQ (a σ) fun v σ1 => .nx (σ1.set i (some v)) := id rfl
@[simp] theorem eRetS_ap {a : SP → PQ PV} {σ : SP} : eRetS a σ = ofQ (a σ) fun v σ1 => .ret v σ1 := id rfl
@[simp] theorem eIfS_ap {c : SP → PQ Bool} {f g : ESP} {σ : SP} : eIfS c f g σ = ofQ (c σ) fun x σ1 => if x = true then f σ1 else g σ1 := id rfl
@[simp] theorem eCallO_ap {i n : Nat} {po : PV → List PV → PW} {as : SP → PQ (List PV)} {σ : SP} : eCallO i n po as σ = match σ[i]? with
      | some (some _) => (as σ).bind fun xs σ1 => if xs.length = n then runO i po xs σ1 else .bad
      | _ => .bad := id rfl
@[simp] theorem eMethO_ap {i : Nat} {c m : Str} {n : Nat} {po : PV → List PV → PW} {as : SP → PQ (List PV)} {σ : SP} : eMethO i c m n po as σ = match σ[i]? with
      | some (some (.ins c' ks vs)) => if c' = c ∧ (getV ks vs m).isNone = true then (as σ).bind fun xs σ1 => if xs.length = n then runO i po xs σ1 else .bad else .bad
      | _ => .bad := id rfl
@[simp] theorem pMake_ap {c : Str} {n : Nat} {po : PV → List PV → PW} {as : AP} {σ : SP} : pMake c n po as σ = (as σ).bind fun xs => if xs.length = n then makeV c po xs else .bad := id rfl
@[simp] theorem pSetW_ap {i : Nat} {a : XP} {σ : SP} : pSetW i a σ = ofP σ (a σ) fun v => .nx (σ.set i (some v)) := id rfl
@[simp] theorem pSetFldF_ap {i : Nat} {c f : Str} {a : XP} {σ : SP} : pSetFldF i c f a σ = ofP σ (a σ) fun v => if isFl v = true then setFldV i c f v σ else .bad := id rfl
@[simp] theorem pSetFldN_ap {i : Nat} {c f : Str} {a : XP} {σ : SP} : pSetFldN i c f a σ = ofP σ (a σ) fun v => match v with
      | .lst vs => if isFls vs = true then setFldV i c f (.lst vs) σ else .bad
      | _ => .bad := id rfl
@[simp] theorem pAugFld_ap {i : Nat} {c f : Str} {a : XP} {σ : SP} : pAugFld i c f a σ = match σ[i]? with
      | some (some (.ins c' ks vs)) => if c' = c ∧ ks.length < 1000 then (match getV ks vs f with
        | some (.int x) => ofP σ (a σ) fun v => (match v with
          | .int y => .nx (σ.set i (some (.ins c (putKs1 ks f) (putVs1 ks vs f (.int (x + y))))))
          | _ => .bad)
        | _ => .bad) else .bad
      | _ => .bad := id rfl
@[simp] theorem eMtF_ap {i : Nat} {c f : Str} {g : List PV → List PV → Option (PV × List PV)} {as : AP} {σ : SP} : eMtF i c f g as σ = match σ[i]? with
      | some (some (.ins c' ks vs)) => if c' = c then (match getV ks vs f with
        | some (.lst xs) => (match as σ with
          | .ok ys => if isFls ys = true then (match g xs ys with
            | some (v, xs') => .ok v (σ.set i (some (.ins c ks (putVs1 ks vs f (.lst xs')))))
            | none => .bad) else .bad
          | .exc c => .exc c σ
          | .bad => .bad)
        | _ => .bad) else .bad
      | _ => .bad := id rfl
@[simp] theorem eAsgK_ap {kp : PV → SP → Option SP} {a : SP → PQ PV} {σ : SP} : eAsgK kp a σ = ofQ (a σ) fun v σ1 => match kp v σ1 with
      | some σ2 => .nx σ2
      | none => .bad := id rfl
@[simp] theorem pAugD_ap {i : Nat} {ix v : XP} {σ : SP} : pAugD i ix v σ = match σ[i]?, ix σ with
      | some (some (.dk ks vs)), .ok y => if isFl y = true then (match toKeyV y with
        | some k => (match getV ks vs k with
          | some (.int a) => ofP σ (v σ) fun z => (match z with
            | .int b => if ks.length < 100000 then .nx (σ.set i (some (.dk (putKs ks k) (putVs ks vs k (.int (a + b)))))) else .bad
            | _ => .bad)
          | _ => .bad)
        | none => .bad) else .bad
      | _, _ => .bad := id rfl
@[simp] theorem pSeqO_ap {f g : ESP} {σ : SP} : pSeqO f g σ = match f σ with
      | .nx σ1 => g σ1
      | .exc c σ1 => .exc c σ1
      | _ => .bad := id rfl
@[simp] theorem pParW_ap {i j : Nat} {a b : XP} {σ : SP} : pParW i j a b σ = ofP σ (a σ) fun v => ofP σ (b σ) fun w => .nx ((σ.set i (some v)).set j (some w)) := id rfl
@[simp] theorem liftP_ap {α : Type} {p : SP → PR α} {σ : SP} : liftP p σ = match p σ with
    | .ok v => .ok v σ
    | .exc c => .exc c σ
    | .bad => .bad := id rfl
def fnW (r : PS) : PW := match r with
  | .nx σ => slot0 σ fun w => .ok .non w
  | .ret v σ => slot0 σ fun w => .ok v w
  | .exc c σ => slot0 σ fun w => .exc c w
  | _ => .bad
@[simp] theorem fnW_nx {w : PV} {σ : SP} : fnW (.nx (some w :: σ)) = .ok .non w := id rfl
@[simp] theorem fnW_ret {v w : PV} {σ : SP} : fnW (.ret v (some w :: σ)) = .ok v w := id rfl
@[simp] theorem fnW_exc {c : Str} {w : PV} {σ : SP} : fnW (.exc c (some w :: σ)) = .exc c w := id rfl
theorem fnO_run {k n : Nat} {body : ESP} {v0 : PV} {vs : List PV} (h : vs.length + 1 = k) : fnO k n body v0 vs = fnW (body ((v0 :: vs).map some ++ List.replicate (n - (vs.length + 1)) none)) := by
  unfold fnO fnW
  rw [if_pos h]
  (try (split <;> simp_all))
theorem go_nx {f g : ESP} {σ σ1 : SP} {r : PW} (e : f σ = .nx σ1) (k : fnW (g σ1) = r) : fnW (pSeq f g σ) = r := by rw [seq_nx e, k]
theorem go_ret {f g : ESP} {σ σ1 : SP} {v : PV} (e : f σ = .ret v σ1) : fnW (pSeq f g σ) = fnW (.ret v σ1) := by rw [seq_ret e]
theorem go_exc {f g : ESP} {σ σ1 : SP} {c : Str} (e : f σ = .exc c σ1) : fnW (pSeq f g σ) = fnW (.exc c σ1) := by rw [seq_exc e]
@[simp] theorem setFldV_ap {i : Nat} {c f : Str} {v : PV} {σ : SP} : setFldV i c f v σ = match σ[i]? with
  | some (some (.ins c' ks vs)) => if c' = c ∧ ks.length < 1000 then .nx (σ.set i (some (.ins c (putKs1 ks f) (putVs1 ks vs f v)))) else .bad
  | _ => .bad := id rfl
@[simp] theorem runO_ap {i : Nat} {po : PV → List PV → PW} {xs : List PV} {σ : SP} : runO i po xs σ = match σ[i]? with
  | some (some v0) => (match po v0 xs with
    | .ok v w => .ok v (σ.set i (some w))
    | .exc c w => .exc c (σ.set i (some w))
    | .bad => .bad)
  | _ => .bad := id rfl
@[simp] theorem isFl_int {i : Int} : isFl (.int i) = true := id rfl
@[simp] theorem isFl_bl {i : Bool} : isFl (.bl i) = true := id rfl
@[simp] theorem isFl_str {i : Str} : isFl (.str i) = true := id rfl
@[simp] theorem isFl_non : isFl .non = true := id rfl
@[simp] theorem isFl_tup {l : List PV} : isFl (.tup l) = isFls l := id rfl
@[simp] theorem isFls_nil : isFls [] = true := id rfl
@[simp] theorem isFls_cons {v : PV} {l : List PV} : isFls (v :: l) = (isFl v && isFls l) := id rfl
@[simp] theorem isFls_ints {l : List Int} : isFls (l.map .int) = true := by
  induction l with
  | nil => rfl
  | cons a l ih => simp [isFls, isFl, ih]
@[simp] theorem isFls_strs {l : List Str} : isFls (l.map .str) = true := by
  induction l with
  | nil => rfl
  | cons a l ih => simp [isFls, isFl, ih]
end G9

set_option Elab.async false
set_option linter.all false
set_option maxRecDepth 100000
set_option maxHeartbeats 0
namespace G9
open PySem L2
def p_law_pick : List PV → PR PV := fnP 2 2
    (pRet (pOp pMod (pOp pDiv (pVar 0) (pC (.int 97))) (pVar 1)))
theorem cx_law_pick : CX m_law_pick p_law_pick := cx_fn (O := []) (W := [])
    (sx_ret (px_op ox_mod (px_op ox_div (px_var (i := 0)) px_int) (px_var (i := 1))))
def p_law_seed : List PV → PR PV := fnP 2 2
    (pRet (pOp pMod (pOp pPow (pOp pMod (pOp pAdd (pOp pAdd (pOp pMul (pVar 0) (pC (.int 1103515245))) (pOp pMul (pC (.int 7919)) (pVar 1))) (pC (.int 12345))) (pC (.int 2147483647))) (pC (.int 5))) (pC (.int 2147483647))))
theorem cx_law_seed : CX m_law_seed p_law_seed := cx_fn (O := []) (W := [])
    (sx_ret (px_op ox_mod (px_op ox_pow (px_op ox_mod (px_op ox_add (px_op ox_add (px_op ox_mul (px_var (i := 0)) px_int) (px_op ox_mul px_int (px_var (i := 1)))) px_int) px_int) px_int) px_int))
def p_law_code : List PV → PR PV := fnP 1 2
    (pRet (pMt "str" pJoin (pC (.str "")) (pCons (pLc (pItR1 (pOp pAdd (pC (.int 1)) (pOp pMod (pOp pDiv (pVar 0) (pC (.int 5))) (pC (.int 4))))) [1] (hN 1) pYes (pOp pIx (pC (.str "sl")) (pCall 2 p_law_pick (pCons (pCall 2 p_law_seed (pCons (pVar 0) (pCons (pVar 1) pNil))) (pCons (pC (.int 2)) pNil))))) pNil)))
theorem cx_law_code : CX m_law_code p_law_code := cx_fn (O := []) (W := [])
    (sx_ret (px_mt mx_join px_str (pa_cons (px_lc (pi_r1 (px_op ox_add px_int (px_op ox_mod (px_op ox_div (px_var (i := 0)) px_int) px_int))) gx_n pt_yes (px_op ox_ix px_str (px_call cx_law_pick (pa_cons (px_call cx_law_seed (pa_cons (px_var (i := 0)) (pa_cons (px_var (i := 1)) pa_nil))) (pa_cons px_int pa_nil))))) pa_nil)))
def p_law_setting : List PV → PR PV := fnP 1 4
    (pSeq (pSetO 1 (pLst pNil))
    (pSeq (pFor (pItR1 (pOp pAdd (pC (.int 2)) (pOp pMod (pOp pDiv (pVar 0) (pC (.int 7))) (pC (.int 7))))) (hN 2) (pSeq (pSet 3 (pCall 1 p_law_code (pCons (pCall 2 p_law_seed (pCons (pVar 0) (pCons (pOp pAdd (pC (.int 10)) (pVar 2)) pNil))) pNil)))
    (pIfS (pBo (pOp pNotIn (pVar 3) (pVar 1))) (pApp 1 (pVar 3)) pNx)))
    (pSeq (pIfS (pBo (pOp pLt (pCl pLen (pCons (pVar 1) pNil)) (pC (.int 2)))) (pSetOF 1 (pOp pAdd (pVar 1) (pSl (pLc (pItT (pTup (pCons (pC (.str "sl")) (pCons (pC (.str "ls")) pNil)))) [3] (hN 3) (pBo (pOp pNotIn (pVar 3) (pVar 1))) (pVar 3)) pNoP (pPart (pC (.int 1)))))) pNx)
    (pRet (pTup (pCons (pCl pTuple (pCons (pVar 1) pNil)) (pCons (pOp pEq (pOp pMod (pOp pDiv (pVar 0) (pC (.int 11))) (pC (.int 2))) (pC (.int 0))) (pCons (pOp pAdd (pC (.int 1)) (pCall 2 p_law_pick (pCons (pCall 2 p_law_seed (pCons (pVar 0) (pCons (pC (.int 30)) pNil))) (pCons (pOp pIx (pLst (pCons (pC (.int 60)) (pCons (pC (.int 9)) pNil))) (pOp pMod (pOp pDiv (pVar 0) (pC (.int 13))) (pC (.int 2)))) pNil)))) pNil))))))))
theorem cx_law_setting : CX m_law_setting p_law_setting := cx_fn (O := [1]) (W := [1])
    (sx_seq (sx_setO (i := 1) (pxn_lst pa_nil))
    (sx_seq (sx_for (pi_r1 (px_op ox_add px_int (px_op ox_mod (px_op ox_div (px_var (i := 0)) px_int) px_int))) gx_n (sx_seq (sx_set (i := 3) (px_call cx_law_code (pa_cons (px_call cx_law_seed (pa_cons (px_var (i := 0)) (pa_cons (px_op ox_add px_int (px_var (i := 2))) pa_nil))) pa_nil)))
    (sx_if (pt_bo (px_op ox_in (px_var (i := 3)) (px_var (i := 1)))) (sx_app (i := 1) (px_var (i := 3))) sx_nx)))
    (sx_seq (sx_if (pt_bo (px_op ox_I (px_cl cx_len (pa_cons (px_var (i := 1)) pa_nil)) px_int)) (sx_setOF (i := 1) (pxn_op oxn_add (px_var (i := 1)) (px_sl (px_lc (pi_t (px_tup (pa_cons px_str (pa_cons px_str pa_nil)))) gx_n (pt_bo (px_op ox_in (px_var (i := 3)) (px_var (i := 1)))) (px_var (i := 3))) po_no (po_part px_int)))) sx_nx)
    (sx_ret (px_tup (pa_cons (px_cl cx_tuple (pa_cons (px_var (i := 1)) pa_nil)) (pa_cons (px_op ox_eq (px_op ox_mod (px_op ox_div (px_var (i := 0)) px_int) px_int) px_int) (pa_cons (px_op ox_add px_int (px_call cx_law_pick (pa_cons (px_call cx_law_seed (pa_cons (px_var (i := 0)) (pa_cons px_int pa_nil))) (pa_cons (px_op ox_ix (px_lst (pa_cons px_int (pa_cons px_int pa_nil))) (px_op ox_mod (px_op ox_div (px_var (i := 0)) px_int) px_int)) pa_nil)))) pa_nil))))))))
def p_law_cell : List PV → PR PV := fnP 2 2
    (pSeq (pIfS (pBo (pOp pLt (pVar 1) (pCl pLen (pCons (pVar 0) pNil)))) (pRet (pOp pIx (pVar 0) (pVar 1))) pNx)
    (pRet (pC (.int 0))))
theorem cx_law_cell : CX m_law_cell p_law_cell := cx_fn (O := []) (W := [])
    (sx_seq (sx_if (pt_bo (px_op ox_I (px_var (i := 1)) (px_cl cx_len (pa_cons (px_var (i := 0)) pa_nil)))) (sx_ret (px_op ox_ix (px_var (i := 0)) (px_var (i := 1)))) sx_nx)
    (sx_ret px_int))
def p_law_in : List PV → PR PV := fnP 3 3
    (pRet (pAndV (pIsi "int" (pVar 0)) (pAndV (pNotV (pIsi "bool" (pVar 0))) (pChain pLe pLe (pVar 1) (pVar 0) (pVar 2)))))
theorem cx_law_in : CX m_law_in p_law_in := cx_fn (O := []) (W := [])
    (sx_ret (px_andV (px_isi (px_var (i := 0))) (px_andV (px_notV (px_isi (px_var (i := 0)))) (px_chain ox_I ox_I (px_var (i := 1)) (px_var (i := 0)) (px_var (i := 2))))))
def p_law_is_setting : List PV → PR PV := fnP 1 2
    (pSeq (pIfS (pOr (pNot (pTru (pIsi "tuple" (pVar 0)))) (pOr (pBo (pOp pNe (pCl pLen (pCons (pVar 0) pNil)) (pC (.int 3)))) (pNot (pTru (pIsi "tuple" (pOp pIx (pVar 0) (pC (.int 0)))))))) (pRet (pC (.bl false))) pNx)
    (pSeq (pIfS (pNot (pBo (pChain pLe pLe (pC (.int 2)) (pCl pLen (pCons (pOp pIx (pVar 0) (pC (.int 0))) pNil)) (pC (.int 8))))) (pRet (pC (.bl false))) pNx)
    (pSeq (pFor (pItT (pOp pIx (pVar 0) (pC (.int 0)))) (hN 1) (pIfS (pOr (pNot (pTru (pIsi "str" (pVar 1)))) (pOr (pNot (pBo (pChain pLe pLe (pC (.int 1)) (pCl pLen (pCons (pVar 1) pNil)) (pC (.int 4))))) (pBo (pOp pNe (pMt "str" pStrip (pVar 1) (pCons (pC (.str "sl")) pNil)) (pC (.str "")))))) (pRet (pC (.bl false))) pNx))
    (pSeq (pIfS (pOr (pNot (pTru (pIsi "bool" (pOp pIx (pVar 0) (pC (.int 1)))))) (pNot (pTru (pCall 3 p_law_in (pCons (pOp pIx (pVar 0) (pC (.int 2))) (pCons (pC (.int 1)) (pCons (pC (.int 60)) pNil))))))) (pRet (pC (.bl false))) pNx)
    (pRet (pOp pEq (pLenSet (pOp pIx (pVar 0) (pC (.int 0)))) (pCl pLen (pCons (pOp pIx (pVar 0) (pC (.int 0))) pNil))))))))
theorem cx_law_is_setting : CX m_law_is_setting p_law_is_setting := cx_fn (O := []) (W := [])
    (sx_seq (sx_if (pt_or (pt_not (pt_tru (px_isi (px_var (i := 0))))) (pt_or (pt_bo (px_op ox_ne (px_cl cx_len (pa_cons (px_var (i := 0)) pa_nil)) px_int)) (pt_not (pt_tru (px_isi (px_op ox_ix (px_var (i := 0)) px_int)))))) (sx_ret px_bl) sx_nx)
    (sx_seq (sx_if (pt_not (pt_bo (px_chain ox_I ox_I px_int (px_cl cx_len (pa_cons (px_op ox_ix (px_var (i := 0)) px_int) pa_nil)) px_int))) (sx_ret px_bl) sx_nx)
    (sx_seq (sx_for (pi_t (px_op ox_ix (px_var (i := 0)) px_int)) gx_n (sx_if (pt_or (pt_not (pt_tru (px_isi (px_var (i := 1))))) (pt_or (pt_not (pt_bo (px_chain ox_I ox_I px_int (px_cl cx_len (pa_cons (px_var (i := 1)) pa_nil)) px_int))) (pt_bo (px_op ox_ne (px_mt mx_strip (px_var (i := 1)) (pa_cons px_str pa_nil)) px_str)))) (sx_ret px_bl) sx_nx))
    (sx_seq (sx_if (pt_or (pt_not (pt_tru (px_isi (px_op ox_ix (px_var (i := 0)) px_int)))) (pt_not (pt_tru (px_call cx_law_in (pa_cons (px_op ox_ix (px_var (i := 0)) px_int) (pa_cons px_int (pa_cons px_int pa_nil))))))) (sx_ret px_bl) sx_nx)
    (sx_ret (px_op ox_eq (px_lenSet (px_op ox_ix (px_var (i := 0)) px_int)) (px_cl cx_len (pa_cons (px_op ox_ix (px_var (i := 0)) px_int) pa_nil))))))))
def p_is_code : List PV → PR PV := fnP 1 2
    (pSeq (pIfS (pOr (pNot (pTru (pIsi "str" (pVar 0)))) (pNot (pBo (pChain pLe pLe (pC (.int 1)) (pCl pLen (pCons (pVar 0) pNil)) (pC (.int 4)))))) (pRet (pC (.bl false))) pNx)
    (pRet (pNotV (pLc (pItS (pVar 0)) [1] (hN 1) (pBo (pOp pNotIn (pVar 1) (pC (.str "sl")))) (pVar 1)))))
theorem cx_is_code : CX m_is_code p_is_code := cx_fn (O := []) (W := [])
    (sx_seq (sx_if (pt_or (pt_not (pt_tru (px_isi (px_var (i := 0))))) (pt_not (pt_bo (px_chain ox_I ox_I px_int (px_cl cx_len (pa_cons (px_var (i := 0)) pa_nil)) px_int)))) (sx_ret px_bl) sx_nx)
    (sx_ret (px_notV (px_lc (pi_s (px_var (i := 0))) gx_n (pt_bo (px_op ox_in (px_var (i := 1)) px_str)) (px_var (i := 1))))))
def p_is_within : List PV → PR PV := fnP 3 3
    (pRet (pAndV (pIsi "int" (pVar 0)) (pAndV (pNotV (pIsi "bool" (pVar 0))) (pChain pLe pLe (pVar 1) (pVar 0) (pVar 2)))))
theorem cx_is_within : CX m_is_within p_is_within := cx_fn (O := []) (W := [])
    (sx_ret (px_andV (px_isi (px_var (i := 0))) (px_andV (px_notV (px_isi (px_var (i := 0)))) (px_chain ox_I ox_I (px_var (i := 1)) (px_var (i := 0)) (px_var (i := 2))))))
def p_is_setting : List PV → PR PV := fnP 1 2
    (pSeq (pIfS (pOr (pNot (pTru (pIsi "tuple" (pVar 0)))) (pOr (pBo (pOp pNe (pCl pLen (pCons (pVar 0) pNil)) (pC (.int 3)))) (pNot (pTru (pIsi "tuple" (pOp pIx (pVar 0) (pC (.int 0)))))))) (pRet (pC (.bl false))) pNx)
    (pSeq (pIfS (pOr (pNot (pBo (pChain pLe pLe (pC (.int 2)) (pCl pLen (pCons (pOp pIx (pVar 0) (pC (.int 0))) pNil)) (pC (.int 8))))) (pTru (pLc (pItT (pOp pIx (pVar 0) (pC (.int 0)))) [1] (hN 1) (pNot (pTru (pCall 1 p_is_code (pCons (pVar 1) pNil)))) (pVar 1)))) (pRet (pC (.bl false))) pNx)
    (pSeq (pIfS (pBo (pOp pNe (pLenSet (pOp pIx (pVar 0) (pC (.int 0)))) (pCl pLen (pCons (pOp pIx (pVar 0) (pC (.int 0))) pNil)))) (pRet (pC (.bl false))) pNx)
    (pRet (pAndV (pIsi "bool" (pOp pIx (pVar 0) (pC (.int 1)))) (pCall 3 p_is_within (pCons (pOp pIx (pVar 0) (pC (.int 2))) (pCons (pC (.int 1)) (pCons (pC (.int 60)) pNil)))))))))
theorem cx_is_setting : CX m_is_setting p_is_setting := cx_fn (O := []) (W := [])
    (sx_seq (sx_if (pt_or (pt_not (pt_tru (px_isi (px_var (i := 0))))) (pt_or (pt_bo (px_op ox_ne (px_cl cx_len (pa_cons (px_var (i := 0)) pa_nil)) px_int)) (pt_not (pt_tru (px_isi (px_op ox_ix (px_var (i := 0)) px_int)))))) (sx_ret px_bl) sx_nx)
    (sx_seq (sx_if (pt_or (pt_not (pt_bo (px_chain ox_I ox_I px_int (px_cl cx_len (pa_cons (px_op ox_ix (px_var (i := 0)) px_int) pa_nil)) px_int))) (pt_tru (px_lc (pi_t (px_op ox_ix (px_var (i := 0)) px_int)) gx_n (pt_not (pt_tru (px_call cx_is_code (pa_cons (px_var (i := 1)) pa_nil)))) (px_var (i := 1))))) (sx_ret px_bl) sx_nx)
    (sx_seq (sx_if (pt_bo (px_op ox_ne (px_lenSet (px_op ox_ix (px_var (i := 0)) px_int)) (px_cl cx_len (pa_cons (px_op ox_ix (px_var (i := 0)) px_int) pa_nil)))) (sx_ret px_bl) sx_nx)
    (sx_ret (px_andV (px_isi (px_op ox_ix (px_var (i := 0)) px_int)) (px_call cx_is_within (pa_cons (px_op ox_ix (px_var (i := 0)) px_int) (pa_cons px_int (pa_cons px_int pa_nil)))))))))
def p_look : List PV → PR PV := fnP 1 1
    (pIfS (pNot (pTru (pCall 1 p_is_setting (pCons (pVar 0) pNil)))) (pRaise "NoSetting") pNx)
theorem cx_look : CX m_look p_look := cx_fn (O := []) (W := [])
    (sx_if (pt_not (pt_tru (px_call cx_is_setting (pa_cons (px_var (i := 0)) pa_nil)))) sx_raise sx_nx)
def p_Line_init : PV → List PV → PW := fnO 2 2
    (pSeq (pExpr (pCall 1 p_look (pCons (pVar 1) pNil)))
    (pSeq (pSetFldF 0 "Line" "setting" (pVar 1))
    (pSeq (pSetFldF 0 "Line" "tick_now" (pC (.int 0)))
    (pSeq (pSetFldN 0 "Line" "off" (pLst pNil))
    (pSeq (pSetFldF 0 "Line" "asker" (pC .non))
    (pSeq (pSetFldF 0 "Line" "dialled" (pC .non))
    (pSeq (pSetFldF 0 "Line" "rung" (pC .non))
    (pSeq (pSetFldF 0 "Line" "outside" (pC (.str "")))
    (pSeq (pSetFldN 0 "Line" "inside" (pLst pNil))
    (pSeq (pSetFldN 0 "Line" "queue" (pLst pNil))
    (pSetFldN 0 "Line" "let" (pLst pNil))))))))))))
theorem fo_Line_init : FO m_Line_init p_Line_init := fo_fn (O := [0]) (W := [0])
    (sx_seq (sx_expr (px_call cx_look (pa_cons (px_var (i := 1)) pa_nil)))
    (sx_seq (sx_fldF (i := 0) (c := "Line") (f := "setting") (px_var (i := 1)))
    (sx_seq (sx_fldF (i := 0) (c := "Line") (f := "tick_now") px_int)
    (sx_seq (sx_fldN (i := 0) (c := "Line") (f := "off") (pxn_lst pa_nil))
    (sx_seq (sx_fldF (i := 0) (c := "Line") (f := "asker") px_non)
    (sx_seq (sx_fldF (i := 0) (c := "Line") (f := "dialled") px_non)
    (sx_seq (sx_fldF (i := 0) (c := "Line") (f := "rung") px_non)
    (sx_seq (sx_fldF (i := 0) (c := "Line") (f := "outside") px_str)
    (sx_seq (sx_fldN (i := 0) (c := "Line") (f := "inside") (pxn_lst pa_nil))
    (sx_seq (sx_fldN (i := 0) (c := "Line") (f := "queue") (pxn_lst pa_nil))
    (sx_fldN (i := 0) (c := "Line") (f := "let") (pxn_lst pa_nil))))))))))))
def p_beats : List PV → PR PV := fnP 1 3
    (pSeq (pSetO 1 (pLst pNil))
    (pSeq (pFor (pItS (pVar 0)) (hN 2) (pExtF 1 (pOp pAdd (pOp pMul (pLst (pCons (pC (.bl true)) pNil)) (pIf (pBo (pOp pEq (pVar 2) (pC (.str "l")))) (pC (.int 3)) (pC (.int 1)))) (pLst (pCons (pC (.bl false)) pNil)))))
    (pRet (pOp pAdd (pVar 1) (pOp pMul (pLst (pCons (pC (.bl false)) pNil)) (pOp pSub (pC (.int 4)) (pC (.int 1))))))))
theorem cx_beats : CX m_beats p_beats := cx_fn (O := [1]) (W := [1])
    (sx_seq (sx_setO (i := 1) (pxn_lst pa_nil))
    (sx_seq (sx_for (pi_s (px_var (i := 0))) gx_n (sx_extF (i := 1) (px_op ox_add (px_op ox_mul (px_lst (pa_cons px_bl pa_nil)) (px_if (pt_bo (px_op ox_eq (px_var (i := 2)) px_str)) px_int px_int)) (px_lst (pa_cons px_bl pa_nil)))))
    (sx_ret (px_op ox_add (px_var (i := 1)) (px_op ox_mul (px_lst (pa_cons px_bl pa_nil)) (px_op ox_sub px_int px_int))))))
def p_ring : List PV → PR PV := fnP 2 4
    (pSeq (pIfS (pNot (pTru (pCall 1 p_is_code (pCons (pVar 0) pNil)))) (pRaise "NoCode") pNx)
    (pSeq (pIfS (pNot (pTru (pCall 3 p_is_within (pCons (pVar 1) (pCons (pC (.int 0)) (pCons (pC (.int 400)) pNil)))))) (pRaise "NoCount") pNx)
    (pSeq (pSet 2 (pCall 1 p_beats (pCons (pVar 0) pNil)))
    (pRet (pLc (pItR1 (pVar 1)) [3] (hN 3) pYes (pOp pIx (pVar 2) (pOp pMod (pVar 3) (pCl pLen (pCons (pVar 2) pNil)))))))))
theorem cx_ring : CX m_ring p_ring := cx_fn (O := []) (W := [])
    (sx_seq (sx_if (pt_not (pt_tru (px_call cx_is_code (pa_cons (px_var (i := 0)) pa_nil)))) sx_raise sx_nx)
    (sx_seq (sx_if (pt_not (pt_tru (px_call cx_is_within (pa_cons (px_var (i := 1)) (pa_cons px_int (pa_cons px_int pa_nil)))))) sx_raise sx_nx)
    (sx_seq (sx_set (i := 2) (px_call cx_beats (pa_cons (px_var (i := 0)) pa_nil)))
    (sx_ret (px_lc (pi_r1 (px_var (i := 1))) gx_n pt_yes (px_op ox_ix (px_var (i := 2)) (px_op ox_mod (px_var (i := 3)) (px_cl cx_len (pa_cons (px_var (i := 2)) pa_nil)))))))))
def p_meant : List PV → PR PV := fnP 2 5
    (pSeq (pExpr (pCall 1 p_look (pCons (pVar 0) pNil)))
    (pSeq (pIfS (pOr (pNot (pTru (pIsi "list" (pVar 1)))) (pOr (pBo (pOp pGt (pCl pLen (pCons (pVar 1) pNil)) (pC (.int 400)))) (pTru (pLc (pItL (pVar 1)) [2] (hN 2) (pNot (pTru (pIsi "bool" (pVar 2)))) (pVar 2))))) (pRaise "NoCode") pNx)
    (pRet (pLc (pItET (pOp pIx (pVar 0) (pC (.int 0)))) [3, 4] (hT (hsC (hN 3) (hsC (hN 4) hsN))) (pBo (pOp pEq (pCall 2 p_ring (pCons (pVar 4) (pCons (pCl pLen (pCons (pVar 1) pNil)) pNil))) (pVar 1))) (pVar 3)))))
theorem cx_meant : CX m_meant p_meant := cx_fn (O := []) (W := [])
    (sx_seq (sx_expr (px_call cx_look (pa_cons (px_var (i := 0)) pa_nil)))
    (sx_seq (sx_if (pt_or (pt_not (pt_tru (px_isi (px_var (i := 1))))) (pt_or (pt_bo (px_op ox_I (px_cl cx_len (pa_cons (px_var (i := 1)) pa_nil)) px_int)) (pt_tru (px_lc (pi_l (px_var (i := 1))) gx_n (pt_not (pt_tru (px_isi (px_var (i := 2))))) (px_var (i := 2)))))) sx_raise sx_nx)
    (sx_ret (px_lc (pi_et (px_op ox_ix (px_var (i := 0)) px_int)) (gx_t (gxs_cons gx_n (gxs_cons gx_n gxs_nil))) (pt_bo (px_op ox_eq (px_call cx_ring (pa_cons (px_var (i := 4)) (pa_cons (px_cl cx_len (pa_cons (px_var (i := 1)) pa_nil)) pa_nil))) (px_var (i := 1)))) (px_var (i := 3))))))
def p_look_house : List PV → PR PV := fnP 2 2
    (pIfS (pNot (pTru (pCall 3 p_is_within (pCons (pVar 1) (pCons (pC (.int 0)) (pCons (pOp pSub (pCl pLen (pCons (pOp pIx (pVar 0) (pC (.int 0))) pNil)) (pC (.int 1))) pNil)))))) (pRaise "NoHouse") pNx)
theorem cx_look_house : CX m_look_house p_look_house := cx_fn (O := []) (W := [])
    (sx_if (pt_not (pt_tru (px_call cx_is_within (pa_cons (px_var (i := 1)) (pa_cons px_int (pa_cons (px_op ox_sub (px_cl cx_len (pa_cons (px_op ox_ix (px_var (i := 0)) px_int) pa_nil)) px_int) pa_nil)))))) sx_raise sx_nx)
def p_sure_behind : List PV → PR PV := fnP 2 4
    (pSeq (pExpr (pCall 1 p_look (pCons (pVar 0) pNil)))
    (pSeq (pExpr (pCall 2 p_look_house (pCons (pVar 0) (pCons (pVar 1) pNil))))
    (pSeq (pSet 2 (pCall 2 p_ring (pCons (pOp pIx (pOp pIx (pVar 0) (pC (.int 0))) (pVar 1)) (pCons (pC (.int 400)) pNil))))
    (pSeq (pSet 3 (pC (.int 0)))
    (pSeq (pWhile (pBo (pOp pNe (pCall 2 p_meant (pCons (pVar 0) (pCons (pSl (pVar 2) pNoP (pPart (pVar 3))) pNil))) (pLst (pCons (pVar 1) pNil)))) (pAugI (fun a b => a + b) 3 (pC (.int 1))) 1000)
    (pRet (pVar 3)))))))
theorem cx_sure_behind : CX m_sure_behind p_sure_behind := cx_fn (O := []) (W := [])
    (sx_seq (sx_expr (px_call cx_look (pa_cons (px_var (i := 0)) pa_nil)))
    (sx_seq (sx_expr (px_call cx_look_house (pa_cons (px_var (i := 0)) (pa_cons (px_var (i := 1)) pa_nil))))
    (sx_seq (sx_set (i := 2) (px_call cx_ring (pa_cons (px_op ox_ix (px_op ox_ix (px_var (i := 0)) px_int) (px_var (i := 1))) (pa_cons px_int pa_nil))))
    (sx_seq (sx_set (i := 3) px_int)
    (sx_seq (sx_while (pt_bo (px_op ox_ne (px_call cx_meant (pa_cons (px_var (i := 0)) (pa_cons (px_sl (px_var (i := 2)) po_no (po_part (px_var (i := 3)))) pa_nil))) (px_lst (pa_cons (px_var (i := 1)) pa_nil)))) (sx_aug (i := 3) px_int) 1000)
    (sx_ret (px_var (i := 3))))))))
def p_all_codes : List PV → PR PV := fnP 0 4
    (pSeq (pSet 0 (pLst (pCons (pC (.str "")) pNil)))
    (pSeq (pSetO 1 (pLst pNil))
    (pSeq (pFor (pItR1 (pC (.int 4))) (hN 2) (pSeq (pSet 0 (pOp pAdd (pLc (pItL (pVar 0)) [3] (hN 3) pYes (pOp pAdd (pVar 3) (pC (.str "l")))) (pLc (pItL (pVar 0)) [3] (hN 3) pYes (pOp pAdd (pVar 3) (pC (.str "s"))))))
    (pExtF 1 (pVar 0))))
    (pRet (pVar 1)))))
theorem cx_all_codes : CX m_all_codes p_all_codes := cx_fn (O := [1]) (W := [1])
    (sx_seq (sx_set (i := 0) (px_lst (pa_cons px_str pa_nil)))
    (sx_seq (sx_setO (i := 1) (pxn_lst pa_nil))
    (sx_seq (sx_for (pi_r1 px_int) gx_n (sx_seq (sx_set (i := 0) (px_op ox_add (px_lc (pi_l (px_var (i := 0))) gx_n pt_yes (px_op ox_add (px_var (i := 3)) px_str)) (px_lc (pi_l (px_var (i := 0))) gx_n pt_yes (px_op ox_add (px_var (i := 3)) px_str))))
    (sx_extF (i := 1) (px_var (i := 0)))))
    (sx_ret (px_var (i := 1))))))
def p_codes_for : List PV → PR PV := fnP 1 8
    (pSeq (pIfS (pOr (pNot (pTru (pIsi "list" (pVar 0)))) (pOr (pNot (pBo (pChain pLe pLe (pC (.int 2)) (pCl pLen (pCons (pVar 0) pNil)) (pC (.int 8))))) (pTru (pLc (pItL (pVar 0)) [4] (hN 4) (pNot (pTru (pCall 3 p_is_within (pCons (pVar 4) (pCons (pC (.int 0)) (pCons (pC (.int 999)) pNil)))))) (pVar 4))))) (pRaise "NoCount") pNx)
    (pSeq (pSet 1 (pCl pSortA (pCons (pLc (pItL (pCall0 p_all_codes)) [5] (hN 5) pYes (pTup (pCons (pCl pLen (pCons (pCall 1 p_beats (pCons (pVar 5) pNil)) pNil)) (pCons (pVar 5) pNil)))) pNil)))
    (pSeq (pSet 2 (pCl pSortA (pCons (pLc (pItEL (pVar 0)) [6, 4] (hT (hsC (hN 6) (hsC (hN 4) hsN))) pYes (pTup (pCons (pNeg (pVar 4)) (pCons (pVar 6) pNil)))) pNil)))
    (pSeq (pSet 3 (pCl pDict (pCons (pLc (pItEL (pVar 2)) [7, 4, 6] (hT (hsC (hN 7) (hsC (hT (hsC (hN 4) (hsC (hN 6) hsN))) hsN))) pYes (pTup (pCons (pVar 6) (pCons (pOp pIx (pOp pIx (pVar 1) (pVar 7)) (pC (.int 1))) pNil)))) pNil)))
    (pRet (pCl pTuple (pCons (pLc (pItR1 (pCl pLen (pCons (pVar 0) pNil))) [6] (hN 6) pYes (pOp pDGet (pVar 3) (pVar 6))) pNil)))))))
theorem cx_codes_for : CX m_codes_for p_codes_for := cx_fn (O := []) (W := [])
    (sx_seq (sx_if (pt_or (pt_not (pt_tru (px_isi (px_var (i := 0))))) (pt_or (pt_not (pt_bo (px_chain ox_I ox_I px_int (px_cl cx_len (pa_cons (px_var (i := 0)) pa_nil)) px_int))) (pt_tru (px_lc (pi_l (px_var (i := 0))) gx_n (pt_not (pt_tru (px_call cx_is_within (pa_cons (px_var (i := 4)) (pa_cons px_int (pa_cons px_int pa_nil)))))) (px_var (i := 4)))))) sx_raise sx_nx)
    (sx_seq (sx_set (i := 1) (px_cl cx_sortA (pa_cons (px_lc (pi_l (px_call0 cx_all_codes)) gx_n pt_yes (px_tup (pa_cons (px_cl cx_len (pa_cons (px_call cx_beats (pa_cons (px_var (i := 5)) pa_nil)) pa_nil)) (pa_cons (px_var (i := 5)) pa_nil)))) pa_nil)))
    (sx_seq (sx_set (i := 2) (px_cl cx_sortA (pa_cons (px_lc (pi_el (px_var (i := 0))) (gx_t (gxs_cons gx_n (gxs_cons gx_n gxs_nil))) pt_yes (px_tup (pa_cons (px_neg (px_var (i := 4))) (pa_cons (px_var (i := 6)) pa_nil)))) pa_nil)))
    (sx_seq (sx_set (i := 3) (px_cl cx_dict (pa_cons (px_lc (pi_el (px_var (i := 2))) (gx_t (gxs_cons gx_n (gxs_cons (gx_t (gxs_cons gx_n (gxs_cons gx_n gxs_nil))) gxs_nil))) pt_yes (px_tup (pa_cons (px_var (i := 6)) (pa_cons (px_op ox_ix (px_op ox_ix (px_var (i := 1)) (px_var (i := 7))) px_int) pa_nil)))) pa_nil)))
    (sx_ret (px_cl cx_tuple (pa_cons (px_lc (pi_r1 (px_cl cx_len (pa_cons (px_var (i := 0)) pa_nil))) gx_n pt_yes (px_op ox_dget (px_var (i := 3)) (px_var (i := 6)))) pa_nil)))))))
def p_law_looked : List PV → PR PV := fnP 2 2
    (pSeq (pIfS (pBo (pOp pLt (pVar 0) (pC (.int 4)))) (pSeq (pIfS (pBo (pOp pEq (pVar 0) (pC (.int 0)))) (pRet (pMake "Line" 1 p_Line_init (pCons (pVar 1) pNil))) pNx)
    (pSeq (pIfS (pBo (pOp pEq (pVar 0) (pC (.int 1)))) (pRet (pCall 2 p_meant (pCons (pOp pIx (pVar 1) (pC (.int 0))) (pCons (pOp pIx (pVar 1) (pC (.int 1))) pNil)))) pNx)
    (pRet (pIf (pBo (pOp pEq (pVar 0) (pC (.int 2)))) (pCall 2 p_ring (pCons (pOp pIx (pVar 1) (pC (.int 0))) (pCons (pOp pIx (pVar 1) (pC (.int 1))) pNil))) (pCall 2 p_sure_behind (pCons (pOp pIx (pVar 1) (pC (.int 0))) (pCons (pOp pIx (pVar 1) (pC (.int 1))) pNil))))))) pNx)
    (pSeq (pIfS (pBo (pOp pLt (pVar 0) (pC (.int 8)))) (pSeq (pIfS (pBo (pOp pEq (pVar 0) (pC (.int 4)))) (pRet (pCall 1 p_codes_for (pCons (pVar 1) pNil))) pNx)
    (pSeq (pIfS (pBo (pOp pEq (pVar 0) (pC (.int 5)))) pBadS pNx)
    (pRet pBad))) pNx)
    (pRet pBad)))
theorem cx_law_looked : CX m_law_looked p_law_looked := cx_fn (O := []) (W := [])
    (sx_seq (sx_if (pt_bo (px_op ox_I (px_var (i := 0)) px_int)) (sx_seq (sx_if (pt_bo (px_op ox_eq (px_var (i := 0)) px_int)) (sx_ret (PXO.px (pxo_make (c := "Line") fo_Line_init (pa_cons (px_var (i := 1)) pa_nil)))) sx_nx)
    (sx_seq (sx_if (pt_bo (px_op ox_eq (px_var (i := 0)) px_int)) (sx_ret (px_call cx_meant (pa_cons (px_op ox_ix (px_var (i := 1)) px_int) (pa_cons (px_op ox_ix (px_var (i := 1)) px_int) pa_nil)))) sx_nx)
    (sx_ret (px_if (pt_bo (px_op ox_eq (px_var (i := 0)) px_int)) (px_call cx_ring (pa_cons (px_op ox_ix (px_var (i := 1)) px_int) (pa_cons (px_op ox_ix (px_var (i := 1)) px_int) pa_nil))) (px_call cx_sure_behind (pa_cons (px_op ox_ix (px_var (i := 1)) px_int) (pa_cons (px_op ox_ix (px_var (i := 1)) px_int) pa_nil))))))) sx_nx)
    (sx_seq (sx_if (pt_bo (px_op ox_I (px_var (i := 0)) px_int)) (sx_seq (sx_if (pt_bo (px_op ox_eq (px_var (i := 0)) px_int)) (sx_ret (px_call cx_codes_for (pa_cons (px_var (i := 1)) pa_nil))) sx_nx)
    (sx_seq (sx_if (pt_bo (px_op ox_eq (px_var (i := 0)) px_int)) sx_bad sx_nx)
    (sx_ret (px_bad (U := []))))) sx_nx)
    (sx_ret (px_bad (U := [])))))
def p_law_word : List PV → PR PV := fnP 2 3
    (pSeq (pSet 2 (pC (.str "")))
    (pSeq (pTry tabL (pExpr (pCall 2 p_law_looked (pCons (pVar 0) (pCons (pVar 1) pNil))))
    [("NoSetting", (pSet 2 (pC (.str "setting")))), ("NoCode", (pSet 2 (pC (.str "code")))), ("NoHouse", (pSet 2 (pC (.str "house")))), ("NoCount", (pSet 2 (pC (.str "count")))), ("NoDeeds", (pSet 2 (pC (.str "deeds")))), ("NoText", (pSet 2 (pC (.str "text"))))])
    (pRet (pVar 2))))
theorem cx_law_word : CX m_law_word p_law_word := cx_fn (O := []) (W := [])
    (sx_seq (sx_set (i := 2) px_str)
    (sx_seq (sx_try (sx_expr (px_call cx_law_looked (pa_cons (px_var (i := 0)) (pa_cons (px_var (i := 1)) pa_nil)))) (.cons (sx_set (i := 2) px_str) (.cons (sx_set (i := 2) px_str) (.cons (sx_set (i := 2) px_str) (.cons (sx_set (i := 2) px_str) (.cons (sx_set (i := 2) px_str) (.cons (sx_set (i := 2) px_str) .nil)))))))
    (sx_ret (px_var (i := 2)))))
def p_law_beats : List PV → PR PV := fnP 1 3
    (pSeq (pSet 1 (pLst pNil))
    (pSeq (pFor (pItS (pVar 0)) (hN 2) (pSet 1 (pOp pAdd (pOp pAdd (pVar 1) (pOp pMul (pLst (pCons (pC (.bl true)) pNil)) (pOp pDGet (pDisp [((pC (.str "s")), (pC (.int 1))), ((pC (.str "l")), (pC (.int 3)))]) (pVar 2)))) (pLst (pCons (pC (.bl false)) pNil)))))
    (pRet (pOp pAdd (pVar 1) (pLst (pCons (pC (.bl false)) (pCons (pC (.bl false)) (pCons (pC (.bl false)) pNil))))))))
theorem cx_law_beats : CX m_law_beats p_law_beats := cx_fn (O := []) (W := [])
    (sx_seq (sx_set (i := 1) (px_lst pa_nil))
    (sx_seq (sx_for (pi_s (px_var (i := 0))) gx_n (sx_set (i := 1) (px_op ox_add (px_op ox_add (px_var (i := 1)) (px_op ox_mul (px_lst (pa_cons px_bl pa_nil)) (px_op ox_dget (px_disp (.cons px_str px_int (.cons px_str px_int .nil))) (px_var (i := 2))))) (px_lst (pa_cons px_bl pa_nil)))))
    (sx_ret (px_op ox_add (px_var (i := 1)) (px_lst (pa_cons px_bl (pa_cons px_bl (pa_cons px_bl pa_nil))))))))
def p_law_ring : List PV → PR PV := fnP 2 4
    (pSeq (pSet 2 (pCall 1 p_law_beats (pCons (pVar 0) pNil)))
    (pRet (pLc (pItR1 (pVar 1)) [3] (hN 3) pYes (pOp pIx (pVar 2) (pOp pMod (pVar 3) (pCl pLen (pCons (pVar 2) pNil)))))))
theorem cx_law_ring : CX m_law_ring p_law_ring := cx_fn (O := []) (W := [])
    (sx_seq (sx_set (i := 2) (px_call cx_law_beats (pa_cons (px_var (i := 0)) pa_nil)))
    (sx_ret (px_lc (pi_r1 (px_var (i := 1))) gx_n pt_yes (px_op ox_ix (px_var (i := 2)) (px_op ox_mod (px_var (i := 3)) (px_cl cx_len (pa_cons (px_var (i := 2)) pa_nil)))))))
def p_law : List PV → PR PV := fnP 1 19
    (pSeq (pSet 1 (pCall 1 p_law_setting (pCons (pCall 2 p_law_seed (pCons (pCall 2 p_law_cell (pCons (pVar 0) (pCons (pC (.int 0)) pNil))) (pCons (pC (.int 0)) pNil))) pNil)))
    (pSeq (pSet 2 (pLst (pCons (pC .non) (pCons (pTup pNil) (pCons (pTup (pCons (pC (.str "s")) pNil)) (pCons (pTup (pCons (pC (.str "s")) (pCons (pC (.str "s")) pNil))) (pCons (pTup (pCons (pC (.str "s")) (pCons (pC (.str "")) pNil))) (pCons (pTup (pCons (pC (.str "s")) (pCons (pC (.str "x")) pNil))) (pCons (pTup (pCons (pC (.str "sssss")) (pCons (pC (.str "s")) pNil))) (pCons (pC (.bl true)) (pCons (pC (.int 0)) (pCons (pC (.int 1)) (pCons (pC (.int 60)) (pCons (pC (.int 61)) (pCons (pLst (pCons (pC (.str "s")) (pCons (pC (.str "l")) pNil))) pNil)))))))))))))))
    (pSeq (pSet 2 (pOp pAdd (pVar 2) (pLst (pCons (pTup (pCons (pC (.str "l")) (pCons (pC (.str "s")) pNil))) (pCons (pNeg (pC (.int 1))) pNil)))))
    (pSeq (pSet 3 (pOp pMod (pCall 2 p_law_cell (pCons (pVar 0) (pCons (pC (.int 1)) pNil))) (pC (.int 3))))
    (pSeq (pSet 4 (pOp pAdd (pOp pAdd (pSl (pVar 1) pNoP (pPart (pVar 3))) (pTup (pCons (pOp pIx (pVar 2) (pOp pMod (pCall 2 p_law_cell (pCons (pVar 0) (pCons (pC (.int 2)) pNil))) (pC (.int 15)))) pNil))) (pSl (pVar 1) (pPart (pOp pAdd (pVar 3) (pC (.int 1)))) pNoP)))
    (pSeq (pSet 4 (pOp pIx (pLst (pCons (pVar 4) (pCons (pVar 4) (pCons (pCl pList (pCons (pVar 1) pNil)) (pCons (pSl (pVar 1) pNoP (pPart (pC (.int 2)))) (pCons (pOp pAdd (pVar 1) (pTup (pCons (pC (.int 1)) pNil))) pNil)))))) (pOp pMod (pCall 2 p_law_cell (pCons (pVar 0) (pCons (pC (.int 3)) pNil))) (pC (.int 5)))))
    (pSeq (pSet 5 (pCall 1 p_law_is_setting (pCons (pVar 4) pNil)))
    (pSeq (pIfS (pBo (pOp pNe (pLst (pCons (pCall 1 p_is_setting (pCons (pVar 1) pNil)) (pCons (pCall 1 p_is_setting (pCons (pVar 4) pNil)) (pCons (pOp pEq (pCall 2 p_law_word (pCons (pC (.int 0)) (pCons (pVar 4) pNil))) (pC (.str ""))) pNil)))) (pLst (pCons (pC (.bl true)) (pCons (pVar 5) (pCons (pVar 5) pNil)))))) (pRet (pC (.bl false))) pNx)
    (pSeq (pPar 6 7 (pCons (pOp pIx (pVar 1) (pC (.int 0))) (pCons (pOp pMod (pCall 2 p_law_cell (pCons (pVar 0) (pCons (pC (.int 4)) pNil))) (pCl pLen (pCons (pOp pIx (pVar 1) (pC (.int 0))) pNil))) pNil)))
    (pSeq (pSet 8 (pOp pIx (pLst (pCons (pOp pMod (pCall 2 p_law_cell (pCons (pVar 0) (pCons (pC (.int 5)) pNil))) (pC (.int 30))) (pCons (pOp pMod (pCall 2 p_law_cell (pCons (pVar 0) (pCons (pC (.int 5)) pNil))) (pC (.int 401))) pNil))) (pOp pMod (pCall 2 p_law_cell (pCons (pVar 0) (pCons (pC (.int 6)) pNil))) (pC (.int 2)))))
    (pSeq (pSet 9 (pCall 2 p_law_ring (pCons (pOp pIx (pVar 6) (pVar 7)) (pCons (pVar 8) pNil))))
    (pSeq (pIfS (pBo (pOp pNe (pCall 2 p_ring (pCons (pOp pIx (pVar 6) (pVar 7)) (pCons (pVar 8) pNil))) (pVar 9))) (pRet (pC (.bl false))) pNx)
    (pSeq (pIfS (pAnd (pBo (pOp pGt (pVar 8) (pC (.int 0)))) (pBo (pOp pEq (pOp pMod (pCall 2 p_law_cell (pCons (pVar 0) (pCons (pC (.int 7)) pNil))) (pC (.int 3))) (pC (.int 0))))) (pSeq (pSet 3 (pOp pMod (pCall 2 p_law_cell (pCons (pVar 0) (pCons (pC (.int 8)) pNil))) (pVar 8)))
    (pSet 9 (pOp pAdd (pOp pAdd (pSl (pVar 9) pNoP (pPart (pVar 3))) (pLst (pCons (pNotV (pOp pIx (pVar 9) (pVar 3))) pNil))) (pSl (pVar 9) (pPart (pOp pAdd (pVar 3) (pC (.int 1)))) pNoP)))) pNx)
    (pSeq (pSet 10 (pLc (pItET (pVar 6)) [11, 12] (hT (hsC (hN 11) (hsC (hN 12) hsN))) (pBo (pOp pEq (pCall 2 p_law_ring (pCons (pVar 12) (pCons (pVar 8) pNil))) (pVar 9))) (pVar 11)))
    (pSeq (pIfS (pBo (pOp pNe (pLc (pItT (pTup (pCons (pCall 2 p_ring (pCons (pOp pIx (pVar 6) (pVar 7)) (pCons (pC (.int 400)) pNil))) (pCons (pCl pList (pCons (pVar 9) pNil)) pNil)))) [18] (hN 18) pYes (pCall 2 p_meant (pCons (pVar 1) (pCons (pVar 18) pNil)))) (pLst (pCons (pLst (pCons (pVar 7) pNil)) (pCons (pVar 10) pNil))))) (pRet (pC (.bl false))) pNx)
    (pSeq (pFor (pItET (pVar 6)) (hT (hsC (hN 11) (hsC (hN 12) hsN))) (pSeq (pSet 13 (pCall 2 p_sure_behind (pCons (pVar 1) (pCons (pVar 11) pNil))))
    (pFor (pItT (pTup (pCons (pOp pSub (pVar 13) (pC (.int 1))) (pCons (pVar 13) pNil)))) (hN 8) (pSeq (pSet 14 (pLc (pItT (pVar 6)) [18] (hN 18) (pBo (pOp pEq (pCall 2 p_law_ring (pCons (pVar 18) (pCons (pCl pMax (pCons (pC (.int 0)) (pCons (pVar 8) pNil))) pNil))) (pCall 2 p_law_ring (pCons (pVar 12) (pCons (pCl pMax (pCons (pC (.int 0)) (pCons (pVar 8) pNil))) pNil))))) (pVar 18)))
    (pIfS (pBo (pOp pNe (pOp pEq (pCl pLen (pCons (pVar 14) pNil)) (pC (.int 1))) (pOp pEq (pVar 8) (pVar 13)))) (pRet (pC (.bl false))) pNx)))))
    (pSeq (pSet 15 (pOp pIx (pLst (pCons (pC .non) (pCons (pTup (pCons (pC (.bl true)) pNil)) (pCons (pLst (pCons (pC (.int 1)) pNil)) (pCons (pOp pMul (pLst (pCons (pC (.bl true)) pNil)) (pC (.int 401))) (pCons (pC (.str "")) (pCons (pLst (pCons (pC .non) pNil)) (pCons (pC (.int 7)) pNil)))))))) (pOp pMod (pCall 2 p_law_cell (pCons (pVar 0) (pCons (pC (.int 9)) pNil))) (pC (.int 7)))))
    (pSeq (pSet 16 (pOp pIx (pLst (pCons (pNeg (pC (.int 1))) (pCons (pC (.int 401)) (pCons (pC .non) (pCons (pC (.bl true)) pNil))))) (pOp pMod (pCall 2 p_law_cell (pCons (pVar 0) (pCons (pC (.int 10)) pNil))) (pC (.int 4)))))
    (pSeq (pSet 17 (pLst (pCons (pCall 2 p_law_word (pCons (pC (.int 1)) (pCons (pTup (pCons (pC .non) (pCons (pVar 15) pNil))) pNil))) (pCons (pCall 2 p_law_word (pCons (pC (.int 1)) (pCons (pTup (pCons (pVar 1) (pCons (pVar 15) pNil))) pNil))) (pCons (pCall 2 p_law_word (pCons (pC (.int 2)) (pCons (pTup (pCons (pC (.str "")) (pCons (pVar 16) pNil))) pNil))) pNil)))))
    (pSeq (pSet 17 (pOp pAdd (pVar 17) (pLst (pCons (pCall 2 p_law_word (pCons (pC (.int 2)) (pCons (pTup (pCons (pC (.str "s")) (pCons (pVar 16) pNil))) pNil))) (pCons (pCall 2 p_law_word (pCons (pC (.int 3)) (pCons (pTup (pCons (pC .non) (pCons (pVar 16) pNil))) pNil))) (pCons (pCall 2 p_law_word (pCons (pC (.int 3)) (pCons (pTup (pCons (pVar 1) (pCons (pVar 16) pNil))) pNil))) pNil))))))
    (pRet (pOp pEq (pVar 17) (pLst (pCons (pC (.str "setting")) (pCons (pC (.str "code")) (pCons (pC (.str "code")) (pCons (pC (.str "count")) (pCons (pC (.str "setting")) (pCons (pC (.str "house")) pNil)))))))))))))))))))))))))))))
theorem cx_law : CX m_law p_law := cx_fn (O := []) (W := [])
    (sx_seq (sx_set (i := 1) (px_call cx_law_setting (pa_cons (px_call cx_law_seed (pa_cons (px_call cx_law_cell (pa_cons (px_var (i := 0)) (pa_cons px_int pa_nil))) (pa_cons px_int pa_nil))) pa_nil)))
    (sx_seq (sx_set (i := 2) (px_lst (pa_cons px_non (pa_cons (px_tup pa_nil) (pa_cons (px_tup (pa_cons px_str pa_nil)) (pa_cons (px_tup (pa_cons px_str (pa_cons px_str pa_nil))) (pa_cons (px_tup (pa_cons px_str (pa_cons px_str pa_nil))) (pa_cons (px_tup (pa_cons px_str (pa_cons px_str pa_nil))) (pa_cons (px_tup (pa_cons px_str (pa_cons px_str pa_nil))) (pa_cons px_bl (pa_cons px_int (pa_cons px_int (pa_cons px_int (pa_cons px_int (pa_cons (px_lst (pa_cons px_str (pa_cons px_str pa_nil))) pa_nil)))))))))))))))
    (sx_seq (sx_set (i := 2) (px_op ox_add (px_var (i := 2)) (px_lst (pa_cons (px_tup (pa_cons px_str (pa_cons px_str pa_nil))) (pa_cons (px_neg px_int) pa_nil)))))
    (sx_seq (sx_set (i := 3) (px_op ox_mod (px_call cx_law_cell (pa_cons (px_var (i := 0)) (pa_cons px_int pa_nil))) px_int))
    (sx_seq (sx_set (i := 4) (px_op ox_add (px_op ox_add (px_sl (px_var (i := 1)) po_no (po_part (px_var (i := 3)))) (px_tup (pa_cons (px_op ox_ix (px_var (i := 2)) (px_op ox_mod (px_call cx_law_cell (pa_cons (px_var (i := 0)) (pa_cons px_int pa_nil))) px_int)) pa_nil))) (px_sl (px_var (i := 1)) (po_part (px_op ox_add (px_var (i := 3)) px_int)) po_no)))
    (sx_seq (sx_set (i := 4) (px_op ox_ix (px_lst (pa_cons (px_var (i := 4)) (pa_cons (px_var (i := 4)) (pa_cons (px_cl cx_list (pa_cons (px_var (i := 1)) pa_nil)) (pa_cons (px_sl (px_var (i := 1)) po_no (po_part px_int)) (pa_cons (px_op ox_add (px_var (i := 1)) (px_tup (pa_cons px_int pa_nil))) pa_nil)))))) (px_op ox_mod (px_call cx_law_cell (pa_cons (px_var (i := 0)) (pa_cons px_int pa_nil))) px_int)))
    (sx_seq (sx_set (i := 5) (px_call cx_law_is_setting (pa_cons (px_var (i := 4)) pa_nil)))
    (sx_seq (sx_if (pt_bo (px_op ox_ne (px_lst (pa_cons (px_call cx_is_setting (pa_cons (px_var (i := 1)) pa_nil)) (pa_cons (px_call cx_is_setting (pa_cons (px_var (i := 4)) pa_nil)) (pa_cons (px_op ox_eq (px_call cx_law_word (pa_cons px_int (pa_cons (px_var (i := 4)) pa_nil))) px_str) pa_nil)))) (px_lst (pa_cons px_bl (pa_cons (px_var (i := 5)) (pa_cons (px_var (i := 5)) pa_nil)))))) (sx_ret px_bl) sx_nx)
    (sx_seq (sx_par (i := 6) (j := 7) (pa_cons (px_op ox_ix (px_var (i := 1)) px_int) (pa_cons (px_op ox_mod (px_call cx_law_cell (pa_cons (px_var (i := 0)) (pa_cons px_int pa_nil))) (px_cl cx_len (pa_cons (px_op ox_ix (px_var (i := 1)) px_int) pa_nil))) pa_nil)))
    (sx_seq (sx_set (i := 8) (px_op ox_ix (px_lst (pa_cons (px_op ox_mod (px_call cx_law_cell (pa_cons (px_var (i := 0)) (pa_cons px_int pa_nil))) px_int) (pa_cons (px_op ox_mod (px_call cx_law_cell (pa_cons (px_var (i := 0)) (pa_cons px_int pa_nil))) px_int) pa_nil))) (px_op ox_mod (px_call cx_law_cell (pa_cons (px_var (i := 0)) (pa_cons px_int pa_nil))) px_int)))
    (sx_seq (sx_set (i := 9) (px_call cx_law_ring (pa_cons (px_op ox_ix (px_var (i := 6)) (px_var (i := 7))) (pa_cons (px_var (i := 8)) pa_nil))))
    (sx_seq (sx_if (pt_bo (px_op ox_ne (px_call cx_ring (pa_cons (px_op ox_ix (px_var (i := 6)) (px_var (i := 7))) (pa_cons (px_var (i := 8)) pa_nil))) (px_var (i := 9)))) (sx_ret px_bl) sx_nx)
    (sx_seq (sx_if (pt_and (pt_bo (px_op ox_I (px_var (i := 8)) px_int)) (pt_bo (px_op ox_eq (px_op ox_mod (px_call cx_law_cell (pa_cons (px_var (i := 0)) (pa_cons px_int pa_nil))) px_int) px_int))) (sx_seq (sx_set (i := 3) (px_op ox_mod (px_call cx_law_cell (pa_cons (px_var (i := 0)) (pa_cons px_int pa_nil))) (px_var (i := 8))))
    (sx_set (i := 9) (px_op ox_add (px_op ox_add (px_sl (px_var (i := 9)) po_no (po_part (px_var (i := 3)))) (px_lst (pa_cons (px_notV (px_op ox_ix (px_var (i := 9)) (px_var (i := 3)))) pa_nil))) (px_sl (px_var (i := 9)) (po_part (px_op ox_add (px_var (i := 3)) px_int)) po_no)))) sx_nx)
    (sx_seq (sx_set (i := 10) (px_lc (pi_et (px_var (i := 6))) (gx_t (gxs_cons gx_n (gxs_cons gx_n gxs_nil))) (pt_bo (px_op ox_eq (px_call cx_law_ring (pa_cons (px_var (i := 12)) (pa_cons (px_var (i := 8)) pa_nil))) (px_var (i := 9)))) (px_var (i := 11))))
    (sx_seq (sx_if (pt_bo (px_op ox_ne (px_lc (pi_t (px_tup (pa_cons (px_call cx_ring (pa_cons (px_op ox_ix (px_var (i := 6)) (px_var (i := 7))) (pa_cons px_int pa_nil))) (pa_cons (px_cl cx_list (pa_cons (px_var (i := 9)) pa_nil)) pa_nil)))) gx_n pt_yes (px_call cx_meant (pa_cons (px_var (i := 1)) (pa_cons (px_var (i := 18)) pa_nil)))) (px_lst (pa_cons (px_lst (pa_cons (px_var (i := 7)) pa_nil)) (pa_cons (px_var (i := 10)) pa_nil))))) (sx_ret px_bl) sx_nx)
    (sx_seq (sx_for (pi_et (px_var (i := 6))) (gx_t (gxs_cons gx_n (gxs_cons gx_n gxs_nil))) (sx_seq (sx_set (i := 13) (px_call cx_sure_behind (pa_cons (px_var (i := 1)) (pa_cons (px_var (i := 11)) pa_nil))))
    (sx_for (pi_t (px_tup (pa_cons (px_op ox_sub (px_var (i := 13)) px_int) (pa_cons (px_var (i := 13)) pa_nil)))) gx_n (sx_seq (sx_set (i := 14) (px_lc (pi_t (px_var (i := 6))) gx_n (pt_bo (px_op ox_eq (px_call cx_law_ring (pa_cons (px_var (i := 18)) (pa_cons (px_cl cx_max (pa_cons px_int (pa_cons (px_var (i := 8)) pa_nil))) pa_nil))) (px_call cx_law_ring (pa_cons (px_var (i := 12)) (pa_cons (px_cl cx_max (pa_cons px_int (pa_cons (px_var (i := 8)) pa_nil))) pa_nil))))) (px_var (i := 18))))
    (sx_if (pt_bo (px_op ox_ne (px_op ox_eq (px_cl cx_len (pa_cons (px_var (i := 14)) pa_nil)) px_int) (px_op ox_eq (px_var (i := 8)) (px_var (i := 13))))) (sx_ret px_bl) sx_nx)))))
    (sx_seq (sx_set (i := 15) (px_op ox_ix (px_lst (pa_cons px_non (pa_cons (px_tup (pa_cons px_bl pa_nil)) (pa_cons (px_lst (pa_cons px_int pa_nil)) (pa_cons (px_op ox_mul (px_lst (pa_cons px_bl pa_nil)) px_int) (pa_cons px_str (pa_cons (px_lst (pa_cons px_non pa_nil)) (pa_cons px_int pa_nil)))))))) (px_op ox_mod (px_call cx_law_cell (pa_cons (px_var (i := 0)) (pa_cons px_int pa_nil))) px_int)))
    (sx_seq (sx_set (i := 16) (px_op ox_ix (px_lst (pa_cons (px_neg px_int) (pa_cons px_int (pa_cons px_non (pa_cons px_bl pa_nil))))) (px_op ox_mod (px_call cx_law_cell (pa_cons (px_var (i := 0)) (pa_cons px_int pa_nil))) px_int)))
    (sx_seq (sx_set (i := 17) (px_lst (pa_cons (px_call cx_law_word (pa_cons px_int (pa_cons (px_tup (pa_cons px_non (pa_cons (px_var (i := 15)) pa_nil))) pa_nil))) (pa_cons (px_call cx_law_word (pa_cons px_int (pa_cons (px_tup (pa_cons (px_var (i := 1)) (pa_cons (px_var (i := 15)) pa_nil))) pa_nil))) (pa_cons (px_call cx_law_word (pa_cons px_int (pa_cons (px_tup (pa_cons px_str (pa_cons (px_var (i := 16)) pa_nil))) pa_nil))) pa_nil)))))
    (sx_seq (sx_set (i := 17) (px_op ox_add (px_var (i := 17)) (px_lst (pa_cons (px_call cx_law_word (pa_cons px_int (pa_cons (px_tup (pa_cons px_str (pa_cons (px_var (i := 16)) pa_nil))) pa_nil))) (pa_cons (px_call cx_law_word (pa_cons px_int (pa_cons (px_tup (pa_cons px_non (pa_cons (px_var (i := 16)) pa_nil))) pa_nil))) (pa_cons (px_call cx_law_word (pa_cons px_int (pa_cons (px_tup (pa_cons (px_var (i := 1)) (pa_cons (px_var (i := 16)) pa_nil))) pa_nil))) pa_nil))))))
    (sx_ret (px_op ox_eq (px_var (i := 17)) (px_lst (pa_cons px_str (pa_cons px_str (pa_cons px_str (pa_cons px_str (pa_cons px_str (pa_cons px_str pa_nil)))))))))))))))))))))))))))))
end G9

set_option Elab.async false
set_option linter.all false
set_option maxRecDepth 100000
set_option maxHeartbeats 2000000
namespace G9
open PySem L2
/-! ### the thirty codes, by ticks, then as texts -/
def BK : List Str := ["s", "l", "ss", "ls", "sl", "sss", "ll", "lss", "sls", "ssl", "ssss", "lls", "lsl", "lsss", "sll", "slss", "ssls", "sssl", "lll", "llss", "lsls", "lssl", "slls", "slsl", "ssll", "llls", "llsl", "lsll", "slll", "llll"]
abbrev IsC (z : Str) : Prop := z ∈ BK
def pt (c : Nat) : List Bool := if c = 108 then [true, true, true, false] else [true, false]
def pat (z : Str) : List Bool := z.cps.toList.flatMap pt ++ [false, false, false]
/-- how many ticks -/
def tk (z : Str) : Nat := (pat z).length
def rg (z : Str) (n : Nat) : List Bool := (List.range n).map fun t => (pat z).getD (t % tk z) false
theorem BK_nodup : BK.Nodup := by decide +kernel
theorem BK_len : BK.length = 30 := by decide +kernel
theorem BK_ok : ∀ z ∈ BK, PyData.strOk z = true ∧ z.length ≤ 4 ∧ 1 ≤ z.length := by decide +kernel
theorem tk_pos : ∀ z ∈ BK, 5 ≤ tk z ∧ tk z ≤ 19 := by decide +kernel
theorem IsC.ok {z : Str} (h : IsC z) : PyData.strOk z = true := (BK_ok z h).1
theorem IsC.len {z : Str} (h : IsC z) : z.length ≤ 4 := (BK_ok z h).2.1
def sgn (b : Bool) : Str := ⟨#[if b then 108 else 115]⟩
def codeOf (l : List Bool) : Str := Txt.join "" (l.map sgn)
def bools : Nat → List (List Bool)
  | 0 => [[]]
  | n + 1 => (bools n).flatMap fun l => [false :: l, true :: l]
theorem bools_mem : ∀ l : List Bool, l ∈ bools l.length
  | [] => by simp [bools]
  | b :: l => by
    have := bools_mem l
    simp only [List.length_cons, bools, List.mem_flatMap]
    exact ⟨l, this, by cases b <;> simp⟩
theorem codeOf_ok {l : List Bool} (h1 : 1 ≤ l.length) (h2 : l.length ≤ 4) : IsC (codeOf l) := by
  have key : ∀ n ∈ [1, 2, 3, 4], ∀ l ∈ bools n, codeOf l ∈ BK := by decide +kernel
  have hn : l.length ∈ [1, 2, 3, 4] := by
    have : l.length = 1 ∨ l.length = 2 ∨ l.length = 3 ∨ l.length = 4 := by omega
    rcases this with e | e | e | e <;> simp [e]
  exact key _ hn l (bools_mem l)
structure IsS (zs : List Str) (b : Bool) (k : Int) : Prop where
  lo : 2 ≤ zs.length
  hi : zs.length ≤ 8
  cd : ∀ z ∈ zs, IsC z
  nd : zs.Nodup
  k1 : 1 ≤ k
  k2 : k ≤ 60
def setV (zs : List Str) (b : Bool) (k : Int) : PV := .tup [.tup (zs.map .str), .bl b, .int k]
/-! ### numbers -/
def cv (ns : List Int) (i : Int) : Int := ns.getD i.toNat 0
def sdv (s k : Int) : Int := ((s * 1103515245 + 7919 * k + 12345) % 2147483647) ^ 5 % 2147483647
def pkv (s m : Int) : Int := s / 97 % m
def mxv (c p m : Int) : Int := (c * 48271 % p) ^ 3 % p % m
theorem mod_lo {i p : Int} (hp : 0 < p) : 0 ≤ i % p := Int.emod_nonneg _ (by omega)
theorem mod_hi {i p : Int} (hp : 0 < p) : i % p < p := Int.emod_lt_of_pos _ hp
theorem pkv_lo {s m : Int} (h : 0 < m) : 0 ≤ pkv s m := mod_lo h
theorem pkv_hi {s m : Int} (h : 0 < m) : pkv s m < m := mod_hi h
theorem mxv_lo {s p m : Int} (h : 0 < m) : 0 ≤ mxv s p m := mod_lo h
theorem mxv_hi {s p m : Int} (h : 0 < m) : mxv s p m < m := mod_hi h
theorem mulOk_r {i j : Int} (h1 : -(2 ^ 64) < j) (h2 : j < 2 ^ 64) : mulOk i j = true := by unfold mulOk; rw [decide_eq_true h1, decide_eq_true h2]; simp
theorem mulOk_l {i j : Int} (h1 : -(2 ^ 64) < i) (h2 : i < 2 ^ 64) : mulOk i j = true := by unfold mulOk; rw [decide_eq_true h1, decide_eq_true h2]; simp
@[simp] theorem pAdd_int {a b : Int} : pAdd (.int a) (.int b) = .ok (.int (a + b)) := id rfl
@[simp] theorem pSub_int {a b : Int} : pSub (.int a) (.int b) = .ok (.int (a - b)) := id rfl
theorem pMul_int {a b : Int} (h : mulOk a b = true) : pMul (.int a) (.int b) = .ok (.int (a * b)) := by simp [pMul, h]
@[simp] theorem pMul_lit {a b : Int} : pMul (.int a) (.int b) = if mulOk a b then .ok (.int (a * b)) else .bad := id rfl
@[simp] theorem pMod_int {a b : Int} : pMod (.int a) (.int b) = if 0 < b then .ok (.int (a % b)) else .bad := id rfl
@[simp] theorem pDiv_int {a b : Int} : pDiv (.int a) (.int b) = if 0 < b ∧ b < 1073741824 then .ok (.int (a / b)) else .bad := id rfl
@[simp] theorem pI_int {g : Int → Int → Bool} {a b : Int} : pI g (.int a) (.int b) = .ok (.bl (g a b)) := id rfl
@[simp] theorem pGeA_int {a b : Int} : pGeA (.int a) (.int b) = .ok (.bl (decide (b ≤ a))) := id rfl
@[simp] theorem pAdd_str {a b : Str} : pAdd (.str a) (.str b) = if a.length + b.length ≤ BIG then .ok (.str (a ++ b)) else .bad := id rfl
@[simp] theorem pAdd_lst {a b : List PV} : pAdd (.lst a) (.lst b) = newLV (a ++ b) := id rfl
@[simp] theorem pAdd_tup {a b : List PV} : pAdd (.tup a) (.tup b) = mkTV (a ++ b) := id rfl
@[simp] theorem pMul_lst {a : List PV} {k : Int} : pMul (.lst a) (.int k) = if -(2 ^ 63) ≤ k ∧ k < 2 ^ 63 then newLV (List.replicate k.toNat a).flatten else .bad := id rfl
@[simp] theorem pMul_tup {xs : List PV} {k : Int} : pMul (.tup xs) (.int k) = if xs ≠ [] ∧ 2 ≤ k ∧ k ≤ 1000 ∧ xs.length ≤ 1000 then .ok (.tup (List.replicate k.toNat xs).flatten) else .bad := id rfl
theorem newLV_ok {vs : List PV} (h : vs.length ≤ 100000) : newLV vs = .ok (.lst vs) := if_pos h
theorem mkTV_ok {vs : List PV} (h : vs.length ≤ 100000) : mkTV vs = .ok (.tup vs) := if_pos h
theorem pow_ok {x : Int} {k : Int} (h1 : 0 ≤ x) (h2 : x < 4294967296) (k1 : 0 ≤ k) (k2 : k ≤ 1000000) : pPow (.int x) (.int k) = .ok (.int (x ^ k.toNat)) := by
  simp only [pPow]
  rw [if_pos ⟨k1, k2, by omega⟩]
@[simp] theorem truV_bl {b : Bool} : truV (.bl b) = some b := id rfl
@[simp] theorem truV_lst {b : List PV} : truV (.lst b) = some (!b.isEmpty) := id rfl
@[simp] theorem truV_tup {b : List PV} : truV (.tup b) = some (!b.isEmpty) := id rfl
@[simp] theorem pLen_tup {xs : List PV} : pLen [.tup xs] = .ok (.int xs.length) := id rfl
@[simp] theorem pLen_lst {xs : List PV} : pLen [.lst xs] = .ok (.int xs.length) := id rfl
@[simp] theorem pLen_scr {xs : List Int} : pLen [.scr xs] = .ok (.int xs.length) := id rfl
@[simp] theorem pLen_str {z : Str} : pLen [.str z] = if z.length ≤ BIG then .ok (.int z.length) else .bad := id rfl
@[simp] theorem pIx_tup {xs : List PV} {i : Int} : pIx (.tup xs) (.int i) = match atI xs i with | some d => .ok d | none => .bad := id rfl
@[simp] theorem pIx_lst {xs : List PV} {i : Int} : pIx (.lst xs) (.int i) = match atI xs i with | some d => .ok d | none => .bad := id rfl
@[simp] theorem pIx_scr {xs : List Int} {i : Int} : pIx (.scr xs) (.int i) = match atI xs i with | some d => .ok (.int d) | none => .bad := id rfl
@[simp] theorem pIx_str {z : Str} {i : Int} : pIx (.str z) (.int i) = if z.length ≤ BIG then (match atI z.cps.toList i with | some c => .ok (.str ⟨#[c]⟩) | none => .bad) else .bad := id rfl
theorem atI_nat {α : Type} {xs : List α} {k : Nat} {x : α} (e : xs[k]? = some x) : atI xs (k : Int) = some x := by
  have hk : k < xs.length := (List.getElem?_eq_some_iff.mp e).1
  simp [atI, ixN, hk]
  exact (List.getElem?_eq_some_iff.mp e).2
theorem atI_int {α : Type} {xs : List α} {i : Int} {x : α} (h0 : 0 ≤ i) (e : xs[i.toNat]? = some x) : atI xs i = some x := by
  obtain ⟨k, rfl⟩ : ∃ k : Nat, i = k := ⟨i.toNat, by omega⟩
  exact atI_nat (by simpa using e)
@[simp] theorem atI_c0 {α : Type} {a : α} {l : List α} : atI (a :: l) 0 = some a := atI_nat (k := 0) (by simp)
@[simp] theorem atI_c1 {α : Type} {a b : α} {l : List α} : atI (a :: b :: l) 1 = some b := atI_nat (k := 1) (by simp)
@[simp] theorem atI_c2 {α : Type} {a b c : α} {l : List α} : atI (a :: b :: c :: l) 2 = some c := atI_nat (k := 2) (by simp)
@[simp] theorem rngV_len {lo : Int} {n : Nat} : (rngV lo n).length = n := by simp [rngV]
theorem rngV_0 {n : Nat} : rngV 0 n = (List.range n).map fun i : Nat => PV.int (i : Int) := by
  unfold rngV
  simp
@[simp] theorem BIG_eq : BIG = 100000 := id rfl
/-- range, of a number that is known to be small -/
def itR1V (x : PV) : PR (List PV) := match x with
  | .int j => if -(2 ^ 62) ≤ j ∧ j < 2 ^ 62 then .ok (rngV 0 j.toNat) else .bad
  | _ => .bad
@[simp] theorem pItR1_ap' {a : XP} {σ : SP} : pItR1 a σ = (a σ).bind itR1V := id rfl
@[simp] theorem itR1V_nat {n : Nat} (h : n ≤ 100000) : itR1V (.int (n : Int)) = .ok ((List.range n).map fun i : Nat => PV.int (i : Int)) := by
  unfold itR1V
  dsimp only
  rw [if_pos (by omega), Int.toNat_natCast, rngV_0]
def listRV (x : PV) : PR PV := match x with
  | .int j => if 0 ≤ j ∧ j ≤ 100000 then .ok (.lst (rngV 0 j.toNat)) else .bad
  | _ => .bad
@[simp] theorem pListR_ap' {a : XP} {σ : SP} : pListR a σ = (a σ).bind listRV := id rfl
@[simp] theorem listRV_nat {n : Nat} (h : n ≤ 100000) : listRV (.int (n : Int)) = .ok (.lst ((List.range n).map fun i : Nat => PV.int (i : Int))) := by
  unfold listRV
  dsimp only
  rw [if_pos (by omega), Int.toNat_natCast, rngV_0]
@[simp] theorem newLV_ap {vs : List PV} : newLV vs = if vs.length ≤ 100000 then .ok (.lst vs) else .bad := id rfl
@[simp] theorem mkTV_ap {vs : List PV} : mkTV vs = if vs.length ≤ 100000 then .ok (.tup vs) else .bad := id rfl
@[simp] theorem pList_lst {xs : List PV} : pList [.lst xs] = newLV xs := id rfl
@[simp] theorem pList_tup {xs : List PV} : pList [.tup xs] = newLV xs := id rfl
@[simp] theorem pTuple_lst {xs : List PV} : pTuple [.lst xs] = mkTV xs := id rfl
@[simp] theorem pTuple_tup {xs : List PV} : pTuple [.tup xs] = mkTV xs := id rfl
/-! ### comparisons -/
theorem pEq_int {a b : Int} : pEq (.int a) (.int b) = .ok (.bl (decide (a = b))) := by
  simp [pEq, toPyV, PyData.eqv]
  rw [Bool.eq_iff_iff]; simp
theorem pNe_int {a b : Int} : pNe (.int a) (.int b) = .ok (.bl (!decide (a = b))) := by
  have := @pEq_int a b
  simp [pEq, toPyV] at this
  simp [pNe, toPyV, this]
theorem pEq_str {a b : Str} (ha : PyData.strOk a = true) (hb : PyData.strOk b = true) : pEq (.str a) (.str b) = .ok (.bl (decide (a = b))) := by
  simp [pEq, toPyV, ha, hb, PyData.eqv]
  rw [Bool.eq_iff_iff]; simp
theorem pNe_str {a b : Str} (ha : PyData.strOk a = true) (hb : PyData.strOk b = true) : pNe (.str a) (.str b) = .ok (.bl (!decide (a = b))) := by
  simp [pNe, toPyV, ha, hb, PyData.eqv]
  rw [Bool.eq_iff_iff]; simp
theorem pEq_bl {a b : Bool} : pEq (.bl a) (.bl b) = .ok (.bl (decide (a = b))) := by
  cases a <;> cases b <;> rfl
theorem pNe_bl {a b : Bool} : pNe (.bl a) (.bl b) = .ok (.bl (!decide (a = b))) := by
  cases a <;> cases b <;> rfl
/-! ### data -/
theorem optAll_map {α β : Type} {f : α → Option β} {g : α → β} : ∀ {xs : List α}, (∀ x ∈ xs, f x = some (g x)) → optAll (xs.map f) = some (xs.map g)
  | [], _ => rfl
  | x :: xs, e => by
    have h1 := e x (by simp)
    have h2 := optAll_map (f := f) (g := g) (xs := xs) fun y hy => e y (by simp [hy])
    simp [optAll, h1, h2]
theorem optAll_mapF {α β γ : Type} {f : β → Option γ} {F : α → β} {g : α → γ} {xs : List α} (h : ∀ x ∈ xs, f (F x) = some (g x)) : optAll ((xs.map F).map f) = some (xs.map g) := by
  rw [List.map_map]
  exact optAll_map h
theorem toPyV_lst {n : Nat} {xs : List PV} : toPyV (n + 1) (.lst xs) = (optAll (xs.map (toPyV n))).map .list := id rfl
theorem toPyV_tup {n : Nat} {xs : List PV} : toPyV (n + 1) (.tup xs) = (optAll (xs.map (toPyV n))).map .tuple := id rfl
theorem toPyV_str {n : Nat} {z : Str} (h : PyData.strOk z = true) : toPyV (n + 1) (.str z) = some (.str z) := if_pos h
theorem toPyV_int {n : Nat} {i : Int} : toPyV (n + 1) (.int i) = some (.int i) := id rfl
theorem toPyV_bl {n : Nat} {i : Bool} : toPyV (n + 1) (.bl i) = some (.bool i) := id rfl
theorem toPyV_non {n : Nat} : toPyV (n + 1) .non = some .none := id rfl
end G9

set_option Elab.async false
set_option linter.all false
set_option maxRecDepth 100000
set_option maxHeartbeats 2000000
namespace G9
open PySem L2
/-! ### a value is like itself -/
theorem eqv_imgs {n : Nat} (ih : ∀ v d, toPyV n v = some d → PyData.eqv d d = true) : ∀ (xs : List PV) (ds : List PyData), optAll (xs.map (toPyV n)) = some ds → PyData.eqvAll ds ds = true
  | [], ds, h => by simp [optAll] at h; subst h; rfl
  | x :: xs, ds, h => by
    rw [List.map_cons] at h
    cases hx : toPyV n x with
    | none => rw [hx] at h; cases h
    | some d =>
      rw [hx] at h
      cases hr : optAll (xs.map (toPyV n)) with
      | none => simp [optAll, hr] at h
      | some es =>
        simp [optAll, hr] at h
        subst h
        simp [PyData.eqvAll, ih x d hx, eqv_imgs ih xs es hr]
theorem eqv_img : ∀ (n : Nat) (v : PV) (d : PyData), toPyV n v = some d → PyData.eqv d d = true
  | 0, v, d, h => by cases h
  | n + 1, v, d, h => by
    cases v with
    | non => cases h; rfl
    | bl b => cases h; simp [PyData.eqv]
    | int i => cases h; simp [PyData.eqv]
    | str z =>
      have h' : (if PyData.strOk z = true then some (PyData.str z) else none) = some d := h
      split at h'
      · cases h'; simp [PyData.eqv]
      · cases h'
    | tup xs =>
      rw [toPyV_tup] at h
      cases hr : optAll (xs.map (toPyV n)) with
      | none => rw [hr] at h; cases h
      | some es => rw [hr] at h; cases h; simpa [PyData.eqv] using eqv_imgs (fun v d => eqv_img n v d) xs es hr
    | lst xs =>
      rw [toPyV_lst] at h
      cases hr : optAll (xs.map (toPyV n)) with
      | none => rw [hr] at h; cases h
      | some es => rw [hr] at h; cases h; simpa [PyData.eqv] using eqv_imgs (fun v d => eqv_img n v d) xs es hr
    | dk _ _ => cases h
    | dt _ _ => cases h
    | ins _ _ _ => cases h
    | scr _ => cases h
def okV (n : Nat) (v : PV) : Prop := ∃ d, toPyV n v = some d
theorem optAll_ex {α β : Type} {f : α → Option β} : ∀ {xs : List α}, (∀ x ∈ xs, ∃ d, f x = some d) → ∃ ds, optAll (xs.map f) = some ds
  | [], _ => ⟨[], rfl⟩
  | x :: xs, h => by
    obtain ⟨d, e⟩ := h x (by simp)
    obtain ⟨ds, es⟩ := optAll_ex (f := f) (xs := xs) fun y hy => h y (by simp [hy])
    exact ⟨d :: ds, by simp [optAll, e, es]⟩
theorem ok_non {n : Nat} : okV (n + 1) .non := ⟨_, rfl⟩
theorem ok_bl {n : Nat} {b : Bool} : okV (n + 1) (.bl b) := ⟨_, rfl⟩
theorem ok_int {n : Nat} {b : Int} : okV (n + 1) (.int b) := ⟨_, rfl⟩
theorem ok_str {n : Nat} {b : Str} (h : PyData.strOk b = true) : okV (n + 1) (.str b) := ⟨_, toPyV_str h⟩
theorem ok_tup {n : Nat} {xs : List PV} (h : ∀ x ∈ xs, okV n x) : okV (n + 1) (.tup xs) := by
  obtain ⟨ds, e⟩ := optAll_ex h
  exact ⟨_, by rw [toPyV_tup, e]; rfl⟩
theorem ok_lst {n : Nat} {xs : List PV} (h : ∀ x ∈ xs, okV n x) : okV (n + 1) (.lst xs) := by
  obtain ⟨ds, e⟩ := optAll_ex h
  exact ⟨_, by rw [toPyV_lst, e]; rfl⟩
theorem ok_nil {n : Nat} : ∀ x ∈ ([] : List PV), okV n x := by simp
theorem ok_cons {n : Nat} {v : PV} {l : List PV} (a : okV n v) (b : ∀ x ∈ l, okV n x) : ∀ x ∈ v :: l, okV n x := by
  intro x hx
  rcases List.mem_cons.mp hx with rfl | hx
  · exact a
  · exact b x hx
theorem ok_ints {n : Nat} {l : List Int} : ∀ x ∈ l.map PV.int, okV (n + 1) x := by
  intro x hx
  obtain ⟨i, _, rfl⟩ := List.mem_map.mp hx
  exact ok_int
theorem ok_bls {n : Nat} {l : List Bool} : ∀ x ∈ l.map PV.bl, okV (n + 1) x := by
  intro x hx
  obtain ⟨i, _, rfl⟩ := List.mem_map.mp hx
  exact ok_bl
theorem ok_of {n : Nat} {v : PV} (h : (toPyV n v).isSome = true) : okV n v := by
  cases e : toPyV n v with
  | none => rw [e] at h; cases h
  | some d => exact ⟨d, e⟩
theorem ne_self {v : PV} (h : okV 9 v) : pNe v v = .ok (.bl false) := by
  obtain ⟨d, e⟩ := h
  simp only [pNe, e, eqv_img 9 v d e]
  rfl
theorem eq_self {v : PV} (h : okV 9 v) : pEq v v = .ok (.bl true) := by
  obtain ⟨d, e⟩ := h
  simp only [pEq, e, eqv_img 9 v d e]
end G9


set_option Elab.async false
set_option linter.all false
set_option maxRecDepth 100000
set_option maxHeartbeats 2000000
namespace G9
open PySem L2
theorem q_cell {ns : List Int} {i : Int} (h : 0 ≤ i) : p_law_cell [.scr ns, .int i] = .ok (.int (cv ns i)) := by
  rw [p_law_cell, fnP_run (by rfl)]
  obtain ⟨k, rfl⟩ : ∃ k : Nat, i = k := ⟨i.toNat, by omega⟩
  by_cases hk : k < ns.length
  · have e : atI ns (k : Int) = some ns[k] := atI_nat (by simp [hk])
    simp [hk, e, cv]
  · simp [hk, cv, List.getElem?_eq_none (Nat.le_of_not_lt hk)]
theorem q_seed {s k : Int} : p_law_seed [.int s, .int k] = .ok (.int (sdv s k)) := by
  rw [p_law_seed, fnP_run (by rfl)]
  have h1 : mulOk s 1103515245 = true := mulOk_r (by decide) (by decide)
  have h2 : mulOk 7919 k = true := mulOk_l (by decide) (by decide)
  have h3 := pow_ok (x := (s * 1103515245 + 7919 * k + 12345) % 2147483647) (k := 5) (mod_lo (by decide)) (Int.lt_trans (mod_hi (by decide)) (by decide)) (by decide) (by decide)
  simp [h1, h2, h3, sdv]
theorem q_pick {s m : Int} (h : 0 < m) : p_law_pick [.int s, .int m] = .ok (.int (pkv s m)) := by
  rw [p_law_pick, fnP_run (by rfl)]
  simp [h, pkv]
theorem len_sl : ("sl" : Str).length = 2 := by decide +kernel
theorem cps_sl : ("sl" : Str).cps.toList = [115, 108] := by decide +kernel
theorem strsV_map {l : List Str} : strsV (l.map .str) = some l := by
  unfold strsV
  induction l with
  | nil => rfl
  | cons z l ih => simp only [List.map_cons, optAll] at ih ⊢; rw [ih]; rfl
theorem intsV_map {l : List Int} : intsV (l.map .int) = some l := by
  unfold intsV
  induction l with
  | nil => rfl
  | cons z l ih => simp only [List.map_cons, optAll] at ih ⊢; rw [ih]; rfl
/-- the signs of a code -/
def bits (s : Int) : List Bool := (List.range (1 + s / 5 % 4).toNat).map fun k : Nat => decide (pkv (sdv s (k : Int)) 2 = 1)
def codeZ (s : Int) : Str := codeOf (bits s)
theorem bits_len {s : Int} : 1 ≤ (bits s).length ∧ (bits s).length ≤ 4 := by
  have h1 := mod_lo (i := s / 5) (p := 4) (by decide)
  have h2 := mod_hi (i := s / 5) (p := 4) (by decide)
  simp only [bits, List.length_map, List.length_range]
  omega
theorem codeZ_ok {s : Int} : IsC (codeZ s) := codeOf_ok bits_len.1 bits_len.2
theorem sgn_len {b : Bool} : (sgn b).length = 1 := by cases b <;> decide +kernel
theorem q_code {s : Int} : p_law_code [.int s] = .ok (.str (codeZ s)) := by
  rw [p_law_code, fnP_run (by rfl)]
  have h1 := mod_lo (i := s / 5) (p := 4) (by decide)
  have h2 := mod_hi (i := s / 5) (p := 4) (by decide)
  obtain ⟨n, hn⟩ : ∃ n : Nat, 1 + s / 5 % 4 = (n : Int) := ⟨(1 + s / 5 % 4).toNat, by omega⟩
  have e := lc_all (fun i : Nat => PV.int (i : Int)) (g := hN 1) (c := pYes) (a := pOp pIx (pC (.str "sl")) (pCall 2 p_law_pick (pCons (pCall 2 p_law_seed (pCons (pVar 0) (pCons (pVar 1) pNil))) (pCons (pC (.int 2)) pNil)))) (σ := [some (.int s), none]) (fun k : Nat => .str (sgn (decide (pkv (sdv s (k : Int)) 2 = 1)))) (List.range (1 + s / 5 % 4).toNat) (fun k hk => by
    refine ⟨[some (.int s), some (.int (k : Int))], rfl, rfl, ?_⟩
    have l := pkv_lo (s := sdv s (k : Int)) (m := 2) (by decide)
    have u := pkv_hi (s := sdv s (k : Int)) (m := 2) (by decide)
    have hw : pkv (sdv s (k : Int)) 2 = 0 ∨ pkv (sdv s (k : Int)) 2 = 1 := by omega
    rcases hw with hw | hw
    · simp [q_seed, q_pick, hw, len_sl, cps_sl, BIG, sgn]
    · simp [q_seed, q_pick, hw, len_sl, cps_sl, BIG, sgn])
  have hm : (List.range (1 + s / 5 % 4).toNat).map (fun k : Nat => PV.str (sgn (decide (pkv (sdv s (k : Int)) 2 = 1)))) = ((bits s).map sgn).map PV.str := by
    simp [bits, Function.comp_def]
  have hj : joinOk "" ((bits s).map sgn) = true := by
    have hb := bits_len (s := s)
    unfold joinOk
    apply decide_eq_true
    have h0 : ("" : Str).length = 0 := by decide +kernel
    have hs : (((bits s).map sgn).map (·.length)).sum = (bits s).length := by
      rw [List.map_map]
      generalize bits s = l
      induction l with
      | nil => rfl
      | cons b l ih => simp only [List.map_cons, List.sum_cons, ih, Function.comp, sgn_len, List.length_cons]; omega
    rw [hs, h0]
    simp only [BIG]
    omega
  rw [hm] at e
  simp only [hn, Int.toNat_natCast] at e
  have hb : n ≤ 100000 := by omega
  simp [-List.map_map, hn, hb, wipeP, e, hasTyV, pJoin, strsV_map, hj, codeZ, codeOf]
/-! ### the setting -/
theorem toPy_strs {l : List Str} {k : Nat} (h : ∀ z ∈ l, PyData.strOk z = true) : toPyV (k + 2) (.lst (l.map .str)) = some (.list (l.map .str)) := by
  rw [toPyV_lst, optAll_mapF (g := PyData.str) fun z hz => toPyV_str (h z hz)]
  rfl
theorem any_str {z : Str} {l : List Str} : ((l.map PyData.str).any fun y => PyData.eqv y (.str z)) = decide (z ∈ l) := by
  induction l with
  | nil => simp
  | cons y l ih =>
    rw [List.map_cons, List.any_cons, ih, Bool.eq_iff_iff]
    simp only [PyData.eqv, Bool.or_eq_true, decide_eq_true_eq, beq_iff_eq, List.mem_cons]
    constructor
    · rintro (h | h)
      · exact .inl h.symm
      · exact .inr h
    · rintro (h | h)
      · exact .inl h.symm
      · exact .inr h
theorem notIn_strs {z : Str} {l : List Str} (hz : PyData.strOk z = true) (hl : ∀ z ∈ l, PyData.strOk z = true) : pNotIn (.str z) (.lst (l.map .str)) = .ok (.bl (!decide (z ∈ l))) := by
  have h1 := toPy_strs (k := 7) hl
  show pInB true _ _ = _
  simp only [pInB, h1, toPyV_str (n := 8) hz, any_str]
  rfl
theorem in_strs {z : Str} {l : List Str} (hz : PyData.strOk z = true) (hl : ∀ z ∈ l, PyData.strOk z = true) : pIn (.str z) (.lst (l.map .str)) = .ok (.bl (decide (z ∈ l))) := by
  have h1 := toPy_strs (k := 7) hl
  show pInB false _ _ = _
  simp only [pInB, h1, toPyV_str (n := 8) hz, any_str]
  rfl
theorem set_step {s : Int} {k : Nat} {zs : List Str} {y : Option PV} (hz : ∀ z ∈ zs, IsC z) (hn : zs.Nodup) (hl : zs.length ≤ 100) :
    ∃ (zs' : List Str) (y' : Option PV), (pSeq (pSet 3 (pCall 1 p_law_code (pCons (pCall 2 p_law_seed (pCons (pVar 0) (pCons (pOp pAdd (pC (.int 10)) (pVar 2)) pNil))) pNil)))
    (pIfS (pBo (pOp pNotIn (pVar 3) (pVar 1))) (pApp 1 (pVar 3)) pNx)) [some (.int s), some (.lst (zs.map .str)), some (.int (k : Int)), y] = .nx [some (.int s), some (.lst (zs'.map .str)), some (.int (k : Int)), y'] ∧
      (∀ z ∈ zs', IsC z) ∧ zs'.Nodup ∧ zs'.length ≤ zs.length + 1 ∧ zs' ≠ [] := by
  have hc := codeZ_ok (s := sdv s (10 + (k : Int)))
  have e3 := notIn_strs (z := codeZ (sdv s (10 + (k : Int)))) (l := zs) hc.ok (fun z h => (hz z h).ok)
  by_cases hm : codeZ (sdv s (10 + (k : Int))) ∈ zs
  · refine ⟨zs, some (.str (codeZ (sdv s (10 + (k : Int))))), ?_, hz, hn, by omega, fun e => by rw [e] at hm; simp at hm⟩
    simp [-List.map_map, q_seed, q_code, e3, hm]
  · refine ⟨zs ++ [codeZ (sdv s (10 + (k : Int)))], some (.str (codeZ (sdv s (10 + (k : Int))))), ?_, ?_, ?_, by simp, by simp⟩
    · have hb : zs.length < 100000 := by omega
      simp [-List.map_map, q_seed, q_code, e3, hm, hb]
    · intro y hy
      rcases List.mem_append.mp hy with hy | hy
      · exact hz y hy
      · simp at hy; subst hy; exact hc
    · rw [List.nodup_append]
      refine ⟨hn, by simp, fun a ha b hb e => ?_⟩
      simp at hb
      subst hb e
      exact hm ha
theorem cut_01 {α : Type} {x : α} {xs : List α} : cutD (x :: xs) none (some 1) = [x] := by
  have h1 : HT.sIx (x :: xs).length (x :: xs).length (some ((1 : Nat) : Int)) = min 1 (x :: xs).length := HT.sIx_nat _ _ _
  simp only [show ((1 : Nat) : Int) = 1 from rfl] at h1
  simp only [cutD, HT.sIx_none, h1, List.drop_zero, Nat.sub_zero]
  rw [Nat.min_eq_left (by simp)]
  rfl
theorem C_sl : IsC "sl" := by decide +kernel
theorem C_ls : IsC "ls" := by decide +kernel
theorem more_ok {s : PV} {x y : Option PV} {zs : List Str} (hz : ∀ z ∈ zs, IsC z) (hn : zs.Nodup) (hl : zs.length ≤ 8) (h0 : zs ≠ []) :
    ∃ (zs' : List Str), (pIfS (pBo (pOp pLt (pCl pLen (pCons (pVar 1) pNil)) (pC (.int 2)))) (pSetOF 1 (pOp pAdd (pVar 1) (pSl (pLc (pItT (pTup (pCons (pC (.str "sl")) (pCons (pC (.str "ls")) pNil)))) [3] (hN 3) (pBo (pOp pNotIn (pVar 3) (pVar 1))) (pVar 3)) pNoP (pPart (pC (.int 1)))))) pNx)
      [some s, some (.lst (zs.map .str)), x, y] = .nx [some s, some (.lst (zs'.map .str)), x, y] ∧ (∀ z ∈ zs', IsC z) ∧ zs'.Nodup ∧ 2 ≤ zs'.length ∧ zs'.length ≤ 8 := by
  by_cases h2 : zs.length < 2
  · have hz1 : ∃ a, zs = [a] := by
      match zs, h0, h2 with
      | [a], _, _ => exact ⟨a, rfl⟩
      | _ :: _ :: _, _, h => simp at h; omega
    obtain ⟨a, rfl⟩ := hz1
    have e := lc_fn PV.str (g := hN 3) (c := pBo (pOp pNotIn (pVar 3) (pVar 1))) (a := pVar 3) (σ := [some s, some (.lst [.str a]), x, none]) (fun z : Str => !decide (z ∈ [a])) PV.str [("sl" : Str), ("ls" : Str)] (fun c hc => by
      have hC : IsC c := by
        simp at hc
        rcases hc with rfl | rfl
        · exact C_sl
        · exact C_ls
      have h3 := notIn_strs (z := c) (l := [a]) hC.ok (fun z h => (hz z h).ok)
      simp only [List.map_cons, List.map_nil] at h3
      exact ⟨[some s, some (.lst [.str a]), x, some (.str c)], rfl, by simp [h3], fun _ => by simp⟩)
    obtain ⟨c, r, hcr⟩ : ∃ c r, [("sl" : Str), ("ls" : Str)].filter (fun z => !decide (z ∈ [a])) = c :: r := by
      cases hf : [("sl" : Str), ("ls" : Str)].filter (fun z => !decide (z ∈ [a])) with
      | cons c r => exact ⟨c, r, rfl⟩
      | nil =>
        rw [List.filter_eq_nil_iff] at hf
        have h1 := hf "sl" (by simp)
        have h2 := hf "ls" (by simp)
        simp at h1 h2
        rw [← h1] at h2
        exact absurd h2 (by decide +kernel)
    have hc : c ∈ [("sl" : Str), ("ls" : Str)].filter (fun z => !decide (z ∈ [a])) := by rw [hcr]; simp
    have hC : IsC c := by
      have := (List.mem_filter.mp hc).1
      simp at this
      rcases this with rfl | rfl
      · exact C_sl
      · exact C_ls
    have hne : c ≠ a := by
      have := (List.mem_filter.mp hc).2
      simpa using this
    have hr : r.length ≤ 1 := by
      have h3 := congrArg List.length hcr
      have h4 := List.length_filter_le (fun z => !decide (z ∈ [a])) [("sl" : Str), ("ls" : Str)]
      simp only [List.length_cons, List.length_nil] at h3 h4
      omega
    rw [hcr] at e
    refine ⟨[a, c], ?_, ?_, by simp [Ne.symm hne], by simp, by simp⟩
    · simp only [List.map_cons, List.map_nil] at e
      simp [wipeP, e, pSlV, cut_01, isFls, isFl]
    · intro z hz'
      simp at hz'
      rcases hz' with rfl | rfl
      · exact hz z (by simp)
      · exact hC
  · refine ⟨zs, ?_, hz, hn, by omega, hl⟩
    simp [show ¬ ((zs.length : Int) < 2) by omega]
theorem q_setting (s : Int) : ∃ (zs : List Str) (b : Bool) (k : Int), p_law_setting [.int s] = .ok (setV zs b k) ∧ IsS zs b k := by
  have b7 := mod_lo (i := s / 7) (p := 7) (by omega)
  have c7 := mod_hi (i := s / 7) (p := 7) (by omega)
  obtain ⟨n, hn⟩ : ∃ n : Nat, 2 + s / 7 % 7 = (n : Int) := ⟨(2 + s / 7 % 7).toNat, by omega⟩
  obtain ⟨σ', e1, zs, x, y, rfl, hz, hnd, hlen, hne⟩ := for_inv (fun i : Nat => PV.int (i : Int)) (g := hN 2) (b := (pSeq (pSet 3 (pCall 1 p_law_code (pCons (pCall 2 p_law_seed (pCons (pVar 0) (pCons (pOp pAdd (pC (.int 10)) (pVar 2)) pNil))) pNil)))
    (pIfS (pBo (pOp pNotIn (pVar 3) (pVar 1))) (pApp 1 (pVar 3)) pNx)))
    (fun l σ => ∃ (zs : List Str) (x y : Option PV), σ = [some (.int s), some (.lst (zs.map .str)), x, y] ∧ (∀ z ∈ zs, IsC z) ∧ zs.Nodup ∧ zs.length ≤ l.length ∧ (l ≠ [] → zs ≠ [])) (List.range n) [] [some (.int s), some (.lst []), none, none]
    ⟨[], none, none, rfl, by simp, by simp, by simp, by simp⟩
    (fun l c r σ hp ⟨zs, x, y, hs, hz, hnd, hlen, hne⟩ => by
      subst hs
      have hl : l.length ≤ n := by
        have := congrArg List.length hp
        simp at this
        omega
      obtain ⟨zs', y', e, a1, a2, a3, a4⟩ := set_step (s := s) (k := c) (y := y) hz hnd (by omega)
      exact ⟨[some (.int s), some (.lst (zs.map .str)), some (.int (c : Int)), y], _, rfl, .inl e, zs', some (.int (c : Int)), y', rfl, a1, a2, by simp; omega, fun _ => a4⟩)
  simp only [List.nil_append, List.length_range] at e1 hlen
  obtain ⟨zs', e2, b1, b2, b3, b4⟩ := more_ok (s := .int s) (x := x) (y := y) hz hnd (by omega) (hne (by
    intro e
    have := congrArg List.length e
    simp at this
    omega))
  have b13 := mod_lo (i := s / 13) (p := 2) (by omega)
  have c13 := mod_hi (i := s / 13) (p := 2) (by omega)
  obtain ⟨w, hw, w0, w1⟩ : ∃ w : Int, atI [PV.int 60, PV.int 9] (s / 13 % 2) = some (.int w) ∧ 0 < w ∧ w ≤ 60 := by
    have : s / 13 % 2 = 0 ∨ s / 13 % 2 = 1 := by omega
    rcases this with e | e
    · exact ⟨60, by rw [e]; simp, by decide, by decide⟩
    · exact ⟨9, by rw [e]; simp, by decide, by decide⟩
  have u0 := pkv_lo (s := sdv s 30) (m := w) w0
  have u1 := pkv_hi (s := sdv s 30) (m := w) w0
  refine ⟨zs', decide (s / 11 % 2 = 0), 1 + pkv (sdv s 30) w, ?_, ⟨b3, b4, b1, b2, by omega, by omega⟩⟩
  have hb : n ≤ 100000 := by omega
  have hb2 : zs'.length ≤ 100000 := by omega
  rw [p_law_setting, fnP_run (by rfl)]
  refine run_nx (σ1 := [some (.int s), some (.lst []), none, none]) (by simp) ?_
  refine run_nx (σ1 := [some (.int s), some (.lst (zs.map .str)), x, y]) (by simp [-List.map_map, hn, hb, e1]) ?_
  refine run_nx e2 ?_
  simp [-List.map_map, hb2, q_seed, hw, q_pick w0, pEq_int, setV]
end G9

set_option Elab.async false
set_option linter.all false
set_option maxRecDepth 100000
set_option maxHeartbeats 2000000
namespace G9
open PySem L2
@[simp] theorem ty_non : tyV .non = some "NoneType" := id rfl
@[simp] theorem ty_bl {b : Bool} : tyV (.bl b) = some "bool" := id rfl
@[simp] theorem ty_int {b : Int} : tyV (.int b) = some "int" := id rfl
@[simp] theorem ty_str {b : Str} : tyV (.str b) = some "str" := id rfl
@[simp] theorem ty_tup {b : List PV} : tyV (.tup b) = some "tuple" := id rfl
@[simp] theorem ty_lst {b : List PV} : tyV (.lst b) = some "list" := id rfl
@[simp] theorem isi_1 : isiT "int" "int" = some true := by decide +kernel
@[simp] theorem isi_2 : isiT "bool" "int" = some true := by decide +kernel
@[simp] theorem isi_3 : isiT "NoneType" "int" = some false := by decide +kernel
@[simp] theorem isi_4 : isiT "str" "int" = some false := by decide +kernel
@[simp] theorem isi_5 : isiT "tuple" "int" = some false := by decide +kernel
@[simp] theorem isi_6 : isiT "list" "int" = some false := by decide +kernel
@[simp] theorem isi_7 : isiT "int" "bool" = some false := by decide +kernel
@[simp] theorem isi_8 : isiT "bool" "bool" = some true := by decide +kernel
@[simp] theorem isi_9 : isiT "NoneType" "bool" = some false := by decide +kernel
@[simp] theorem isi_10 : isiT "str" "bool" = some false := by decide +kernel
@[simp] theorem isi_11 : isiT "tuple" "bool" = some false := by decide +kernel
@[simp] theorem isi_12 : isiT "list" "bool" = some false := by decide +kernel
@[simp] theorem isi_13 : isiT "int" "str" = some false := by decide +kernel
@[simp] theorem isi_14 : isiT "bool" "str" = some false := by decide +kernel
@[simp] theorem isi_15 : isiT "NoneType" "str" = some false := by decide +kernel
@[simp] theorem isi_16 : isiT "str" "str" = some true := by decide +kernel
@[simp] theorem isi_17 : isiT "tuple" "str" = some false := by decide +kernel
@[simp] theorem isi_18 : isiT "list" "str" = some false := by decide +kernel
@[simp] theorem isi_19 : isiT "int" "tuple" = some false := by decide +kernel
@[simp] theorem isi_20 : isiT "bool" "tuple" = some false := by decide +kernel
@[simp] theorem isi_21 : isiT "NoneType" "tuple" = some false := by decide +kernel
@[simp] theorem isi_22 : isiT "str" "tuple" = some false := by decide +kernel
@[simp] theorem isi_23 : isiT "tuple" "tuple" = some true := by decide +kernel
@[simp] theorem isi_24 : isiT "list" "tuple" = some false := by decide +kernel
@[simp] theorem isi_25 : isiT "int" "list" = some false := by decide +kernel
@[simp] theorem isi_26 : isiT "bool" "list" = some false := by decide +kernel
@[simp] theorem isi_27 : isiT "NoneType" "list" = some false := by decide +kernel
@[simp] theorem isi_28 : isiT "str" "list" = some false := by decide +kernel
@[simp] theorem isi_29 : isiT "tuple" "list" = some false := by decide +kernel
@[simp] theorem isi_30 : isiT "list" "list" = some true := by decide +kernel
theorem lc_nil {α : Type} (F : α → PV) {g : GP} {c : TP} {a : XP} {σ : SP} (xs : List α) (h : ∀ x ∈ xs, ∃ σ1, g (F x) σ = some σ1 ∧ c σ1 = .ok false) : pLcL g c a σ (xs.map F) = .ok [] := by
  have := lc_fn F (k := fun _ => false) F xs (g := g) (c := c) (a := a) (σ := σ) fun x hx => by
    obtain ⟨σ1, e1, e2⟩ := h x hx
    exact ⟨σ1, e1, e2, fun h => by cases h⟩
  rw [List.filter_eq_nil_iff.mpr (by simp)] at this
  exact this
/-! ### is_within, is_code, beats -/
theorem q_within {i a b : Int} : p_is_within [.int i, .int a, .int b] = .ok (.bl (decide (a ≤ i) && decide (i ≤ b))) := by
  rw [p_is_within, fnP_run (by rfl)]
  by_cases h : a ≤ i <;> simp [h]
theorem q_is_code {z : Str} (h : IsC z) : p_is_code [.str z] = .ok (.bl true) := by
  have : ∀ z ∈ BK, isOk (p_is_code [.str z]) (.bl true) = true := by decide +kernel
  exact isOk_ok (this z h)
theorem q_beats {z : Str} (h : IsC z) : p_beats [.str z] = .ok (.lst ((pat z).map .bl)) := by
  have : ∀ z ∈ BK, isOk (p_beats [.str z]) (.lst ((pat z).map .bl)) = true := by decide +kernel
  exact isOk_ok (this z h)
theorem q_law_beats {z : Str} (h : IsC z) : p_law_beats [.str z] = .ok (.lst ((pat z).map .bl)) := by
  have : ∀ z ∈ BK, isOk (p_law_beats [.str z]) (.lst ((pat z).map .bl)) = true := by decide +kernel
  exact isOk_ok (this z h)
/-! ### what may be asked of as a house -/
inductive HV where
  | i (n : Int)
  | no
  | tr
  | o
def HV.v : HV → PV
  | .i n => .int n
  | .no => .non
  | .tr => .bl true
  | .o => .str "0"
def HV.inr (n : Nat) : HV → Bool
  | .i k => decide (0 ≤ k) && decide (k ≤ (n : Int) - 1)
  | _ => false
theorem q_withinH {x : HV} {n : Nat} : p_is_within [x.v, .int 0, .int ((n : Int) - 1)] = .ok (.bl (x.inr n)) := by
  cases x with
  | i k => exact q_within
  | no => rw [p_is_within, fnP_run (by rfl)]; simp [HV.v, HV.inr]
  | tr => rw [p_is_within, fnP_run (by rfl)]; simp [HV.v, HV.inr]
  | o => rw [p_is_within, fnP_run (by rfl)]; simp [HV.v, HV.inr]
theorem q_law_in {l : List PV} : p_law_in l = p_is_within l := rfl
theorem q_look_house {zs : List Str} {pr : Bool} {pt : Int} {x : HV} : p_look_house [setV zs pr pt, x.v] = if x.inr zs.length then .ok .non else .exc "NoHouse" := by
  rw [p_look_house, fnP_run (by rfl)]
  have h := q_withinH (x := x) (n := zs.length)
  cases hx : x.inr zs.length <;> rw [hx] at h <;> simp [setV, h]
theorem dn_nodup {xs : List Str} (e : xs.Nodup) : dn xs = xs.length := by
  have key : ∀ (xs done : List Str) (n : Nat), xs.Nodup → (∀ x ∈ xs, x ∉ done) → (xs.foldl (fun (p : List Str × Nat) x => (p.1 ++ [x], if p.1.any (· == x) = true then p.2 else p.2 + 1)) (done, n)).2 = n + xs.length := by
    intro xs
    induction xs with
    | nil => intro done n _ _; simp
    | cons x xs ih =>
      intro done n hd hx
      have h1 : done.any (· == x) = false := by
        rw [List.any_eq_false]
        intro y hy
        simp
        rintro rfl
        exact hx y (by simp) hy
      rw [List.foldl_cons]
      simp only [h1]
      rw [ih (done ++ [x]) _ (List.nodup_cons.mp hd).2]
      · simp; omega
      · intro y hy
        have : y ≠ x := fun z => (List.nodup_cons.mp hd).1 (z ▸ hy)
        simp [this, hx y (by simp [hy])]
  have := key xs [] 0 e (by simp)
  simpa [dn, dnF] using this
theorem q_is_setting {zs : List Str} {b : Bool} {k : Int} (S : IsS zs b k) : p_is_setting [setV zs b k] = .ok (.bl true) := by
  rw [p_is_setting, fnP_run (by rfl)]
  have hl := S.lo
  have hh := S.hi
  have h1 := S.k1
  have h2 := S.k2
  have hn := lc_nil (α := Str) .str (g := hN 1) (c := pNot (pTru (pCall 1 p_is_code (pCons (pVar 1) pNil)))) (a := pVar 1) (σ := [some (setV zs b k), none]) zs fun z hz => ⟨[some (setV zs b k), some (.str z)], rfl, by simp [q_is_code (S.cd z hz)]⟩
  have hw := q_within (i := k) (a := 1) (b := 60)
  have hd := dn_nodup S.nd
  refine run_nx (σ1 := [some (setV zs b k), none]) (by simp [setV, pNe_int]) ?_
  refine run_nx (σ1 := [some (setV zs b k), none]) ?_ ?_
  · have a1 : (2:Int) ≤ (zs.length : Int) := by omega
    have a2 : (zs.length : Int) ≤ 8 := by omega
    unfold setV at hn ⊢
    have hw' : wipeP [some (PV.tup [PV.tup (zs.map PV.str), PV.bl b, PV.int k]), none] [1] = [some (PV.tup [PV.tup (zs.map PV.str), PV.bl b, PV.int k]), none] := rfl
    simp [a1, a2, hw', hn, show zs.length ≤ 100000 by omega]
  · have hs := strsV_map (l := zs)
    refine run_nx (σ1 := [some (setV zs b k), none]) ?_ ?_
    · simp [setV, hs, hd, pNe_int, show zs.length ≤ 1000 by omega]
    · simp [setV, hw, h1, h2]
theorem q_look {zs : List Str} {b : Bool} {k : Int} (S : IsS zs b k) : p_look [setV zs b k] = .ok .non := by
  rw [p_look, fnP_run (by rfl)]
  simp [q_is_setting S]
end G9

set_option Elab.async false
set_option linter.all false
set_option maxRecDepth 100000
set_option maxHeartbeats 2000000
namespace G9
open PySem L2
/-! ### a line's state -/
inductive Ou where
  | no
  | rings
  | talks
  | held
  deriving DecidableEq
def ouS : Ou → Str
  | .no => ""
  | .rings => "rings"
  | .talks => "talks"
  | .held => "held"
structure LS where
  zs : List Str
  pr : Bool
  pt : Int
  now : Int
  off : List Int
  asker : Option Int
  dialled : Option Int
  rung : Option (Int × Option Int × Int)
  out : Ou
  ins : List Int
  queue : List Int
  lt : List Int
def optI : Option Int → PV
  | none => .non
  | some i => .int i
def rungV : Option (Int × Option Int × Int) → PV
  | none => .non
  | some (a, b, c) => .tup [.int a, optI b, .int c]
def lineKs : List Str := ["setting", "tick_now", "off", "asker", "dialled", "rung", "outside", "inside", "queue", "let"]
def lineVs (s : LS) : List PV := [setV s.zs s.pr s.pt, .int s.now, .lst (s.off.map .int), optI s.asker, optI s.dialled, rungV s.rung, .str (ouS s.out), .lst (s.ins.map .int), .lst (s.queue.map .int), .lst (s.lt.map .int)]
def lineV (s : LS) : PV := .ins "Line" lineKs (lineVs s)
def stateKs : List Key := [.inr "setting", .inr "now", .inr "off", .inr "asker", .inr "dialled", .inr "rung", .inr "out", .inr "in", .inr "queue", .inr "let"]
def stateV (s : LS) : PV := .dk stateKs (lineVs s)
section
variable {s : LS} {l : List Int} {a b c : Int}
/-! what stands under the names of a line -/
@[simp] theorem ln_setting : getV lineKs (lineVs s) "setting" = some (setV s.zs s.pr s.pt) := id rfl
@[simp] theorem ln_now : getV lineKs (lineVs s) "tick_now" = some (.int s.now) := id rfl
@[simp] theorem ln_off : getV lineKs (lineVs s) "off" = some (.lst (s.off.map .int)) := id rfl
@[simp] theorem ln_asker : getV lineKs (lineVs s) "asker" = some (optI s.asker) := id rfl
@[simp] theorem ln_dialled : getV lineKs (lineVs s) "dialled" = some (optI s.dialled) := id rfl
@[simp] theorem ln_rung : getV lineKs (lineVs s) "rung" = some (rungV s.rung) := id rfl
@[simp] theorem ln_out : getV lineKs (lineVs s) "outside" = some (.str (ouS s.out)) := id rfl
@[simp] theorem ln_ins : getV lineKs (lineVs s) "inside" = some (.lst (s.ins.map .int)) := id rfl
@[simp] theorem ln_queue : getV lineKs (lineVs s) "queue" = some (.lst (s.queue.map .int)) := id rfl
@[simp] theorem ln_let : getV lineKs (lineVs s) "let" = some (.lst (s.lt.map .int)) := id rfl
/-! what is laid there -/
@[simp] theorem pk_now : putKs1 lineKs "tick_now" = lineKs := id rfl
@[simp] theorem pk_asker : putKs1 lineKs "asker" = lineKs := id rfl
@[simp] theorem pk_dialled : putKs1 lineKs "dialled" = lineKs := id rfl
@[simp] theorem pk_rung : putKs1 lineKs "rung" = lineKs := id rfl
@[simp] theorem pk_out : putKs1 lineKs "outside" = lineKs := id rfl
@[simp] theorem pk_ins : putKs1 lineKs "inside" = lineKs := id rfl
@[simp] theorem pk_queue : putKs1 lineKs "queue" = lineKs := id rfl
@[simp] theorem pk_let : putKs1 lineKs "let" = lineKs := id rfl
@[simp] theorem pk_off : putKs1 lineKs "off" = lineKs := id rfl
@[simp] theorem pu_now : putVs1 lineKs (lineVs s) "tick_now" (.int a) = lineVs { s with now := a } := id rfl
@[simp] theorem pu_asker0 : putVs1 lineKs (lineVs s) "asker" .non = lineVs { s with asker := none } := id rfl
@[simp] theorem pu_asker1 : putVs1 lineKs (lineVs s) "asker" (.int a) = lineVs { s with asker := some a } := id rfl
@[simp] theorem pu_dialled0 : putVs1 lineKs (lineVs s) "dialled" .non = lineVs { s with dialled := none } := id rfl
@[simp] theorem pu_dialled1 : putVs1 lineKs (lineVs s) "dialled" (.int a) = lineVs { s with dialled := some a } := id rfl
@[simp] theorem pu_rung0 : putVs1 lineKs (lineVs s) "rung" .non = lineVs { s with rung := none } := id rfl
@[simp] theorem pu_rung1 : putVs1 lineKs (lineVs s) "rung" (.tup [.int a, .non, .int c]) = lineVs { s with rung := some (a, none, c) } := id rfl
@[simp] theorem pu_rung2 : putVs1 lineKs (lineVs s) "rung" (.tup [.int a, .int b, .int c]) = lineVs { s with rung := some (a, some b, c) } := id rfl
@[simp] theorem pu_out0 : putVs1 lineKs (lineVs s) "outside" (.str "") = lineVs { s with out := .no } := id rfl
@[simp] theorem pu_out1 : putVs1 lineKs (lineVs s) "outside" (.str "rings") = lineVs { s with out := .rings } := id rfl
@[simp] theorem pu_out2 : putVs1 lineKs (lineVs s) "outside" (.str "talks") = lineVs { s with out := .talks } := id rfl
@[simp] theorem pu_out3 : putVs1 lineKs (lineVs s) "outside" (.str "held") = lineVs { s with out := .held } := id rfl
@[simp] theorem pu_off : putVs1 lineKs (lineVs s) "off" (.lst (l.map .int)) = lineVs { s with off := l } := id rfl
@[simp] theorem pu_ins : putVs1 lineKs (lineVs s) "inside" (.lst (l.map .int)) = lineVs { s with ins := l } := id rfl
@[simp] theorem pu_ins1 : putVs1 lineKs (lineVs s) "inside" (.lst [.int a]) = lineVs { s with ins := [a] } := id rfl
@[simp] theorem pu_ins2 : putVs1 lineKs (lineVs s) "inside" (.lst [.int a, .int b]) = lineVs { s with ins := [a, b] } := id rfl
@[simp] theorem pu_queue : putVs1 lineKs (lineVs s) "queue" (.lst (l.map .int)) = lineVs { s with queue := l } := id rfl
@[simp] theorem pu_let1 : putVs1 lineKs (lineVs s) "let" (.lst [.int a]) = lineVs { s with lt := [a] } := id rfl
@[simp] theorem pu_let2 : putVs1 lineKs (lineVs s) "let" (.lst [.int a, .int b]) = lineVs { s with lt := [a, b] } := id rfl
end
/-! ### small facts -/
section
variable {l : List Int} {a b h : Int}
theorem eq_ou {x y : Ou} : pEq (.str (ouS x)) (.str (ouS y)) = .ok (.bl (decide (x = y))) := by
  cases x <;> cases y <;> exact isOk_ok (by decide +kernel)
theorem ne_ou {x y : Ou} : pNe (.str (ouS x)) (.str (ouS y)) = .ok (.bl (!decide (x = y))) := by
  cases x <;> cases y <;> exact isOk_ok (by decide +kernel)
@[simp] theorem eq_ou0 {x : Ou} : pEq (.str (ouS x)) (.str "") = .ok (.bl (decide (x = .no))) := eq_ou (y := .no)
@[simp] theorem eq_ou1 {x : Ou} : pEq (.str (ouS x)) (.str "rings") = .ok (.bl (decide (x = .rings))) := eq_ou (y := .rings)
@[simp] theorem eq_ou2 {x : Ou} : pEq (.str (ouS x)) (.str "talks") = .ok (.bl (decide (x = .talks))) := eq_ou (y := .talks)
@[simp] theorem ne_ou0 {x : Ou} : pNe (.str (ouS x)) (.str "") = .ok (.bl (!decide (x = .no))) := ne_ou (y := .no)
@[simp] theorem isNon_opt {o : Option Int} : isNonV (optI o) = o.isNone := by cases o <;> rfl
@[simp] theorem isNon_rung {o : Option (Int × Option Int × Int)} : isNonV (rungV o) = o.isNone := by cases o <;> rfl
@[simp] theorem pIsN_ap {x : PV} : pIsN x .non = .ok (.bl (isNonV x)) := id rfl
@[simp] theorem pNotN_ap {x : PV} : pNotN x .non = .ok (.bl (!isNonV x)) := id rfl
theorem any_int {h : Int} {l : List Int} : ((l.map PyData.int).any fun y => PyData.eqv y (.int h)) = decide (h ∈ l) := by
  induction l with
  | nil => simp
  | cons y l ih =>
    rw [List.map_cons, List.any_cons, ih, Bool.eq_iff_iff]
    simp only [PyData.eqv, Bool.or_eq_true, decide_eq_true_eq, beq_iff_eq, List.mem_cons]
    constructor
    · rintro (z | z)
      · exact .inl z.symm
      · exact .inr z
    · rintro (z | z)
      · exact .inl z.symm
      · exact .inr z
theorem toPy_ints {l : List Int} {k : Nat} : toPyV (k + 2) (.lst (l.map .int)) = some (.list (l.map .int)) := by
  rw [toPyV_lst, optAll_mapF (g := PyData.int) fun z hz => toPyV_int]
  rfl
@[simp] theorem in_ints : pIn (.int h) (.lst (l.map .int)) = .ok (.bl (decide (h ∈ l))) := by
  show pInB false _ _ = _
  simp only [pInB, toPy_ints (k := 7), toPyV_int (n := 8), any_int]
  rfl
@[simp] theorem notIn_ints : pNotIn (.int h) (.lst (l.map .int)) = .ok (.bl (!decide (h ∈ l))) := by
  show pInB true _ _ = _
  simp only [pInB, toPy_ints (k := 7), toPyV_int (n := 8), any_int]
  rfl
theorem app_int (hl : l.length < 100000) : gAppend (l.map .int) [.int h] = some (.non, (l ++ [h]).map .int) := by
  simp [gAppend, hl]
theorem pop0_int (hl : l.length < 100000) : gPop0 ((a :: l).map .int) [.int 0] = some (.int a, l.map .int) := by
  have : l.length + 1 ≤ 100000 := by omega
  simp [gPop0, isFl, this]
end
/-! ### what a line does -/
def LS.idle (s : LS) : Bool := s.rung.isNone && (decide (s.out = .no) && (s.ins.isEmpty && s.asker.isNone))
@[simp] theorem lk_len : lineKs.length = 10 := id rfl
@[simp] theorem no_m {s : LS} : getV lineKs (lineVs s) "is_idle" = none := id rfl
@[simp] theorem no_m1 {s : LS} : getV lineKs (lineVs s) "ring_for" = none := id rfl
@[simp] theorem no_m2 {s : LS} : getV lineKs (lineVs s) "settle" = none := id rfl
@[simp] theorem no_m3 {s : LS} : getV lineKs (lineVs s) "answer" = none := id rfl
@[simp] theorem no_m4 {s : LS} : getV lineKs (lineVs s) "is_let" = none := id rfl
@[simp] theorem no_m5 {s : LS} : getV lineKs (lineVs s) "heard" = none := id rfl
@[simp] theorem no_m6 {s : LS} : getV lineKs (lineVs s) "rings" = none := id rfl
@[simp] theorem no_m7 {s : LS} : getV lineKs (lineVs s) "talking" = none := id rfl
@[simp] theorem no_m8 {s : LS} : getV lineKs (lineVs s) "look_tone" = none := id rfl
@[simp] theorem no_m9 {s : LS} : getV lineKs (lineVs s) "turn" = none := id rfl
def LS.settle (s : LS) : LS := if s.idle then (match s.off with
  | a :: r => { s with asker := some (minI (a :: r)), lt := [minI (a :: r)] }
  | [] => (match s.queue with
    | a :: r => { s with queue := r, rung := some (a, none, s.now), out := .rings, lt := [a] }
    | [] => s)) else s
theorem min_ints {a : Int} {r : List Int} : pMin [.lst ((a :: r).map .int)] = .ok (.int (minI (a :: r))) := by
  simp only [pMin, intsV_map]
end G9

set_option Elab.async false
set_option linter.all false
set_option maxRecDepth 100000
set_option maxHeartbeats 2000000
namespace G9
open PySem L2
@[simp] theorem pEq_int' {a b : Int} : pEq (.int a) (.int b) = .ok (.bl (decide (a = b))) := pEq_int
@[simp] theorem pNe_int' {a b : Int} : pNe (.int a) (.int b) = .ok (.bl (!decide (a = b))) := pNe_int
@[simp] theorem pEq_bl' {a b : Bool} : pEq (.bl a) (.bl b) = .ok (.bl (decide (a = b))) := pEq_bl
@[simp] theorem eq_opt {h : Int} {o : Option Int} : pEq (.int h) (optI o) = .ok (.bl (decide (o = some h))) := by
  cases o with
  | none => rfl
  | some a => simp [optI, eq_comm]
@[simp] theorem eq_opt' {h : Int} {o : Option Int} : pEq (optI o) (.int h) = .ok (.bl (decide (o = some h))) := by
  cases o with
  | none => rfl
  | some a => simp [optI]
@[simp] theorem ne_opt' {h : Int} {o : Option Int} : pNe (optI o) (.int h) = .ok (.bl (!decide (o = some h))) := by
  cases o with
  | none => rfl
  | some a => simp [optI]
@[simp] theorem set_0 {zs : List Str} {pr : Bool} {pt : Int} : pIx (setV zs pr pt) (.int 0) = .ok (.tup (zs.map .str)) := id rfl
@[simp] theorem set_1 {zs : List Str} {pr : Bool} {pt : Int} : pIx (setV zs pr pt) (.int 1) = .ok (.bl pr) := id rfl
@[simp] theorem set_2 {zs : List Str} {pr : Bool} {pt : Int} : pIx (setV zs pr pt) (.int 2) = .ok (.int pt) := id rfl
@[simp] theorem rung_0 {a c : Int} {b : Option Int} : pIx (rungV (some (a, b, c))) (.int 0) = .ok (.int a) := id rfl
@[simp] theorem rung_1 {a c : Int} {b : Option Int} : pIx (rungV (some (a, b, c))) (.int 1) = .ok (optI b) := id rfl
@[simp] theorem rung_2 {a c : Int} {b : Option Int} : pIx (rungV (some (a, b, c))) (.int 2) = .ok (.int c) := id rfl
/-! ### tick, end -/
def LS.tick (s : LS) : LS := match s.rung with
  | some (_, _, c) => if s.pt ≤ s.now + 1 - c then { s with now := s.now + 1, rung := none, out := .no }.settle else { s with now := s.now + 1 }
  | none => { s with now := s.now + 1 }
def LS.fin (s : LS) : LS := { s with rung := if s.out = Ou.rings then none else s.rung, out := .no }.settle
end G9

set_option Elab.async false
set_option linter.all false
set_option maxRecDepth 100000
set_option maxHeartbeats 2000000
namespace G9
open PySem L2
@[simp] theorem nonV0 : isNonV .non = true := id rfl
@[simp] theorem nonV1 {a : Int} : isNonV (.int a) = false := id rfl
/-! ### what rings, what is heard -/
def LS.row (s : LS) (a : Int) (b : Option Int) : List Bool := pat (s.zs.getD a.toNat "") ++ (match b with
  | none => []
  | some b => pat (s.zs.getD b.toNat ""))
def ringB (row : List Bool) (t : Int) : Bool := row.getD (t % (row.length : Int)).toNat false
def LS.rings (s : LS) : Bool := match s.rung with
  | none => false
  | some (a, b, c) => ringB (s.row a b) (s.now - c)
def InH (n : Nat) (i : Int) : Prop := 0 ≤ i ∧ i < (n : Int)
structure LS.Ok0 (s : LS) : Prop where
  st : IsS s.zs s.pr s.pt
  off : s.off.Nodup
  offR : ∀ i ∈ s.off, InH s.zs.length i
  ins : s.ins.Nodup
  insO : ∀ i ∈ s.ins, i ∈ s.off
  ask : ∀ a, s.asker = some a → a ∈ s.off ∧ s.ins = [] ∧ s.out = .no ∧ s.rung = none
  dia : ∀ a, s.dialled = some a → InH s.zs.length a
  run : ∀ a b c, s.rung = some (a, b, c) → InH s.zs.length a ∧ ∀ b', b = some b' → InH s.zs.length b'
  que : s.queue.length ≤ 3
  queR : ∀ i ∈ s.queue, InH s.zs.length i
structure LS.Ok (s : LS) : Prop extends LS.Ok0 s where
  idl : s.idle = true → s.off = [] ∧ s.queue = []
theorem pat_len {z : Str} (h : IsC z) : 5 ≤ (pat z).length ∧ (pat z).length ≤ 19 := tk_pos z h
theorem zs_at {zs : List Str} {i : Int} (h : InH zs.length i) : atI (zs.map PV.str) i = some (.str (zs.getD i.toNat "")) := by
  obtain ⟨h0, h1⟩ := h
  refine atI_int h0 ?_
  have : i.toNat < zs.length := by omega
  simp [List.getD, this]
theorem zs_in {zs : List Str} {i : Int} (h : InH zs.length i) : zs.getD i.toNat "" ∈ zs := by
  obtain ⟨h0, h1⟩ := h
  have : i.toNat < zs.length := by omega
  simp [List.getD, this]
theorem ring_at {row : List Bool} {t : Int} (h : 0 < row.length) : atI (row.map PV.bl) (t % (row.length : Int)) = some (.bl (ringB row t)) := by
  have h0 := mod_lo (i := t) (p := row.length) (by omega)
  have h1 := mod_hi (i := t) (p := row.length) (by omega)
  refine atI_int h0 ?_
  have : (t % (row.length : Int)).toNat < row.length := by omega
  simp [ringB, List.getD, this]
end G9

set_option Elab.async false
set_option linter.all false
set_option maxRecDepth 100000
set_option maxHeartbeats 2000000
namespace G9
open PySem L2
theorem few : ∀ (n : Nat) (l : List Int), l.Nodup → (∀ i ∈ l, InH n i) → l.length ≤ n
  | 0, l, _, h => by
    cases l with
    | nil => simp
    | cons a l => have := h a (by simp); unfold InH at this; omega
  | n + 1, l, hn, h => by
    have ih := few n (l.erase (n : Int)) (hn.erase _) fun i hi => by
      have h1 := h i (List.mem_of_mem_erase hi)
      have h2 : i ≠ (n : Int) := fun e => by subst e; exact (hn.not_mem_erase) hi
      unfold InH at *
      omega
    by_cases hm : (n : Int) ∈ l
    · rw [List.length_erase_of_mem hm] at ih; omega
    · rw [List.erase_of_not_mem hm] at ih; omega
theorem insO_perm {α : Type} {lt : α → α → Bool} (y : α) : ∀ l : List α, (insO lt y l).Perm (y :: l)
  | [] => .refl _
  | x :: l => by
    unfold insO
    split
    · exact .refl _
    · exact (List.Perm.cons x (insO_perm y l)).trans (List.Perm.swap y x l)
theorem sortO_perm {α : Type} {lt : α → α → Bool} (l : List α) : (sortO lt l).Perm l := by
  have key : ∀ (l acc : List α), (l.foldl (fun acc y => insO lt y acc) acc).Perm (l ++ acc) := by
    intro l
    induction l with
    | nil => intro acc; exact .refl _
    | cons x l ih =>
      intro acc
      rw [List.foldl_cons]
      refine (ih _).trans ?_
      refine (List.Perm.append_left l (insO_perm x acc)).trans ?_
      exact List.perm_middle
  have := key l []
  rw [List.append_nil] at this
  exact this
def sortI (l : List Int) : List Int := sortO (fun a b => decide (a < b)) l
theorem sortI_len {l : List Int} : (sortI l).length = l.length := (sortO_perm l).length_eq
theorem sort_ints {l : List Int} (h : l.length ≤ 100000) : pSortA [.lst (l.map .int)] = .ok (.lst ((sortI l).map .int)) := by
  simp only [pSortA, intsV_map]
  have := newLV_ok (vs := (sortI l).map PV.int) (by simpa [sortI_len] using h)
  exact this
theorem LS.Ok.offL {s : LS} (O : s.Ok) : s.off.length ≤ 8 := Nat.le_trans (few _ _ O.off O.offR) O.st.hi
theorem LS.Ok.insL {s : LS} (O : s.Ok) : s.ins.length ≤ 8 := Nat.le_trans (few _ _ O.ins fun i h => O.offR i (O.insO i h)) O.st.hi
def LS.others (s : LS) (h : Int) : List Int := (sortI s.ins).filter fun i => !decide (i = h)
def LS.heardV (s : LS) (h : Int) : PV :=
  if h ∈ s.off then (if s.asker = some h then (if s.dialled.isNone then .tup [.str "tone"] else .tup [.str "busy"])
    else if h ∈ s.ins then .tup [.str "talk", .tup ((s.others h).map .int), .bl (decide (s.out = .talks))] else .tup [.str "shut"])
  else if s.rings then .tup [.str "ring"] else .tup []
theorem others_len {s : LS} {h : Int} (O : s.Ok) : (s.others h).length ≤ 8 := by
  have h1 := List.length_filter_le (fun i => !decide (i = h)) (sortI s.ins)
  rw [sortI_len] at h1
  have := O.insL
  unfold LS.others
  omega
theorem InH.inr {n : Nat} {i : Int} (h : InH n i) : (HV.i i).inr n = true := by
  obtain ⟨a, b⟩ := h
  simp [HV.inr]
  omega
@[simp] theorem no_m10 {s : LS} : getV lineKs (lineVs s) "lifted" = none := id rfl
@[simp] theorem no_m11 {s : LS} : getV lineKs (lineVs s) "caller" = none := id rfl
@[simp] theorem no_m12 {s : LS} : getV lineKs (lineVs s) "waiting" = none := id rfl
@[simp] theorem no_m13 {s : LS} : getV lineKs (lineVs s) "moment" = none := id rfl
end G9

set_option Elab.async false
set_option linter.all false
set_option maxRecDepth 100000
set_option maxHeartbeats 2000000
namespace G9
open PySem L2
def LS.answer (s : LS) (h : Int) : LS := match s.rung with
  | none => s
  | some (a, b, _) => if b = some h then { s with rung := none } else if a = h ∨ s.pr = false then { s with rung := none, ins := [h], out := if s.out = Ou.rings then .talks else s.out } else s
def LS.lift1 (s : LS) (h : Int) : LS :=
  if s.rung.isSome then ({ s with off := s.off ++ [h] } : LS).answer h
  else if ¬ s.out = Ou.no ∨ ¬ s.ins = [] then (if s.pr = false ∨ h ∈ s.lt then { s with off := s.off ++ [h], ins := s.ins ++ [h] } else { s with off := s.off ++ [h] })
  else match s.asker, s.dialled, s.pr with
    | some a, none, false => { s with off := s.off ++ [h], ins := [a, h], asker := none }
    | _, _, _ => { s with off := s.off ++ [h] }
def LS.lift (s : LS) (h : Int) : LS := (s.lift1 h).settle
theorem answer_q {s : LS} {h : Int} : (s.answer h).queue = s.queue := by
  unfold LS.answer
  repeat' split <;> try rfl
theorem lift1_q {s : LS} {h : Int} : (s.lift1 h).queue = s.queue := by
  unfold LS.lift1
  split
  · exact answer_q
  · repeat' split <;> try rfl
theorem look_in {zs : List Str} {pr : Bool} {pt h : Int} (hh : InH zs.length h) : p_look_house [setV zs pr pt, .int h] = .ok .non := by
  have hl := q_look_house (zs := zs) (pr := pr) (pt := pt) (x := .i h)
  rw [if_pos hh.inr] at hl
  exact hl
theorem seq_assoc {a b c : ESP} {σ σ1 : SP} (e : pSeq a b σ = .nx σ1) : pSeq a (pSeq b c) σ = c σ1 := by
  unfold pSeq at *
  cases h : a σ with
  | nx τ =>
    rw [h] at e
    dsimp only at e ⊢
    rw [e]
  | _ => rw [h] at e; cases e
/-! ### hang -/
def LS.hang1 (s : LS) (h : Int) : LS :=
  if s.asker = some h then
    (match s.dialled with
    | some d => if d ∈ s.off.filter (fun i => !decide (i = h)) then { s with off := s.off.filter fun i => !decide (i = h), asker := none, dialled := none } else { s with off := s.off.filter fun i => !decide (i = h), asker := none, dialled := none, rung := some (d, some h, s.now), lt := [d, h] }
    | none => { s with off := s.off.filter fun i => !decide (i = h), asker := none, dialled := none })
  else if h ∈ s.ins then { s with off := s.off.filter fun i => !decide (i = h), ins := s.ins.filter (fun i => !decide (i = h)), out := if s.ins.filter (fun i => !decide (i = h)) = [] ∧ s.out = Ou.talks then .no else s.out }
  else { s with off := s.off.filter fun i => !decide (i = h) }
def LS.hang (s : LS) (h : Int) : LS := (s.hang1 h).settle
theorem er_map {α β : Type} (f : α → β) : ∀ (l : List α) (j : Nat), (l.map f).eraseIdx j = (l.eraseIdx j).map f
  | [], _ => rfl
  | _ :: _, 0 => rfl
  | a :: l, j + 1 => by simp [er_map f l j]
@[simp] theorem pu_ins0 {s : LS} : putVs1 lineKs (lineVs s) "inside" (.lst []) = lineVs { s with ins := [] } := id rfl
theorem rem_int {l : List Int} {h : Int} (hn : l.Nodup) (hm : h ∈ l) : gRemove (l.map .int) [.int h] = some (.non, (l.filter fun i => !decide (i = h)).map .int) := by
  have h1 : ∀ l : List Int, h ∈ l → l.Nodup → ∃ j, l.findIdx? (fun x => decide (x = h)) = some j ∧ l.eraseIdx j = l.filter fun i => !decide (i = h) := by
    intro l
    induction l with
    | nil => intro hm _; cases hm
    | cons a l ih =>
      intro hm hn
      obtain ⟨h2, h3⟩ := List.nodup_cons.mp hn
      by_cases e : a = h
      · subst e
        refine ⟨0, by simp [List.findIdx?_cons], ?_⟩
        have : l.filter (fun i => !decide (i = a)) = l := List.filter_eq_self.mpr fun x hx => by
          simp
          rintro rfl
          exact h2 hx
        simp [this]
      · have hm' : h ∈ l := by
          rcases List.mem_cons.mp hm with z | z
          · exact absurd z.symm e
          · exact z
        obtain ⟨j, e1, e2⟩ := ih hm' h3
        exact ⟨j + 1, by simp [List.findIdx?_cons, e, e1], by simp [e, e2]⟩
  obtain ⟨j, e1, e2⟩ := h1 l hm hn
  unfold gRemove
  simp only [intsV_map, e1]
  rw [← e2, er_map]
theorem hang1_q {s : LS} {h : Int} : (s.hang1 h).queue = s.queue := by
  unfold LS.hang1
  repeat' split <;> try rfl
end G9

set_option Elab.async false
set_option linter.all false
set_option maxRecDepth 100000
set_option maxHeartbeats 2000000
namespace G9
open PySem L2
/-! ### a house that is none -/
section
variable {s : LS} {x : HV}
theorem look_no {zs : List Str} {pr : Bool} {pt : Int} (hh : x.inr zs.length = false) : p_look_house [setV zs pr pt, x.v] = .exc "NoHouse" := by
  have hl := q_look_house (zs := zs) (pr := pr) (pt := pt) (x := x)
  rw [hh] at hl
  exact hl
end
section
variable {s : LS} {h : Int}
end
end G9

set_option Elab.async false
set_option linter.all false
set_option maxRecDepth 100000
set_option maxHeartbeats 2000000
namespace G9
open PySem L2
/-! ### the law's state -/
@[simp] theorem hSubD_ap {i : Nat} {ix : XP} {v : PV} {σ : SP} : hSubD i ix v σ = match σ[i]?, ix σ with
  | some (some (.dk ks vs)), .ok y => (match toKeyV y with
    | some k => if ks.length < 100000 then some (σ.set i (some (.dk (putKs ks k) (putVs ks vs k v)))) else none
    | none => none)
  | _, _ => none := id rfl
@[simp] theorem hT'_ap {n : Nat} {g : List PV → SP → Option SP} {xs : List PV} {σ : SP} : hT' n g (.tup xs) σ = if xs.length = n then g xs σ else none := id rfl
@[simp] theorem liftF_ap' {p : XP} {σ : SP} : liftF p σ = match p σ with
  | .ok v => if isFl v = true then .ok v σ else .bad
  | .exc c => .exc c σ
  | .bad => .bad := id rfl
@[simp] theorem liftN_ap' {p : XP} {σ : SP} : liftN p σ = match p σ with
  | .ok (.lst vs) => if isFls vs = true then .ok (.lst vs) σ else .bad
  | .ok _ => .bad
  | .exc c => .exc c σ
  | .bad => .bad := id rfl
@[simp] theorem eTup_ap' {as : SP → PQ (List PV)} {σ : SP} : eTup as σ = (as σ).bind fun xs σ1 => if xs.length ≤ BIG then .ok (.tup xs) σ1 else .bad := id rfl
@[simp] theorem sk_len : stateKs.length = 10 := id rfl
section
variable {s : LS} {l : List Int} {a b c : Int}
@[simp] theorem key_setting : toKeyV (.str "setting") = some (.inr "setting") := id rfl
@[simp] theorem sg_setting : getV stateKs (lineVs s) (.inr "setting") = some (setV s.zs s.pr s.pt) := id rfl
@[simp] theorem sd_setting : pDGet (.dk stateKs (lineVs s)) (.str "setting") = .ok (setV s.zs s.pr s.pt) := id rfl
@[simp] theorem sp_setting : putKs stateKs (.inr "setting") = stateKs := id rfl
@[simp] theorem key_now : toKeyV (.str "now") = some (.inr "now") := id rfl
@[simp] theorem sg_now : getV stateKs (lineVs s) (.inr "now") = some (.int s.now) := id rfl
@[simp] theorem sd_now : pDGet (.dk stateKs (lineVs s)) (.str "now") = .ok (.int s.now) := id rfl
@[simp] theorem sp_now : putKs stateKs (.inr "now") = stateKs := id rfl
@[simp] theorem key_off : toKeyV (.str "off") = some (.inr "off") := id rfl
@[simp] theorem sg_off : getV stateKs (lineVs s) (.inr "off") = some (.lst (s.off.map .int)) := id rfl
@[simp] theorem sd_off : pDGet (.dk stateKs (lineVs s)) (.str "off") = .ok (.lst (s.off.map .int)) := id rfl
@[simp] theorem sp_off : putKs stateKs (.inr "off") = stateKs := id rfl
@[simp] theorem key_asker : toKeyV (.str "asker") = some (.inr "asker") := id rfl
@[simp] theorem sg_asker : getV stateKs (lineVs s) (.inr "asker") = some (optI s.asker) := id rfl
@[simp] theorem sd_asker : pDGet (.dk stateKs (lineVs s)) (.str "asker") = .ok (optI s.asker) := id rfl
@[simp] theorem sp_asker : putKs stateKs (.inr "asker") = stateKs := id rfl
@[simp] theorem key_dialled : toKeyV (.str "dialled") = some (.inr "dialled") := id rfl
@[simp] theorem sg_dialled : getV stateKs (lineVs s) (.inr "dialled") = some (optI s.dialled) := id rfl
@[simp] theorem sd_dialled : pDGet (.dk stateKs (lineVs s)) (.str "dialled") = .ok (optI s.dialled) := id rfl
@[simp] theorem sp_dialled : putKs stateKs (.inr "dialled") = stateKs := id rfl
@[simp] theorem key_rung : toKeyV (.str "rung") = some (.inr "rung") := id rfl
@[simp] theorem sg_rung : getV stateKs (lineVs s) (.inr "rung") = some (rungV s.rung) := id rfl
@[simp] theorem sd_rung : pDGet (.dk stateKs (lineVs s)) (.str "rung") = .ok (rungV s.rung) := id rfl
@[simp] theorem sp_rung : putKs stateKs (.inr "rung") = stateKs := id rfl
@[simp] theorem key_out : toKeyV (.str "out") = some (.inr "out") := id rfl
@[simp] theorem sg_out : getV stateKs (lineVs s) (.inr "out") = some (.str (ouS s.out)) := id rfl
@[simp] theorem sd_out : pDGet (.dk stateKs (lineVs s)) (.str "out") = .ok (.str (ouS s.out)) := id rfl
@[simp] theorem sp_out : putKs stateKs (.inr "out") = stateKs := id rfl
@[simp] theorem key_in : toKeyV (.str "in") = some (.inr "in") := id rfl
@[simp] theorem sg_in : getV stateKs (lineVs s) (.inr "in") = some (.lst (s.ins.map .int)) := id rfl
@[simp] theorem sd_in : pDGet (.dk stateKs (lineVs s)) (.str "in") = .ok (.lst (s.ins.map .int)) := id rfl
@[simp] theorem sp_in : putKs stateKs (.inr "in") = stateKs := id rfl
@[simp] theorem key_queue : toKeyV (.str "queue") = some (.inr "queue") := id rfl
@[simp] theorem sg_queue : getV stateKs (lineVs s) (.inr "queue") = some (.lst (s.queue.map .int)) := id rfl
@[simp] theorem sd_queue : pDGet (.dk stateKs (lineVs s)) (.str "queue") = .ok (.lst (s.queue.map .int)) := id rfl
@[simp] theorem sp_queue : putKs stateKs (.inr "queue") = stateKs := id rfl
@[simp] theorem key_let : toKeyV (.str "let") = some (.inr "let") := id rfl
@[simp] theorem sg_let : getV stateKs (lineVs s) (.inr "let") = some (.lst (s.lt.map .int)) := id rfl
@[simp] theorem sd_let : pDGet (.dk stateKs (lineVs s)) (.str "let") = .ok (.lst (s.lt.map .int)) := id rfl
@[simp] theorem sp_let : putKs stateKs (.inr "let") = stateKs := id rfl
@[simp] theorem su_0 : putVs stateKs (lineVs s) (.inr "now") (.int a) = lineVs { s with now := a } := id rfl
@[simp] theorem su_1 : putVs stateKs (lineVs s) (.inr "asker") (.non) = lineVs { s with asker := none } := id rfl
@[simp] theorem su_2 : putVs stateKs (lineVs s) (.inr "asker") (.int a) = lineVs { s with asker := some a } := id rfl
@[simp] theorem su_3 : putVs stateKs (lineVs s) (.inr "dialled") (.non) = lineVs { s with dialled := none } := id rfl
@[simp] theorem su_4 : putVs stateKs (lineVs s) (.inr "dialled") (.int a) = lineVs { s with dialled := some a } := id rfl
@[simp] theorem su_5 : putVs stateKs (lineVs s) (.inr "rung") (.non) = lineVs { s with rung := none } := id rfl
@[simp] theorem su_6 : putVs stateKs (lineVs s) (.inr "rung") (.tup [.int a, .non, .int c]) = lineVs { s with rung := some (a, none, c) } := id rfl
@[simp] theorem su_7 : putVs stateKs (lineVs s) (.inr "rung") (.tup [.int a, .int b, .int c]) = lineVs { s with rung := some (a, some b, c) } := id rfl
@[simp] theorem su_8 {r0 : Option (Int × Option Int × Int)} : putVs stateKs (lineVs s) (.inr "rung") (rungV r0) = lineVs { s with rung := r0 } := id rfl
@[simp] theorem su_9 : putVs stateKs (lineVs s) (.inr "out") (.str "") = lineVs { s with out := .no } := id rfl
@[simp] theorem su_10 : putVs stateKs (lineVs s) (.inr "out") (.str "rings") = lineVs { s with out := .rings } := id rfl
@[simp] theorem su_11 : putVs stateKs (lineVs s) (.inr "out") (.str "talks") = lineVs { s with out := .talks } := id rfl
@[simp] theorem su_12 : putVs stateKs (lineVs s) (.inr "out") (.str "held") = lineVs { s with out := .held } := id rfl
@[simp] theorem su_13 {o0 : Ou} : putVs stateKs (lineVs s) (.inr "out") (.str (ouS o0)) = lineVs { s with out := o0 } := id rfl
@[simp] theorem su_14 : putVs stateKs (lineVs s) (.inr "off") (.lst (l.map .int)) = lineVs { s with off := l } := id rfl
@[simp] theorem su_15 : putVs stateKs (lineVs s) (.inr "in") (.lst (l.map .int)) = lineVs { s with ins := l } := id rfl
@[simp] theorem su_16 : putVs stateKs (lineVs s) (.inr "in") (.lst []) = lineVs { s with ins := [] } := id rfl
@[simp] theorem su_17 : putVs stateKs (lineVs s) (.inr "in") (.lst [.int a]) = lineVs { s with ins := [a] } := id rfl
@[simp] theorem su_18 : putVs stateKs (lineVs s) (.inr "in") (.lst [.int a, .int b]) = lineVs { s with ins := [a, b] } := id rfl
@[simp] theorem su_19 : putVs stateKs (lineVs s) (.inr "queue") (.lst (l.map .int)) = lineVs { s with queue := l } := id rfl
@[simp] theorem su_20 : putVs stateKs (lineVs s) (.inr "queue") (.lst [.int a]) = lineVs { s with queue := [a] } := id rfl
@[simp] theorem su_21 : putVs stateKs (lineVs s) (.inr "let") (.lst [.int a]) = lineVs { s with lt := [a] } := id rfl
@[simp] theorem su_22 : putVs stateKs (lineVs s) (.inr "let") (.lst [.int a, .int b]) = lineVs { s with lt := [a, b] } := id rfl
@[simp] theorem su_a0 : putVs stateKs (lineVs s) (.inr "off") (.lst (l.map .int ++ [.int a])) = lineVs { s with off := l ++ [a] } := by rw [show l.map PV.int ++ [.int a] = (l ++ [a]).map .int by simp]; rfl
@[simp] theorem su_a1 : putVs stateKs (lineVs s) (.inr "in") (.lst (l.map .int ++ [.int a])) = lineVs { s with ins := l ++ [a] } := by rw [show l.map PV.int ++ [.int a] = (l ++ [a]).map .int by simp]; rfl
@[simp] theorem su_a2 : putVs stateKs (lineVs s) (.inr "queue") (.lst (l.map .int ++ [.int a])) = lineVs { s with queue := l ++ [a] } := by rw [show l.map PV.int ++ [.int a] = (l ++ [a]).map .int by simp]; rfl
end
@[simp] theorem eq_nil0 : pEq (.lst []) (.lst []) = .ok (.bl true) := id rfl
@[simp] theorem ne_nil0 : pNe (.lst []) (.lst []) = .ok (.bl false) := id rfl
theorem toPy_nil {k : Nat} : toPyV (k + 2) (.lst []) = some (.list []) := rfl
theorem eqv_nil {a : Int} {l : List Int} : PyData.eqv (.list ((a :: l).map .int)) (.list []) = false := by
  simp [PyData.eqv, PyData.eqvAll]
@[simp] theorem eq_nil {l : List Int} : pEq (.lst (l.map .int)) (.lst []) = .ok (.bl l.isEmpty) := by
  cases l with
  | nil => rfl
  | cons a l =>
    unfold pEq
    rw [toPy_ints, toPy_nil]
    simp only [eqv_nil]
    rfl
@[simp] theorem ne_nil {l : List Int} : pNe (.lst (l.map .int)) (.lst []) = .ok (.bl (!l.isEmpty)) := by
  cases l with
  | nil => rfl
  | cons a l =>
    unfold pNe
    rw [toPy_ints, toPy_nil]
    simp only [eqv_nil]
    rfl
@[simp] theorem ne_nil1 {a : Int} {l : List Int} : pNe (.lst (.int a :: l.map .int)) (.lst []) = .ok (.bl true) := ne_nil (l := a :: l)
@[simp] theorem eq_nil1 {a : Int} {l : List Int} : pEq (.lst (.int a :: l.map .int)) (.lst []) = .ok (.bl false) := eq_nil (l := a :: l)
theorem cut_1 {α : Type} {x : α} {xs : List α} : cutD (x :: xs) (some 1) none = xs := by
  have h1 : HT.sIx (x :: xs).length 0 (some ((1 : Nat) : Int)) = min 1 (x :: xs).length := HT.sIx_nat _ _ _
  simp only [show ((1 : Nat) : Int) = 1 from rfl] at h1
  simp only [cutD, HT.sIx_none, h1]
  rw [Nat.min_eq_left (by simp)]
  simp
end G9

set_option Elab.async false
set_option linter.all false
set_option maxRecDepth 100000
set_option maxHeartbeats 2000000
namespace G9
open PySem L2
@[simp] theorem nonV2 {l : List PV} : isNonV (.tup l) = false := id rfl
end G9

set_option Elab.async false
set_option linter.all false
set_option maxRecDepth 100000
set_option maxHeartbeats 2000000
namespace G9
open PySem L2
@[simp] theorem pInt_bl {b : Bool} : pInt [.bl b] = .ok (.int (if b then 1 else 0)) := by cases b <;> rfl
@[simp] theorem isFl_opt {o : Option Int} : isFl (optI o) = true := by cases o <;> rfl
@[simp] theorem isFl_rung {o : Option (Int × Option Int × Int)} : isFl (rungV o) = true := by
  cases o with
  | none => rfl
  | some r => obtain ⟨a, b, c⟩ := r; cases b <;> rfl
@[simp] theorem isFls_app {a b : List PV} : isFls (a ++ b) = (isFls a && isFls b) := by
  induction a with
  | nil => simp
  | cons x a ih => simp [ih, Bool.and_assoc]
theorem rungV_some {a c : Int} {b : Option Int} : rungV (some (a, b, c)) = .tup [.int a, optI b, .int c] := rfl
theorem heard_fl {s : LS} {h : Int} : isFl (s.heardV h) = true := by
  unfold LS.heardV
  (repeat' split) <;> simp
end G9

set_option Elab.async false
set_option linter.all false
set_option maxRecDepth 100000
set_option maxHeartbeats 2000000
namespace G9
open PySem L2
end G9

set_option Elab.async false
set_option linter.all false
set_option maxRecDepth 100000
set_option maxHeartbeats 2000000
namespace G9
open PySem L2
/-! ### deeds -/
inductive Deed where
  | tick
  | fin
  | lift (x : HV)
  | hang (x : HV)
  | dial (x y : HV)
  | out (x : HV)
  | call (x : HV)
  | hold (x : HV)
  | take (x : HV)
def Deed.v : Deed → PV
  | .tick => .tup [.str "tick"]
  | .fin => .tup [.str "end"]
  | .lift x => .tup [.str "lift", x.v]
  | .hang x => .tup [.str "hang", x.v]
  | .dial x y => .tup [.str "dial", x.v, y.v]
  | .out x => .tup [.str "out", x.v]
  | .call x => .tup [.str "call", x.v]
  | .hold x => .tup [.str "hold", x.v]
  | .take x => .tup [.str "take", x.v]
/-- what is told, and the state behind it, of a house that is one -/
def LS.at (s : LS) (x : HV) (f : Int → PV × LS) : PV × LS := match x with
  | .i h => if x.inr s.zs.length = true then f h else (.str "house", s)
  | _ => (.str "house", s)
def LS.done (s : LS) : Deed → PV × LS
  | .tick => (.non, s.tick)
  | .fin => if s.out = .no then (.str "call", s) else (.non, s.fin)
  | .lift x => s.at x fun h => if h ∈ s.off then (.str "off", s) else ((s.lift h).heardV h, s.lift h)
  | .hang x => s.at x fun h => if h ∈ s.off then (.non, s.hang h) else (.str "on", s)
  | .dial x y => s.at x fun h => if s.asker = some h ∧ s.dialled = none then s.at y fun d => (if d = h then (.str "house", s) else (.non, { s with dialled := some d })) else (.str "tone", s)
  | .out x => s.at x fun h => if s.asker = some h ∧ s.dialled = none then (.non, { s with asker := none, ins := [h], out := .talks }) else (.str "tone", s)
  | .call x => s.at x fun h => if s.idle = true then (.str "rings", { s with rung := some (h, none, s.now), out := .rings, lt := [h] }) else if s.queue.length = 3 then (.str "busy", s) else (.str "waits", { s with queue := s.queue ++ [h] })
  | .hold x => s.at x fun h => if h ∈ s.ins ∧ s.out = .talks then (.non, { s with out := .held }) else (.str "talk", s)
  | .take x => s.at x fun h => if h ∈ s.ins ∧ s.out = .held then (.non, { s with out := .talks }) else (.str "talk", s)
end G9

set_option Elab.async false
set_option linter.all false
set_option maxRecDepth 100000
set_option maxHeartbeats 2000000
namespace G9
open PySem L2
/-! ### words -/
@[simp] theorem wi_0 : pIn (.str "tick") (.tup [.str "tick", .str "end"]) = .ok (.bl true) := isOk_ok (by decide +kernel)
@[simp] theorem wi_1 : pIn (.str "tick") (.tup [.str "lift", .str "hang"]) = .ok (.bl false) := isOk_ok (by decide +kernel)
@[simp] theorem wi_2 : pIn (.str "tick") (.tup [.str "dial", .str "out"]) = .ok (.bl false) := isOk_ok (by decide +kernel)
@[simp] theorem wi_3 : pIn (.str "tick") (.tup [.str "hold", .str "take"]) = .ok (.bl false) := isOk_ok (by decide +kernel)
@[simp] theorem we_4 : pEq (.str "tick") (.str "tick") = .ok (.bl true) := isOk_ok (by decide +kernel)
@[simp] theorem we_5 : pEq (.str "tick") (.str "end") = .ok (.bl false) := isOk_ok (by decide +kernel)
@[simp] theorem we_6 : pEq (.str "tick") (.str "lift") = .ok (.bl false) := isOk_ok (by decide +kernel)
@[simp] theorem we_7 : pEq (.str "tick") (.str "dial") = .ok (.bl false) := isOk_ok (by decide +kernel)
@[simp] theorem we_8 : pEq (.str "tick") (.str "call") = .ok (.bl false) := isOk_ok (by decide +kernel)
@[simp] theorem we_9 : pEq (.str "tick") (.str "hold") = .ok (.bl false) := isOk_ok (by decide +kernel)
@[simp] theorem we_10 : pEq (.str "tick") (.str "out") = .ok (.bl false) := isOk_ok (by decide +kernel)
@[simp] theorem wi_11 : pIn (.str "end") (.tup [.str "tick", .str "end"]) = .ok (.bl true) := isOk_ok (by decide +kernel)
@[simp] theorem wi_12 : pIn (.str "end") (.tup [.str "lift", .str "hang"]) = .ok (.bl false) := isOk_ok (by decide +kernel)
@[simp] theorem wi_13 : pIn (.str "end") (.tup [.str "dial", .str "out"]) = .ok (.bl false) := isOk_ok (by decide +kernel)
@[simp] theorem wi_14 : pIn (.str "end") (.tup [.str "hold", .str "take"]) = .ok (.bl false) := isOk_ok (by decide +kernel)
@[simp] theorem we_15 : pEq (.str "end") (.str "tick") = .ok (.bl false) := isOk_ok (by decide +kernel)
@[simp] theorem we_16 : pEq (.str "end") (.str "end") = .ok (.bl true) := isOk_ok (by decide +kernel)
@[simp] theorem we_17 : pEq (.str "end") (.str "lift") = .ok (.bl false) := isOk_ok (by decide +kernel)
@[simp] theorem we_18 : pEq (.str "end") (.str "dial") = .ok (.bl false) := isOk_ok (by decide +kernel)
@[simp] theorem we_19 : pEq (.str "end") (.str "call") = .ok (.bl false) := isOk_ok (by decide +kernel)
@[simp] theorem we_20 : pEq (.str "end") (.str "hold") = .ok (.bl false) := isOk_ok (by decide +kernel)
@[simp] theorem we_21 : pEq (.str "end") (.str "out") = .ok (.bl false) := isOk_ok (by decide +kernel)
@[simp] theorem wi_22 : pIn (.str "lift") (.tup [.str "tick", .str "end"]) = .ok (.bl false) := isOk_ok (by decide +kernel)
@[simp] theorem wi_23 : pIn (.str "lift") (.tup [.str "lift", .str "hang"]) = .ok (.bl true) := isOk_ok (by decide +kernel)
@[simp] theorem wi_24 : pIn (.str "lift") (.tup [.str "dial", .str "out"]) = .ok (.bl false) := isOk_ok (by decide +kernel)
@[simp] theorem wi_25 : pIn (.str "lift") (.tup [.str "hold", .str "take"]) = .ok (.bl false) := isOk_ok (by decide +kernel)
@[simp] theorem we_26 : pEq (.str "lift") (.str "tick") = .ok (.bl false) := isOk_ok (by decide +kernel)
@[simp] theorem we_27 : pEq (.str "lift") (.str "end") = .ok (.bl false) := isOk_ok (by decide +kernel)
@[simp] theorem we_28 : pEq (.str "lift") (.str "lift") = .ok (.bl true) := isOk_ok (by decide +kernel)
@[simp] theorem we_29 : pEq (.str "lift") (.str "dial") = .ok (.bl false) := isOk_ok (by decide +kernel)
@[simp] theorem we_30 : pEq (.str "lift") (.str "call") = .ok (.bl false) := isOk_ok (by decide +kernel)
@[simp] theorem we_31 : pEq (.str "lift") (.str "hold") = .ok (.bl false) := isOk_ok (by decide +kernel)
@[simp] theorem we_32 : pEq (.str "lift") (.str "out") = .ok (.bl false) := isOk_ok (by decide +kernel)
@[simp] theorem wi_33 : pIn (.str "hang") (.tup [.str "tick", .str "end"]) = .ok (.bl false) := isOk_ok (by decide +kernel)
@[simp] theorem wi_34 : pIn (.str "hang") (.tup [.str "lift", .str "hang"]) = .ok (.bl true) := isOk_ok (by decide +kernel)
@[simp] theorem wi_35 : pIn (.str "hang") (.tup [.str "dial", .str "out"]) = .ok (.bl false) := isOk_ok (by decide +kernel)
@[simp] theorem wi_36 : pIn (.str "hang") (.tup [.str "hold", .str "take"]) = .ok (.bl false) := isOk_ok (by decide +kernel)
@[simp] theorem we_37 : pEq (.str "hang") (.str "tick") = .ok (.bl false) := isOk_ok (by decide +kernel)
@[simp] theorem we_38 : pEq (.str "hang") (.str "end") = .ok (.bl false) := isOk_ok (by decide +kernel)
@[simp] theorem we_39 : pEq (.str "hang") (.str "lift") = .ok (.bl false) := isOk_ok (by decide +kernel)
@[simp] theorem we_40 : pEq (.str "hang") (.str "dial") = .ok (.bl false) := isOk_ok (by decide +kernel)
@[simp] theorem we_41 : pEq (.str "hang") (.str "call") = .ok (.bl false) := isOk_ok (by decide +kernel)
@[simp] theorem we_42 : pEq (.str "hang") (.str "hold") = .ok (.bl false) := isOk_ok (by decide +kernel)
@[simp] theorem we_43 : pEq (.str "hang") (.str "out") = .ok (.bl false) := isOk_ok (by decide +kernel)
@[simp] theorem wi_44 : pIn (.str "dial") (.tup [.str "tick", .str "end"]) = .ok (.bl false) := isOk_ok (by decide +kernel)
@[simp] theorem wi_45 : pIn (.str "dial") (.tup [.str "lift", .str "hang"]) = .ok (.bl false) := isOk_ok (by decide +kernel)
@[simp] theorem wi_46 : pIn (.str "dial") (.tup [.str "dial", .str "out"]) = .ok (.bl true) := isOk_ok (by decide +kernel)
@[simp] theorem wi_47 : pIn (.str "dial") (.tup [.str "hold", .str "take"]) = .ok (.bl false) := isOk_ok (by decide +kernel)
@[simp] theorem we_48 : pEq (.str "dial") (.str "tick") = .ok (.bl false) := isOk_ok (by decide +kernel)
@[simp] theorem we_49 : pEq (.str "dial") (.str "end") = .ok (.bl false) := isOk_ok (by decide +kernel)
@[simp] theorem we_50 : pEq (.str "dial") (.str "lift") = .ok (.bl false) := isOk_ok (by decide +kernel)
@[simp] theorem we_51 : pEq (.str "dial") (.str "dial") = .ok (.bl true) := isOk_ok (by decide +kernel)
@[simp] theorem we_52 : pEq (.str "dial") (.str "call") = .ok (.bl false) := isOk_ok (by decide +kernel)
@[simp] theorem we_53 : pEq (.str "dial") (.str "hold") = .ok (.bl false) := isOk_ok (by decide +kernel)
@[simp] theorem we_54 : pEq (.str "dial") (.str "out") = .ok (.bl false) := isOk_ok (by decide +kernel)
@[simp] theorem wi_55 : pIn (.str "out") (.tup [.str "tick", .str "end"]) = .ok (.bl false) := isOk_ok (by decide +kernel)
@[simp] theorem wi_56 : pIn (.str "out") (.tup [.str "lift", .str "hang"]) = .ok (.bl false) := isOk_ok (by decide +kernel)
@[simp] theorem wi_57 : pIn (.str "out") (.tup [.str "dial", .str "out"]) = .ok (.bl true) := isOk_ok (by decide +kernel)
@[simp] theorem wi_58 : pIn (.str "out") (.tup [.str "hold", .str "take"]) = .ok (.bl false) := isOk_ok (by decide +kernel)
@[simp] theorem we_59 : pEq (.str "out") (.str "tick") = .ok (.bl false) := isOk_ok (by decide +kernel)
@[simp] theorem we_60 : pEq (.str "out") (.str "end") = .ok (.bl false) := isOk_ok (by decide +kernel)
@[simp] theorem we_61 : pEq (.str "out") (.str "lift") = .ok (.bl false) := isOk_ok (by decide +kernel)
@[simp] theorem we_62 : pEq (.str "out") (.str "dial") = .ok (.bl false) := isOk_ok (by decide +kernel)
@[simp] theorem we_63 : pEq (.str "out") (.str "call") = .ok (.bl false) := isOk_ok (by decide +kernel)
@[simp] theorem we_64 : pEq (.str "out") (.str "hold") = .ok (.bl false) := isOk_ok (by decide +kernel)
@[simp] theorem we_65 : pEq (.str "out") (.str "out") = .ok (.bl true) := isOk_ok (by decide +kernel)
@[simp] theorem wi_66 : pIn (.str "call") (.tup [.str "tick", .str "end"]) = .ok (.bl false) := isOk_ok (by decide +kernel)
@[simp] theorem wi_67 : pIn (.str "call") (.tup [.str "lift", .str "hang"]) = .ok (.bl false) := isOk_ok (by decide +kernel)
@[simp] theorem wi_68 : pIn (.str "call") (.tup [.str "dial", .str "out"]) = .ok (.bl false) := isOk_ok (by decide +kernel)
@[simp] theorem wi_69 : pIn (.str "call") (.tup [.str "hold", .str "take"]) = .ok (.bl false) := isOk_ok (by decide +kernel)
@[simp] theorem we_70 : pEq (.str "call") (.str "tick") = .ok (.bl false) := isOk_ok (by decide +kernel)
@[simp] theorem we_71 : pEq (.str "call") (.str "end") = .ok (.bl false) := isOk_ok (by decide +kernel)
@[simp] theorem we_72 : pEq (.str "call") (.str "lift") = .ok (.bl false) := isOk_ok (by decide +kernel)
@[simp] theorem we_73 : pEq (.str "call") (.str "dial") = .ok (.bl false) := isOk_ok (by decide +kernel)
@[simp] theorem we_74 : pEq (.str "call") (.str "call") = .ok (.bl true) := isOk_ok (by decide +kernel)
@[simp] theorem we_75 : pEq (.str "call") (.str "hold") = .ok (.bl false) := isOk_ok (by decide +kernel)
@[simp] theorem we_76 : pEq (.str "call") (.str "out") = .ok (.bl false) := isOk_ok (by decide +kernel)
@[simp] theorem wi_77 : pIn (.str "hold") (.tup [.str "tick", .str "end"]) = .ok (.bl false) := isOk_ok (by decide +kernel)
@[simp] theorem wi_78 : pIn (.str "hold") (.tup [.str "lift", .str "hang"]) = .ok (.bl false) := isOk_ok (by decide +kernel)
@[simp] theorem wi_79 : pIn (.str "hold") (.tup [.str "dial", .str "out"]) = .ok (.bl false) := isOk_ok (by decide +kernel)
@[simp] theorem wi_80 : pIn (.str "hold") (.tup [.str "hold", .str "take"]) = .ok (.bl true) := isOk_ok (by decide +kernel)
@[simp] theorem we_81 : pEq (.str "hold") (.str "tick") = .ok (.bl false) := isOk_ok (by decide +kernel)
@[simp] theorem we_82 : pEq (.str "hold") (.str "end") = .ok (.bl false) := isOk_ok (by decide +kernel)
@[simp] theorem we_83 : pEq (.str "hold") (.str "lift") = .ok (.bl false) := isOk_ok (by decide +kernel)
@[simp] theorem we_84 : pEq (.str "hold") (.str "dial") = .ok (.bl false) := isOk_ok (by decide +kernel)
@[simp] theorem we_85 : pEq (.str "hold") (.str "call") = .ok (.bl false) := isOk_ok (by decide +kernel)
@[simp] theorem we_86 : pEq (.str "hold") (.str "hold") = .ok (.bl true) := isOk_ok (by decide +kernel)
@[simp] theorem we_87 : pEq (.str "hold") (.str "out") = .ok (.bl false) := isOk_ok (by decide +kernel)
@[simp] theorem wi_88 : pIn (.str "take") (.tup [.str "tick", .str "end"]) = .ok (.bl false) := isOk_ok (by decide +kernel)
@[simp] theorem wi_89 : pIn (.str "take") (.tup [.str "lift", .str "hang"]) = .ok (.bl false) := isOk_ok (by decide +kernel)
@[simp] theorem wi_90 : pIn (.str "take") (.tup [.str "dial", .str "out"]) = .ok (.bl false) := isOk_ok (by decide +kernel)
@[simp] theorem wi_91 : pIn (.str "take") (.tup [.str "hold", .str "take"]) = .ok (.bl true) := isOk_ok (by decide +kernel)
@[simp] theorem we_92 : pEq (.str "take") (.str "tick") = .ok (.bl false) := isOk_ok (by decide +kernel)
@[simp] theorem we_93 : pEq (.str "take") (.str "end") = .ok (.bl false) := isOk_ok (by decide +kernel)
@[simp] theorem we_94 : pEq (.str "take") (.str "lift") = .ok (.bl false) := isOk_ok (by decide +kernel)
@[simp] theorem we_95 : pEq (.str "take") (.str "dial") = .ok (.bl false) := isOk_ok (by decide +kernel)
@[simp] theorem we_96 : pEq (.str "take") (.str "call") = .ok (.bl false) := isOk_ok (by decide +kernel)
@[simp] theorem we_97 : pEq (.str "take") (.str "hold") = .ok (.bl false) := isOk_ok (by decide +kernel)
@[simp] theorem we_98 : pEq (.str "take") (.str "out") = .ok (.bl false) := isOk_ok (by decide +kernel)
@[simp] theorem sl_1 {v : PV} {l : List PV} (h : l.length ≤ 100000 := by simp) : pSlV (.tup (v :: l)) (some 1) none = .ok (.tup l) := by
  simp only [pSlV, cut_1]
  exact mkTV_ok h
@[simp] theorem no_m20 {s : LS} : getV lineKs (lineVs s) "tick" = none := id rfl
@[simp] theorem no_m21 {s : LS} : getV lineKs (lineVs s) "end" = none := id rfl
@[simp] theorem no_m22 {s : LS} : getV lineKs (lineVs s) "lift" = none := id rfl
@[simp] theorem no_m23 {s : LS} : getV lineKs (lineVs s) "hang" = none := id rfl
@[simp] theorem no_m24 {s : LS} : getV lineKs (lineVs s) "dial" = none := id rfl
@[simp] theorem no_m25 {s : LS} : getV lineKs (lineVs s) "call_out" = none := id rfl
@[simp] theorem no_m26 {s : LS} : getV lineKs (lineVs s) "call_in" = none := id rfl
@[simp] theorem no_m27 {s : LS} : getV lineKs (lineVs s) "hold" = none := id rfl
@[simp] theorem no_m28 {s : LS} : getV lineKs (lineVs s) "take" = none := id rfl
@[simp] theorem ofQ_bad' {α : Type} {f : α → SP → PS} : ofQ (.bad : PQ α) f = .bad := id rfl
@[simp] theorem fnW_bad' : fnW .bad = .bad := id rfl
section
variable {s : LS} {x y : HV}
end
end G9


set_option Elab.async false
set_option linter.all false
set_option maxRecDepth 100000
set_option maxHeartbeats 2000000
namespace G9
open PySem L2
/-! ### the invariant is kept -/
theorem minI_mem : ∀ {r : List Int} {a : Int}, minI (a :: r) ∈ a :: r
  | [], a => by simp [minI]
  | b :: r, a => by
    have ih := minI_mem (r := r) (a := b)
    show min a (minI (b :: r)) ∈ a :: b :: r
    rcases Int.le_total a (minI (b :: r)) with z | z
    · rw [Int.min_eq_left z]; simp
    · rw [Int.min_eq_right z]; exact List.mem_cons_of_mem _ ih
theorem settle_ok {s : LS} (O : s.Ok0) : s.settle.Ok := by
  unfold LS.settle
  by_cases h : s.idle = true
  · rw [if_pos h]
    have hi := h
    simp only [LS.idle, Bool.and_eq_true, decide_eq_true_eq, Option.isNone_iff_eq_none, List.isEmpty_iff] at hi
    obtain ⟨i1, i2, i3, i4⟩ := hi
    cases ho : s.off with
    | cons a r =>
      dsimp only
      refine ⟨⟨O.st, ho ▸ O.off, ho ▸ O.offR, O.ins, ho ▸ O.insO, fun b e => ?_, O.dia, O.run, O.que, O.queR⟩, fun e => ?_⟩
      · cases e
        exact ⟨by rw [← ho]; rw [ho]; exact minI_mem, i3, i2, i1⟩
      · simp [LS.idle] at e
    | nil =>
      cases hq : s.queue with
      | nil =>
        dsimp only
        exact ⟨O, fun _ => ⟨ho, hq⟩⟩
      | cons a r =>
        dsimp only
        have q1 := O.que
        have q2 := O.queR
        rw [hq] at q1 q2
        refine ⟨⟨O.st, by rw [← ho]; exact O.off, by rw [← ho]; exact O.offR, O.ins, by rw [← ho]; exact O.insO, fun b e => ?_, O.dia, fun a' b c e => ?_, by show r.length ≤ 3; simp at q1; omega, fun i hi => q2 i (by simp [hi])⟩, fun e => ?_⟩
        · rw [i4] at e; cases e
        · cases e
          exact ⟨q2 a (by simp), fun _ e => by cases e⟩
        · simp [LS.idle] at e
  · rw [if_neg h]
    exact ⟨O, fun e => absurd e h⟩
end G9

set_option Elab.async false
set_option linter.all false
set_option maxRecDepth 100000
set_option maxHeartbeats 2000000
namespace G9
open PySem L2
theorem answer_ok {s : LS} {h : Int} (O : s.Ok0) (hh : InH s.zs.length h) (hm : h ∈ s.off) (hi : s.ins = [] ∨ s.rung.isSome = true) (ha : s.rung.isSome = true → s.asker = none) : (s.answer h).Ok0 := by
  unfold LS.answer
  split
  · exact O
  · rename_i a b c e
    have hn := ha (by rw [e]; rfl)
    split
    · exact ⟨O.st, O.off, O.offR, O.ins, O.insO, fun b e => (by rw [show s.asker = none from hn] at e; cases e), O.dia, fun _ _ _ e => (by cases e), O.que, O.queR⟩
    · split
      · exact ⟨O.st, O.off, O.offR, by simp, fun i hi => (by simp at hi; subst hi; exact hm), fun b e => (by rw [show s.asker = none from hn] at e; cases e), O.dia, fun _ _ _ e => (by cases e), O.que, O.queR⟩
      · exact O
theorem lift1_ok {s : LS} {h : Int} (O : s.Ok0) (hh : InH s.zs.length h) (hm : h ∉ s.off) : (s.lift1 h).Ok0 := by
  have o1 : (s.off ++ [h]).Nodup := by
    rw [List.nodup_append]
    exact ⟨O.off, by simp, fun a ha b hb => by simp at hb; subst hb; rintro rfl; exact hm ha⟩
  have o2 : ∀ i ∈ s.off ++ [h], InH s.zs.length i := fun i hi => by
    rcases List.mem_append.mp hi with z | z
    · exact O.offR i z
    · simp at z; subst z; exact hh
  have o3 : ∀ i ∈ s.ins, i ∈ s.off ++ [h] := fun i hi => List.mem_append_left _ (O.insO i hi)
  have o4 : ∀ a, s.asker = some a → a ∈ s.off ++ [h] ∧ s.ins = [] ∧ s.out = .no ∧ s.rung = none := fun a e => ⟨List.mem_append_left _ (O.ask a e).1, (O.ask a e).2⟩
  have O1 : ({ s with off := s.off ++ [h] } : LS).Ok0 := ⟨O.st, o1, o2, O.ins, o3, o4, O.dia, O.run, O.que, O.queR⟩
  unfold LS.lift1
  split
  · rename_i hr
    refine answer_ok O1 hh (by simp) (.inr hr) fun _ => ?_
    cases e : s.asker with
    | none => rfl
    | some a => rw [(O.ask a e).2.2.2] at hr; cases hr
  · split
    · rename_i hr ho
      split
      · refine ⟨O.st, o1, o2, ?_, ?_, fun a e => ?_, O.dia, O.run, O.que, O.queR⟩
        · show (s.ins ++ [h]).Nodup
          rw [List.nodup_append]
          exact ⟨O.ins, by simp, fun a ha b hb => by simp at hb; subst hb; rintro rfl; exact hm (O.insO _ ha)⟩
        · intro i hi
          rcases List.mem_append.mp hi with z | z
          · exact o3 i z
          · exact List.mem_append_right _ z
        · have := O.ask a e
          rcases ho with z | z
          · exact absurd this.2.2.1 z
          · exact absurd this.2.1 z
      · exact O1
    · split
      · rename_i a e1 e2 e3
        have := O.ask a e1
        refine ⟨O.st, o1, o2, ?_, ?_, fun a e => (by cases e), O.dia, O.run, O.que, O.queR⟩
        · show [a, h].Nodup
          have hne : a ≠ h := by rintro rfl; exact hm this.1
          simp [hne]
        · intro i hi
          simp at hi
          rcases hi with rfl | rfl
          · exact List.mem_append_left _ this.1
          · simp
      · exact O1
end G9

set_option Elab.async false
set_option linter.all false
set_option maxRecDepth 100000
set_option maxHeartbeats 2000000
namespace G9
open PySem L2
theorem hang1_ok {s : LS} {h : Int} (O : s.Ok0) (hh : InH s.zs.length h) (hm : h ∈ s.off) : (s.hang1 h).Ok0 := by
  have o1 : (s.off.filter fun i => !decide (i = h)).Nodup := O.off.filter _
  have o2 : ∀ i ∈ s.off.filter (fun i => !decide (i = h)), InH s.zs.length i := fun i hi => O.offR i (List.mem_filter.mp hi).1
  unfold LS.hang1
  split
  · rename_i ha
    obtain ⟨a1, a2, a3, a4⟩ := O.ask h ha
    have i0 : ∀ i ∈ s.ins, i ∈ s.off.filter (fun i => !decide (i = h)) := by rw [a2]; intro i hi; cases hi
    split
    · rename_i d hd
      split
      · exact ⟨O.st, o1, o2, O.ins, i0, fun _ e => (by cases e), fun _ e => (by cases e), O.run, O.que, O.queR⟩
      · refine ⟨O.st, o1, o2, O.ins, i0, fun _ e => (by cases e), fun _ e => (by cases e), fun a b c e => ?_, O.que, O.queR⟩
        cases e
        exact ⟨O.dia _ hd, fun b' e => (by cases e; exact hh)⟩
    · exact ⟨O.st, o1, o2, O.ins, i0, fun _ e => (by cases e), fun _ e => (by cases e), O.run, O.que, O.queR⟩
  · rename_i ha
    split
    · refine ⟨O.st, o1, o2, O.ins.filter _, fun i hi => ?_, fun a e => ?_, O.dia, O.run, O.que, O.queR⟩
      · have := List.mem_filter.mp hi
        exact List.mem_filter.mpr ⟨O.insO i this.1, this.2⟩
      · rename_i hi
        rw [(O.ask a e).2.1] at hi
        cases hi
    · rename_i hi
      refine ⟨O.st, o1, o2, O.ins, fun i hi' => ?_, fun a e => ?_, O.dia, O.run, O.que, O.queR⟩
      · exact List.mem_filter.mpr ⟨O.insO i hi', by simp; rintro rfl; exact hi hi'⟩
      · have := O.ask a e
        exact ⟨List.mem_filter.mpr ⟨this.1, by simp; rintro rfl; exact ha e⟩, this.2⟩
end G9

set_option Elab.async false
set_option linter.all false
set_option maxRecDepth 100000
set_option maxHeartbeats 2000000
namespace G9
open PySem L2
theorem inr_i {n : Nat} {h : Int} (e : (HV.i h).inr n = true) : InH n h := by
  simp [HV.inr] at e
  exact ⟨e.1, by omega⟩
theorem at_ok {s : LS} {x : HV} {f : Int → PV × LS} (O : s.Ok) (hf : ∀ h, InH s.zs.length h → (f h).2.Ok) : (s.at x f).2.Ok := by
  unfold LS.at
  split
  · split
    · rename_i h e
      exact hf h (inr_i e)
    · exact O
  · exact O
theorem done_ok {s : LS} {d : Deed} (O : s.Ok) : (s.done d).2.Ok := by
  cases d with
  | tick =>
    show s.tick.Ok
    unfold LS.tick
    split
    · split
      · exact settle_ok ⟨O.st, O.off, O.offR, O.ins, O.insO, fun a e => ⟨(O.ask a e).1, (O.ask a e).2.1, rfl, rfl⟩, O.dia, fun _ _ _ e => (by cases e), O.que, O.queR⟩
      · exact ⟨⟨O.st, O.off, O.offR, O.ins, O.insO, O.ask, O.dia, O.run, O.que, O.queR⟩, O.idl⟩
    · exact ⟨⟨O.st, O.off, O.offR, O.ins, O.insO, O.ask, O.dia, O.run, O.que, O.queR⟩, O.idl⟩
  | fin =>
    show (if s.out = .no then (PV.str "call", s) else (PV.non, s.fin)).2.Ok
    split
    · exact O
    · refine settle_ok ⟨O.st, O.off, O.offR, O.ins, O.insO, fun a e => ⟨(O.ask a e).1, (O.ask a e).2.1, rfl, ?_⟩, O.dia, fun a b c e => ?_, O.que, O.queR⟩
      · show (if s.out = Ou.rings then none else s.rung) = none
        rw [(O.ask a e).2.2.2]
        split <;> rfl
      · have e' : (if s.out = Ou.rings then none else s.rung) = some (a, b, c) := e
        split at e'
        · cases e'
        · exact O.run a b c e'
  | lift x =>
    refine at_ok O fun h hh => ?_
    split
    · exact O
    · rename_i hn
      exact settle_ok (lift1_ok O.toOk0 hh hn)
  | hang x =>
    refine at_ok O fun h hh => ?_
    split
    · rename_i hn
      exact settle_ok (hang1_ok O.toOk0 hh hn)
    · exact O
  | dial x y =>
    refine at_ok O fun h hh => ?_
    split
    · refine at_ok O fun d hd => ?_
      split
      · exact O
      · exact ⟨⟨O.st, O.off, O.offR, O.ins, O.insO, O.ask, fun a e => (by cases e; exact hd), O.run, O.que, O.queR⟩, O.idl⟩
    · exact O
  | out x =>
    refine at_ok O fun h hh => ?_
    split
    · rename_i e
      refine ⟨⟨O.st, O.off, O.offR, by simp, fun i hi => ?_, fun a e => (by cases e), O.dia, O.run, O.que, O.queR⟩, fun e => ?_⟩
      · simp at hi
        subst hi
        exact (O.ask _ e.1).1
      · simp [LS.idle] at e
    · exact O
  | call x =>
    refine at_ok O fun h hh => ?_
    split
    · rename_i e
      have hi := e
      simp only [LS.idle, Bool.and_eq_true, decide_eq_true_eq, Option.isNone_iff_eq_none, List.isEmpty_iff] at hi
      refine ⟨⟨O.st, O.off, O.offR, O.ins, O.insO, fun a e => ?_, O.dia, fun a b c e => ?_, O.que, O.queR⟩, fun e => ?_⟩
      · have : s.asker = some a := e
        rw [hi.2.2.2] at this
        cases this
      · cases e
        exact ⟨hh, fun _ e => (by cases e)⟩
      · simp [LS.idle] at e
    · rename_i hn
      split
      · exact O
      · rename_i h3
        have := O.que
        refine ⟨⟨O.st, O.off, O.offR, O.ins, O.insO, O.ask, O.dia, O.run, ?_, fun i hi => ?_⟩, fun e => absurd e hn⟩
        · show (s.queue ++ [h]).length ≤ 3
          simp
          omega
        · rcases List.mem_append.mp hi with z | z
          · exact O.queR i z
          · simp at z; subst z; exact hh
  | hold x =>
    refine at_ok O fun h hh => ?_
    split
    · rename_i e
      refine ⟨⟨O.st, O.off, O.offR, O.ins, O.insO, fun a e' => ?_, O.dia, O.run, O.que, O.queR⟩, fun e => ?_⟩
      · have := (O.ask a e').2.2.1
        rw [e.2] at this
        cases this
      · simp [LS.idle] at e
    · exact O
  | take x =>
    refine at_ok O fun h hh => ?_
    split
    · rename_i e
      refine ⟨⟨O.st, O.off, O.offR, O.ins, O.insO, fun a e' => ?_, O.dia, O.run, O.que, O.queR⟩, fun e => ?_⟩
      · have := (O.ask a e').2.2.1
        rw [e.2] at this
        cases this
      · simp [LS.idle] at e
    · exact O
end G9

set_option Elab.async false
set_option linter.all false
set_option maxRecDepth 100000
set_option maxHeartbeats 2000000
namespace G9
open PySem L2
theorem at_no {s : LS} {x : HV} {f : Int → PV × LS} (h : x.inr s.zs.length = false) : s.at x f = (.str "house", s) := by
  unfold LS.at
  cases x <;> simp [h]
theorem at_in {s : LS} {h : Int} {f : Int → PV × LS} (hh : InH s.zs.length h) : s.at (.i h) f = f h := by
  unfold LS.at
  simp [hh.inr]
theorem hv_or (n : Nat) (x : HV) : x.inr n = false ∨ ∃ h, x = .i h ∧ InH n h := by
  cases e : x.inr n with
  | false => exact .inl rfl
  | true =>
    cases x with
    | i h => exact .inr ⟨h, rfl, inr_i e⟩
    | _ => cases e
end G9

set_option Elab.async false
set_option linter.all false
set_option maxRecDepth 100000
set_option maxHeartbeats 2000000
namespace G9
open PySem L2
section
variable {s : LS} {x y : HV} {h : Int}
theorem p_inH {x : HV} {n : Nat} : p_law_in [x.v, .int 0, .int ((n : Int) - 1)] = .ok (.bl (x.inr n)) := q_law_in.trans q_withinH
theorem p_inI {n : Nat} (hh : InH n h) : p_law_in [.int h, .int 0, .int ((n : Int) - 1)] = .ok (.bl true) := by
  have := p_inH (x := .i h) (n := n)
  rw [hh.inr] at this
  exact this
end
end G9

set_option Elab.async false
set_option linter.all false
set_option maxRecDepth 100000
set_option maxHeartbeats 2000000
namespace G9
open PySem L2
section
variable {s : LS} {x y : HV} {h : Int}
end
end G9

set_option Elab.async false
set_option linter.all false
set_option maxRecDepth 100000
set_option maxHeartbeats 2000000
namespace G9
open PySem L2
section
variable {s : LS} {x y : HV} {h : Int}
theorem dp_1 {σ : SP} : pDisp [((pC (.str "hold")), (pC (.str "talks"))), ((pC (.str "take")), (pC (.str "held")))] σ = .ok (.dk [.inr "hold", .inr "take"] [.str "talks", .str "held"]) := rfl
theorem dp_2 {σ : SP} : pDisp [((pC (.str "hold")), (pC (.str "held"))), ((pC (.str "take")), (pC (.str "talks")))] σ = .ok (.dk [.inr "hold", .inr "take"] [.str "held", .str "talks"]) := rfl
theorem dg_1 {a b : PV} : pDGet (.dk [.inr "hold", .inr "take"] [a, b]) (.str "hold") = .ok a := rfl
theorem dg_2 {a b : PV} : pDGet (.dk [.inr "hold", .inr "take"] [a, b]) (.str "take") = .ok b := rfl
theorem ne_ou2 {x : Ou} : pNe (.str (ouS x)) (.str "talks") = .ok (.bl (!decide (x = .talks))) := ne_ou (y := .talks)
theorem ne_ou3 {x : Ou} : pNe (.str (ouS x)) (.str "held") = .ok (.bl (!decide (x = .held))) := ne_ou (y := .held)
end
end G9

set_option Elab.async false
set_option linter.all false
set_option maxRecDepth 100000
set_option maxHeartbeats 2000000
namespace G9
open PySem L2
section
variable {s : LS} {x y : HV} {h : Int}
end
end G9

set_option Elab.async false
set_option linter.all false
set_option maxRecDepth 100000
set_option maxHeartbeats 2000000
namespace G9
open PySem L2
section
variable {s : LS} {x y : HV} {h : Int}
end
end G9

set_option Elab.async false
set_option linter.all false
set_option maxRecDepth 100000
set_option maxHeartbeats 2000000
namespace G9
open PySem L2
/-! ### the beginning -/
def LS.start (zs : List Str) (pr : Bool) (pt : Int) : LS := ⟨zs, pr, pt, 0, [], none, none, none, .no, [], [], []⟩
theorem start_ok {zs : List Str} {pr : Bool} {pt : Int} (S : IsS zs pr pt) : (LS.start zs pr pt).Ok :=
  ⟨⟨S, by simp [LS.start], by simp [LS.start], by simp [LS.start], by simp [LS.start], by simp [LS.start], by simp [LS.start], by simp [LS.start], by simp [LS.start], by simp [LS.start]⟩, fun _ => ⟨rfl, rfl⟩⟩
theorem set_fl {zs : List Str} {pr : Bool} {pt : Int} : isFl (setV zs pr pt) = true := by
  simp [setV, isFls_strs]
theorem q_init {zs : List Str} {pr : Bool} {pt : Int} (S : IsS zs pr pt) : p_Line_init (.ins "Line" [] []) [setV zs pr pt] = .ok .non (lineV (LS.start zs pr pt)) := by
  rw [p_Line_init, fnO_run (by rfl)]
  refine go_nx (σ1 := [some (.ins "Line" [] []), some (setV zs pr pt)]) (by simp [q_look S]) ?_
  refine go_nx (σ1 := [some (.ins "Line" ["setting"] [setV zs pr pt]), some (setV zs pr pt)]) ?_ ?_
  · show ofP _ (PR.ok (setV zs pr pt)) _ = _
    rw [ofP_ok, if_pos set_fl]
    rfl
  · rfl
theorem q_make {zs : List Str} {pr : Bool} {pt : Int} (S : IsS zs pr pt) : makeV "Line" p_Line_init [setV zs pr pt] = .ok (lineV (LS.start zs pr pt)) := by
  unfold makeV
  rw [q_init S]
end G9

set_option Elab.async false
set_option linter.all false
set_option maxRecDepth 100000
set_option maxHeartbeats 2000000
namespace G9
open PySem L2
/-! ### what a good line does -/
section
variable {s : LS} {h : Int}
theorem settle_zs : s.settle.zs = s.zs := by unfold LS.settle; (repeat' split) <;> rfl
theorem lift_zs : (s.lift h).zs = s.zs := by
  show (s.lift1 h).settle.zs = s.zs
  rw [settle_zs]
  unfold LS.lift1 LS.answer
  (repeat' split) <;> rfl
theorem hang_zs : (s.hang h).zs = s.zs := by
  show (s.hang1 h).settle.zs = s.zs
  rw [settle_zs]
  unfold LS.hang1
  (repeat' split) <;> rfl
theorem tick_zs : s.tick.zs = s.zs := by
  unfold LS.tick
  split
  · split
    · rw [settle_zs]
    · rfl
  · rfl
theorem fin_zs : s.fin.zs = s.zs := settle_zs
theorem lift_ok (O : s.Ok) (hh : InH s.zs.length h) (hn : h ∉ s.off) : (s.lift h).Ok := settle_ok (lift1_ok O.toOk0 hh hn)
theorem hang_ok (O : s.Ok) (hh : InH s.zs.length h) (hn : h ∈ s.off) : (s.hang h).Ok := settle_ok (hang1_ok O.toOk0 hh hn)
theorem tick_ok (O : s.Ok) : s.tick.Ok := done_ok (d := .tick) O
theorem fin_ok (O : s.Ok) (hn : ¬ s.out = .no) : s.fin.Ok := by
  have := done_ok (d := .fin) O
  simpa [LS.done, hn] using this
end
end G9

set_option Elab.async false
set_option linter.all false
set_option maxRecDepth 100000
set_option maxHeartbeats 2000000
namespace G9
open PySem L2
@[simp] theorem eLc_ap {it : IP} {own : List Nat} {g : GP} {c : SP → PQ Bool} {a : SP → PQ PV} {σ : SP} : eLc it own g c a σ = match it σ with
  | .ok xs => eLcR own g c a xs σ
  | .exc c => .exc c σ
  | .bad => .bad := id rfl
@[simp] theorem eLcN_ap {it : XP} {own : List Nat} {g : GP} {c : SP → PQ Bool} {a : SP → PQ PV} {σ : SP} : eLcN it own g c a σ = match it σ with
  | .ok (.lst xs) => if isFls xs = true then eLcR own g c a xs σ else .bad
  | .exc c => .exc c σ
  | _ => .bad := id rfl
@[simp] theorem eAndV_ap {a b : SP → PQ PV} {σ : SP} : eAndV a b σ = (a σ).bind fun x σ1 => match truV x with
  | some k => if k = true then b σ1 else .ok x σ1
  | none => .bad := id rfl
@[simp] theorem eOrV_ap {a b : SP → PQ PV} {σ : SP} : eOrV a b σ = (a σ).bind fun x σ1 => match truV x with
  | some k => if k = true then .ok x σ1 else b σ1
  | none => .bad := id rfl
@[simp] theorem eParS_ap {i j : Nat} {as : SP → PQ (List PV)} {σ : SP} : eParS i j as σ = ofQ (as σ) fun xs σ1 => match xs with
  | [a, b] => .nx ((σ1.set i (some a)).set j (some b))
  | _ => .bad := id rfl
theorem eLcR_ok {own : List Nat} {g : GP} {c : SP → PQ Bool} {a : SP → PQ PV} {xs ys : List PV} {σ σ' : SP} (hl : xs.length ≤ 100000) (h : eLcL own g c a xs (wipeP σ own) = .ok ys σ') : eLcR own g c a xs σ = .ok (.lst ys) (wipeP σ' own) := by
  unfold eLcR
  rw [if_pos (show xs.length ≤ BIG from hl), h]
theorem lcE_nil {own : List Nat} {g : GP} {c : SP → PQ Bool} {a : SP → PQ PV} {σ : SP} : eLcL own g c a [] σ = .ok [] σ := rfl
theorem lcE_cons {own : List Nat} {g : GP} {a : SP → PQ PV} {v y : PV} {vs ys : List PV} {σ σ1 σ2 σ3 : SP} (h1 : g v σ = some σ1) (h2 : a σ1 = .ok y σ2) (h3 : eLcL own g (liftP pYes) a vs (wipeP σ2 own) = .ok ys σ3) : eLcL own g (liftP pYes) a (v :: vs) σ = .ok (y :: ys) σ3 := by
  simp only [eLcL, h1, liftP, pYes_ap, h2, h3]
theorem map_rep {n : Nat} {f : Nat → PV} {v : PV} (h : ∀ i, f i = v) : (List.range n).map f = (List.replicate n [v]).flatten := by
  have : f = fun _ => v := funext h
  rw [this]
  simp [List.map_const']
theorem rng_at {n : Nat} {l : List Nat} {x : Nat} {r : List Nat} (h : List.range n = l ++ x :: r) : x = l.length ∧ x < n := by
  have h1 : (List.range n)[l.length]? = some x := by rw [h]; simp
  have h2 := (List.getElem?_eq_some_iff.mp h1)
  obtain ⟨h3, h4⟩ := h2
  simp at h3 h4
  omega
theorem toPy_tints {l : List Int} {k : Nat} : toPyV (k + 2) (.tup (l.map .int)) = some (.tuple (l.map .int)) := by
  rw [toPyV_tup, optAll_mapF (g := PyData.int) fun z hz => toPyV_int]
  rfl
end G9

set_option Elab.async false
set_option linter.all false
set_option maxRecDepth 100000
set_option maxHeartbeats 2000000
namespace G9
open PySem L2
theorem toPy_is {l : List Int} {k : Nat} : toPyV (k + 2) (.lst (l.map .int)) = some (.list (l.map .int)) := by
  rw [toPyV_lst, optAll_mapF (g := PyData.int) fun z hz => toPyV_int]
  rfl
theorem eqv_is : ∀ as bs : List Int, PyData.eqvAll (as.map PyData.int) (bs.map PyData.int) = decide (as = bs)
  | [], [] => by simp [PyData.eqvAll]
  | [], _ :: _ => by simp [PyData.eqvAll]
  | _ :: _, [] => by simp [PyData.eqvAll]
  | a :: as, b :: bs => by
    have := eqv_is as bs
    simp only [List.map_cons, PyData.eqvAll, this, PyData.eqv]
    rw [Bool.eq_iff_iff]
    simp
theorem ne_is {as bs : List Int} : pNe (.lst (as.map .int)) (.lst (bs.map .int)) = .ok (.bl (!decide (as = bs))) := by
  simp only [pNe, toPy_is (k := 7), PyData.eqv, eqv_is]
theorem eq_is {as bs : List Int} : pEq (.lst (as.map .int)) (.lst (bs.map .int)) = .ok (.bl (decide (as = bs))) := by
  simp only [pEq, toPy_is (k := 7), PyData.eqv, eqv_is]
theorem enum_is (l : List Int) : enumV (l.map .int) = l.zipIdx.map fun p => PV.tup [.int (p.2 : Int), .int p.1] := by
  unfold enumV
  apply List.ext_getElem?
  intro i
  simp only [List.getElem?_zipWith, List.getElem?_map, List.getElem?_zipIdx, List.length_map]
  by_cases h : i < l.length
  · rw [List.getElem?_range h, List.getElem?_eq_getElem h]
    simp
  · rw [List.getElem?_eq_none (l := l) (by omega)]
    simp
theorem cut_to {α : Type} {xs : List α} {m : Nat} : cutD xs none (some (m : Int)) = xs.take m := by
  unfold cutD
  simp only [HT.sIx_none, HT.sIx_nat, List.drop_zero, Nat.sub_zero]
  apply List.ext_getElem?
  intro i
  simp only [List.getElem?_take]
  by_cases h : i < xs.length
  · by_cases h2 : i < m
    · rw [if_pos (by omega), if_pos h2]
    · rw [if_neg (by omega), if_neg h2]
  · rw [List.getElem?_eq_none (by omega)]
    simp
theorem cut_ft {α : Type} {xs : List α} {m k : Nat} : cutD xs (some (k : Int)) (some (m : Int)) = (xs.take m).drop k := by
  unfold cutD
  simp only [HT.sIx_nat]
  apply List.ext_getElem?
  intro i
  simp only [List.getElem?_take, List.getElem?_drop]
  by_cases h : k + i < xs.length
  · by_cases h2 : k + i < m
    · rw [if_pos (by omega), if_pos (by omega), Nat.min_eq_left (by omega)]
    · rw [if_neg (by omega), if_neg (by omega)]
  · have e1 : xs[k + i]? = none := List.getElem?_eq_none (by omega)
    have e2 : xs[min k xs.length + i]? = none := by
      by_cases h3 : k ≤ xs.length
      · rw [Nat.min_eq_left h3]; exact e1
      · exact List.getElem?_eq_none (by omega)
    simp [e1, e2]
theorem zip_at {l : List Int} {d : List (Int × Nat)} {p : Int × Nat} {r : List (Int × Nat)} (h : l.zipIdx = d ++ p :: r) : p.2 = d.length ∧ l.drop d.length = p.1 :: l.drop (d.length + 1) := by
  have h1 : l.zipIdx[d.length]? = some p := by rw [h]; simp
  rw [List.getElem?_zipIdx] at h1
  cases e : l[d.length]? with
  | none => rw [e] at h1; cases h1
  | some x =>
    rw [e] at h1
    simp at h1
    subst h1
    have hl := (List.getElem?_eq_some_iff.mp e)
    obtain ⟨h2, h3⟩ := hl
    refine ⟨by simp, ?_⟩
    rw [List.drop_eq_getElem_cons h2, h3]
end G9

set_option Elab.async false
set_option linter.all false
set_option maxRecDepth 100000
set_option maxHeartbeats 2000000
namespace G9
open PySem L2
/-! ### rings -/
theorem toPy_bs {l : List Bool} {k : Nat} : toPyV (k + 2) (.lst (l.map .bl)) = some (.list (l.map .bool)) := by
  rw [toPyV_lst, optAll_mapF (g := PyData.bool) fun z hz => toPyV_bl]
  rfl
theorem eqv_bs : ∀ as bs : List Bool, PyData.eqvAll (as.map PyData.bool) (bs.map PyData.bool) = decide (as = bs)
  | [], [] => by simp [PyData.eqvAll]
  | [], _ :: _ => by simp [PyData.eqvAll]
  | _ :: _, [] => by simp [PyData.eqvAll]
  | a :: as, b :: bs => by
    have := eqv_bs as bs
    simp only [List.map_cons, PyData.eqvAll, this, PyData.eqv]
    rw [Bool.eq_iff_iff]
    simp
theorem ne_bs {as bs : List Bool} : pNe (.lst (as.map .bl)) (.lst (bs.map .bl)) = .ok (.bl (!decide (as = bs))) := by
  simp only [pNe, toPy_bs (k := 7), PyData.eqv, eqv_bs]
theorem eq_bs {as bs : List Bool} : pEq (.lst (as.map .bl)) (.lst (bs.map .bl)) = .ok (.bl (decide (as = bs))) := by
  simp only [pEq, toPy_bs (k := 7), PyData.eqv, eqv_bs]
theorem enum_strs (l : List Str) : enumV (l.map .str) = l.zipIdx.map fun p => PV.tup [.int (p.2 : Int), .str p.1] := by
  unfold enumV
  apply List.ext_getElem?
  intro i
  simp only [List.getElem?_zipWith, List.getElem?_map, List.getElem?_zipIdx, List.length_map]
  by_cases h : i < l.length
  · rw [List.getElem?_range h, List.getElem?_eq_getElem h]
    simp
  · rw [List.getElem?_eq_none (l := l) (by omega)]
    simp
/-- a ring's ticks -/
def rgB (z : Str) (n : Nat) : List Bool := (List.range n).map fun t : Nat => ringB (pat z) (t : Int)
theorem rgB_len {z : Str} {n : Nat} : (rgB z n).length = n := by simp [rgB]
theorem rgB_take {z : Str} {n m : Nat} (h : m ≤ n) : (rgB z n).take m = rgB z m := by
  unfold rgB
  rw [← List.map_take, List.take_range, Nat.min_eq_left h]
theorem rgB_pv {z : Str} {n : Nat} : (List.range n).map (fun t : Nat => PV.bl (ringB (pat z) (t : Int))) = (rgB z n).map .bl := by
  unfold rgB
  rw [List.map_map]
  rfl
theorem w_law_ring {z : Str} (hz : IsC z) {n : Nat} (hn : n ≤ 1000) : p_law_ring [.str z, .int (n : Int)] = .ok (.lst ((rgB z n).map .bl)) := by
  have hl := pat_len hz
  rw [p_law_ring, fnP_run (by rfl)]
  refine run_nx (σ1 := [some (.str z), some (.int (n : Int)), some (.lst ((pat z).map .bl)), none]) (by simp [q_law_beats hz]) ?_
  have e := lc_all (fun i : Nat => PV.int (i : Int)) (g := hN 3) (c := pYes) (a := (pOp pIx (pVar 2) (pOp pMod (pVar 3) (pCl pLen (pCons (pVar 2) pNil))))) (σ := [some (.str z), some (.int (n : Int)), some (.lst ((pat z).map .bl)), none]) (fun t : Nat => .bl (ringB (pat z) (t : Int))) (List.range n) (fun k hk => by
    refine ⟨[some (.str z), some (.int (n : Int)), some (.lst ((pat z).map .bl)), some (.int (k : Int))], rfl, rfl, ?_⟩
    have h := ring_at (row := pat z) (t := (k : Int)) (by omega)
    simp [h, show 0 < (pat z).length by omega])
  have hb : n ≤ 100000 := by omega
  rw [rgB_pv] at e
  simp [-List.map_map, hb, wipeP, e]
theorem w_ring {z : Str} (hz : IsC z) {n : Nat} (hn : n ≤ 400) : p_ring [.str z, .int (n : Int)] = .ok (.lst ((rgB z n).map .bl)) := by
  have hl := pat_len hz
  rw [p_ring, fnP_run (by rfl)]
  have hw := q_within (i := (n : Int)) (a := 0) (b := 400)
  refine run_nx (σ1 := [some (.str z), some (.int (n : Int)), none, none]) (by simp [q_is_code hz]) ?_
  refine run_nx (σ1 := [some (.str z), some (.int (n : Int)), none, none]) (by simp [hw, show (n : Int) ≤ 400 by omega]) ?_
  refine run_nx (σ1 := [some (.str z), some (.int (n : Int)), some (.lst ((pat z).map .bl)), none]) (by simp [q_beats hz]) ?_
  have e := lc_all (fun i : Nat => PV.int (i : Int)) (g := hN 3) (c := pYes) (a := (pOp pIx (pVar 2) (pOp pMod (pVar 3) (pCl pLen (pCons (pVar 2) pNil))))) (σ := [some (.str z), some (.int (n : Int)), some (.lst ((pat z).map .bl)), none]) (fun t : Nat => .bl (ringB (pat z) (t : Int))) (List.range n) (fun k hk => by
    refine ⟨[some (.str z), some (.int (n : Int)), some (.lst ((pat z).map .bl)), some (.int (k : Int))], rfl, rfl, ?_⟩
    have h := ring_at (row := pat z) (t := (k : Int)) (by omega)
    simp [h, show 0 < (pat z).length by omega])
  have hb : n ≤ 100000 := by omega
  rw [rgB_pv] at e
  simp [-List.map_map, hb, wipeP, e]
/-- the houses that a row can mean -/
def meantN (zs : List Str) (row : List Bool) : List (Str × Nat) := zs.zipIdx.filter fun p => decide (rgB p.1 row.length = row)
def meantL (zs : List Str) (row : List Bool) : List Int := (meantN zs row).map fun p => (p.2 : Int)
theorem w_meant {zs : List Str} {b : Bool} {k : Int} (S : IsS zs b k) {row : List Bool} (hr : row.length ≤ 400) : p_meant [setV zs b k, .lst (row.map .bl)] = .ok (.lst ((meantL zs row).map .int)) := by
  have hhi := S.hi
  rw [p_meant, fnP_run (by rfl)]
  refine run_nx (σ1 := [some (setV zs b k), some (.lst (row.map .bl)), none, none, none]) (by simp [q_look S]) ?_
  have hn := lc_nil (α := Bool) .bl (g := hN 2) (c := pNot (pTru (pIsi "bool" (pVar 2)))) (a := pVar 2) (σ := [some (setV zs b k), some (.lst (row.map .bl)), none, none, none]) row fun z hz => ⟨[some (setV zs b k), some (.lst (row.map .bl)), some (.bl z), none, none], rfl, by simp⟩
  refine run_nx (σ1 := [some (setV zs b k), some (.lst (row.map .bl)), none, none, none]) (by
    have h1 : ¬ ((400 : Int) < (row.length : Int)) := by omega
    simp [h1, wipeP, hn, show row.length ≤ 100000 by omega]) ?_
  have e := lc_fn (fun p : Str × Nat => PV.tup [.int (p.2 : Int), .str p.1]) (g := (hT (hsC (hN 3) (hsC (hN 4) hsN)))) (c := (pBo (pOp pEq (pCall 2 p_ring (pCons (pVar 4) (pCons (pCl pLen (pCons (pVar 1) pNil)) pNil))) (pVar 1)))) (a := pVar 3) (σ := [some (setV zs b k), some (.lst (row.map .bl)), none, none, none]) (fun p => decide (rgB p.1 row.length = row)) (fun p : Str × Nat => PV.int (p.2 : Int)) zs.zipIdx (fun p hp => by
    refine ⟨[some (setV zs b k), some (.lst (row.map .bl)), none, some (.int (p.2 : Int)), some (.str p.1)], rfl, ?_, fun _ => by simp⟩
    have hc : IsC p.1 := S.cd _ (by
      obtain ⟨x, i⟩ := p
      have := List.mem_zipIdx' hp
      simp only at this ⊢
      rw [this.2]
      exact List.getElem_mem _)
    simp [w_ring hc hr, eq_bs])
  have he := enum_strs zs
  have hx : (pOp pIx (pVar 0) (pC (.int 0))) [some (setV zs b k), some (.lst (row.map .bl)), none, none, none] = .ok (.tup (zs.map .str)) := by simp [setV]
  simp only [pRet_ap, pLc_ap, pItET_ap, hx, prb_ok, he, wipeP, List.set_cons_succ, List.set_cons_zero]
  rw [if_pos (by simp; omega), e]
  simp [meantL, meantN]
/-! ### when it is sure -/
theorem while_up {c : TP} {b : ESP} {st : Nat → SP} {f : Nat → Bool} {T : Nat} (hc : ∀ t, t ≤ T → c (st t) = .ok (f t)) (hb : ∀ t, t < T → b (st t) = .nx (st (t + 1))) (hT : f T = false) : ∀ (fuel t0 : Nat), t0 ≤ T → T - t0 < fuel → ∃ s, t0 ≤ s ∧ s ≤ T ∧ f s = false ∧ (∀ t, t0 ≤ t → t < s → f t = true) ∧ pWhile c b fuel (st t0) = .nx (st s)
  | 0, t0, h1, h2 => by omega
  | fuel + 1, t0, h1, h2 => by
    cases hf : f t0 with
    | false => exact ⟨t0, Nat.le_refl _, h1, hf, fun t a b => by omega, by simp [pWhile, hc t0 h1, hf]⟩
    | true =>
      have hlt : t0 < T := by
        rcases Nat.lt_or_ge t0 T with h | h
        · exact h
        · have : t0 = T := by omega
          rw [this, hT] at hf
          cases hf
      obtain ⟨s, a1, a2, a3, a4, a5⟩ := while_up hc hb hT fuel (t0 + 1) (by omega) (by omega)
      refine ⟨s, by omega, a2, a3, fun t b1 b2 => ?_, by simp [pWhile, hc t0 h1, hf, hb t0 hlt, a5]⟩
      by_cases e : t = t0
      · rw [e]; exact hf
      · exact a4 t (by omega) b2
theorem rg_sep : ∀ z ∈ BK, ∀ y ∈ BK, rgB z 40 = rgB y 40 → z = y := by decide +kernel
theorem rg_sep' {z y : Str} (hz : IsC z) (hy : IsC y) {n : Nat} (hn : 40 ≤ n) (h : rgB z n = rgB y n) : z = y := by
  refine rg_sep z hz y hy ?_
  rw [← rgB_take hn, ← rgB_take hn, h]
theorem filter_one {α : Type} {p : α → Bool} : ∀ {l : List α} {i : Nat} {x : α}, l[i]? = some x → p x = true → (∀ (j : Nat) (y : α), l[j]? = some y → p y = true → j = i) → l.filter p = [x]
  | [], i, x, h, _, _ => by simp at h
  | a :: l, 0, x, h, hp, hu => by
    simp at h
    subst h
    rw [List.filter_cons, if_pos hp]
    have : l.filter p = [] := by
      rw [List.filter_eq_nil_iff]
      intro y hy hpy
      obtain ⟨j, hj, e⟩ := List.mem_iff_getElem.mp hy
      have := hu (j + 1) y (by simp [hj, e]) hpy
      omega
    rw [this]
  | a :: l, i + 1, x, h, hp, hu => by
    have ha : ¬ p a = true := fun e => by
      have := hu 0 a (by simp) e
      omega
    rw [List.filter_cons, if_neg ha]
    refine filter_one (i := i) (by simpa using h) hp fun j y hj hy => ?_
    have := hu (j + 1) y (by simpa using hj) hy
    omega
theorem nodup_at {zs : List Str} (hn : zs.Nodup) {i j : Nat} {x : Str} (h1 : zs[i]? = some x) (h2 : zs[j]? = some x) : j = i := by
  obtain ⟨a1, a2⟩ := List.getElem?_eq_some_iff.mp h1
  obtain ⟨b1, b2⟩ := List.getElem?_eq_some_iff.mp h2
  have hp := List.pairwise_iff_getElem.mp hn
  rcases Nat.lt_trichotomy i j with c | c | c
  · exact absurd (a2.trans b2.symm) (hp i j a1 b1 c)
  · exact c.symm
  · exact absurd (b2.trans a2.symm) (hp j i b1 a1 c)
theorem meant_at {zs : List Str} {b : Bool} {k : Int} (S : IsS zs b k) {i : Nat} {x : Str} (h : zs[i]? = some x) {n : Nat} (hn : 40 ≤ n) : meantN zs (rgB x n) = [(x, i)] := by
  unfold meantN
  refine filter_one (i := i) (by simp [List.getElem?_zipIdx, h]) (by simp [rgB_len]) fun j y hj hy => ?_
  rw [List.getElem?_zipIdx] at hj
  cases e : zs[j]? with
  | none => rw [e] at hj; cases hj
  | some z =>
    rw [e] at hj
    simp at hj
    subst hj
    simp [rgB_len] at hy
    have hz : z = x := rg_sep' (S.cd _ (List.mem_of_getElem? e)) (S.cd _ (List.mem_of_getElem? h)) hn hy
    rw [hz] at e
    exact nodup_at S.nd h e
theorem meant_mem {zs : List Str} {i : Nat} {x : Str} (h : zs[i]? = some x) {n : Nat} : (x, i) ∈ meantN zs (rgB x n) := by
  unfold meantN
  rw [List.mem_filter]
  refine ⟨?_, by simp [rgB_len]⟩
  rw [List.mem_iff_getElem?]
  exact ⟨i, by simp [List.getElem?_zipIdx, h]⟩
theorem w_sure {zs : List Str} {b : Bool} {k : Int} (S : IsS zs b k) {i : Nat} {x : Str} (h : zs[i]? = some x) : ∃ s : Nat, 1 ≤ s ∧ s ≤ 40 ∧ p_sure_behind [setV zs b k, .int (i : Int)] = .ok (.int (s : Int)) ∧ meantN zs (rgB x s) = [(x, i)] ∧ ∀ t, t < s → (meantN zs (rgB x t)).length ≠ 1 := by
  have hi : i < zs.length := (List.getElem?_eq_some_iff.mp h).1
  have hC : IsC x := S.cd _ (List.mem_of_getElem? h)
  have hlo := S.lo
  have key : ∀ t, meantL zs (rgB x t) = [(i : Int)] ↔ (meantN zs (rgB x t)).length = 1 := fun t => by
    constructor
    · intro e
      have := congrArg List.length e
      simpa [meantL] using this
    · intro e
      obtain ⟨a, ha⟩ := List.length_eq_one_iff.mp e
      have hm := meant_mem h (n := t)
      rw [ha] at hm
      simp at hm
      unfold meantL
      rw [ha, ← hm]
      rfl
  obtain ⟨s, a1, a2, a3, a4, a5⟩ := while_up (c := (pBo (pOp pNe (pCall 2 p_meant (pCons (pVar 0) (pCons (pSl (pVar 2) pNoP (pPart (pVar 3))) pNil))) (pLst (pCons (pVar 1) pNil))))) (b := (pAugI (fun a b => a + b) 3 (pC (.int 1)))) (st := fun t : Nat => [some (setV zs b k), some (.int (i : Int)), some (.lst ((rgB x 400).map .bl)), some (.int (t : Int))]) (f := fun t => !decide (meantL zs (rgB x t) = [(i : Int)])) (T := 40)
    (fun t ht => by
      have hm := w_meant S (row := rgB x t) (by rw [rgB_len]; omega)
      have hc : cutD ((rgB x 400).map PV.bl) none (some (t : Int)) = (rgB x t).map PV.bl := by
        rw [cut_to, ← List.map_take, rgB_take (by omega)]
      have hl : (rgB x t).length ≤ 100000 := by rw [rgB_len]; omega
      have hne := ne_is (as := meantL zs (rgB x t)) (bs := [(i : Int)])
      simp only [List.map_cons, List.map_nil] at hne
      simp only [pBo_ap, pOp_ap, pCall_ap, pCons_ap, pNil_ap, pVar_ap, pSl_ap, pNoP_ap, pPart_ap, List.getElem?_cons_succ, List.getElem?_cons_zero, prb_ok, pSlV, hc, newLV_ap, List.length_map, hl, if_true, List.length_cons, List.length_nil, hm, pLst_ap, Nat.reduceAdd, Nat.reduceLeDiff, hne])
    (fun t ht => by simp)
    (by
      have := meant_at S h (n := 40) (Nat.le_refl _)
      simp [meantL, this]) 1000 0 (by omega) (by omega)
  have a3' : meantL zs (rgB x s) = [(i : Int)] := by simpa using a3
  have s1 : 1 ≤ s := by
    rcases Nat.eq_zero_or_pos s with e | e
    · subst e
      have := (key 0).mp a3'
      have hz : (meantN zs (rgB x 0)).length = zs.length := by
        unfold meantN
        rw [List.filter_eq_self.mpr]
        · simp
        · intro p hp
          simp [rgB]
      omega
    · exact e
  refine ⟨s, s1, a2, ?_, ?_, fun t ht => ?_⟩
  · have hx : atI (zs.map PV.str) (i : Int) = some (.str x) := atI_nat (by simp [h])
    rw [p_sure_behind, fnP_run (by rfl)]
    refine run_nx (σ1 := [some (setV zs b k), some (.int (i : Int)), none, none]) (by simp [q_look S]) ?_
    have hlk := q_look_house (zs := zs) (pr := b) (pt := k) (x := .i (i : Int))
    rw [if_pos (InH.inr ⟨by omega, by omega⟩)] at hlk
    have hlk' : p_look_house [setV zs b k, .int (i : Int)] = .ok .non := hlk
    refine run_nx (σ1 := [some (setV zs b k), some (.int (i : Int)), none, none]) (by simp [hlk']) ?_
    have hr := w_ring hC (n := 400) (by omega)
    have hr' : p_ring [.str x, .int 400] = .ok (.lst ((rgB x 400).map .bl)) := hr
    refine run_nx (σ1 := [some (setV zs b k), some (.int (i : Int)), some (.lst ((rgB x 400).map .bl)), none]) (by simp [setV, hx, hr']) ?_
    refine run_nx (σ1 := [some (setV zs b k), some (.int (i : Int)), some (.lst ((rgB x 400).map .bl)), some (.int ((0 : Nat) : Int))]) (by simp) ?_
    refine run_nx a5 ?_
    simp
  · obtain ⟨a, ha⟩ := List.length_eq_one_iff.mp ((key s).mp a3')
    have hm := meant_mem h (n := s)
    rw [ha] at hm ⊢
    simp at hm
    rw [hm]
  · have := a4 t (by omega) ht
    simp at this
    exact fun e => this ((key t).mpr e)
end G9

set_option Elab.async false
set_option linter.all false
set_option maxRecDepth 100000
set_option maxHeartbeats 2000000
namespace G9
open PySem L2
/-! ### settings with one thing exchanged -/
section
variable {zs : List Str} {b0 : Bool} {k0 : Int} {x y : PV}
/-- codes that are codes: what is told hangs on the rest -/
theorem set_rest (S : IsS zs b0 k0) {r : PR PV} (hr : (pAndV (pIsi "bool" (pOp pIx (pVar 0) (pC (.int 1)))) (pCall 3 p_is_within (pCons (pOp pIx (pVar 0) (pC (.int 2))) (pCons (pC (.int 1)) (pCons (pC (.int 60)) pNil))))) [some (.tup [.tup (zs.map .str), x, y]), none] = r) : p_is_setting [.tup [.tup (zs.map .str), x, y]] = r := by
  rw [p_is_setting, fnP_run (by rfl)]
  have hl := S.lo
  have hh := S.hi
  have hn := lc_nil (α := Str) .str (g := hN 1) (c := pNot (pTru (pCall 1 p_is_code (pCons (pVar 1) pNil)))) (a := pVar 1) (σ := [some (.tup [.tup (zs.map .str), x, y]), none]) zs fun z hz => ⟨[some (.tup [.tup (zs.map .str), x, y]), some (.str z)], rfl, by simp [q_is_code (S.cd z hz)]⟩
  have hd := dn_nodup S.nd
  refine run_nx (σ1 := [some (.tup [.tup (zs.map .str), x, y]), none]) (by simp [pNe_int]) ?_
  refine run_nx (σ1 := [some (.tup [.tup (zs.map .str), x, y]), none]) ?_ ?_
  · have a1 : (2:Int) ≤ (zs.length : Int) := by omega
    have a2 : (zs.length : Int) ≤ 8 := by omega
    have hw' : wipeP [some (PV.tup [PV.tup (zs.map PV.str), x, y]), none] [1] = [some (PV.tup [PV.tup (zs.map PV.str), x, y]), none] := rfl
    simp [a1, a2, hw', hn, show zs.length ≤ 100000 by omega]
  · have hs := strsV_map (l := zs)
    refine run_nx (σ1 := [some (.tup [.tup (zs.map .str), x, y]), none]) ?_ ?_
    · simp [hs, hd, pNe_int, show zs.length ≤ 1000 by omega]
    · rw [pRet_ap, hr]
      cases r <;> rfl
theorem strip_ok : ∀ z ∈ BK, Txt.stripChars z "sl" = "" := by decide +kernel
theorem len_ok : ∀ z ∈ BK, 1 ≤ z.length ∧ z.length ≤ 4 := by decide +kernel
theorem law_set_rest (S : IsS zs b0 k0) {r : PR PV} (hr : ∀ c, fnS ((pSeq (pIfS (pOr (pNot (pTru (pIsi "bool" (pOp pIx (pVar 0) (pC (.int 1)))))) (pNot (pTru (pCall 3 p_law_in (pCons (pOp pIx (pVar 0) (pC (.int 2))) (pCons (pC (.int 1)) (pCons (pC (.int 60)) pNil))))))) (pRet (pC (.bl false))) pNx) (pRet (pC (.bl true)))) [some (.tup [.tup (zs.map .str), x, y]), c]) = r) : p_law_is_setting [.tup [.tup (zs.map .str), x, y]] = r := by
  rw [p_law_is_setting, fnP_run (by rfl)]
  have hl := S.lo
  have hh := S.hi
  have hd := dn_nodup S.nd
  have hs := strsV_map (l := zs)
  have a1 : (2:Int) ≤ (zs.length : Int) := by omega
  have a2 : (zs.length : Int) ≤ 8 := by omega
  refine run_nx (σ1 := [some (.tup [.tup (zs.map .str), x, y]), none]) (by simp [pNe_int]) ?_
  refine run_nx (σ1 := [some (.tup [.tup (zs.map .str), x, y]), none]) (by simp [a1, a2]) ?_
  obtain ⟨σ', e, c, rfl⟩ := for_inv PV.str (g := hN 1) (b := (pIfS (pOr (pNot (pTru (pIsi "str" (pVar 1)))) (pOr (pNot (pBo (pChain pLe pLe (pC (.int 1)) (pCl pLen (pCons (pVar 1) pNil)) (pC (.int 4))))) (pBo (pOp pNe (pMt "str" pStrip (pVar 1) (pCons (pC (.str "sl")) pNil)) (pC (.str "")))))) (pRet (pC (.bl false))) pNx)) (fun l σ => ∃ c, σ = [some (.tup [.tup (zs.map .str), x, y]), c]) zs [] [some (.tup [.tup (zs.map .str), x, y]), none] ⟨none, rfl⟩
    (fun l z r σ hp ⟨c, hs⟩ => by
      subst hs
      have hz : IsC z := S.cd z (by rw [show zs = l ++ z :: r from hp]; simp)
      obtain ⟨n1, n2⟩ := len_ok z hz
      have n3 : (1:Int) ≤ (z.length : Int) := by omega
      have n4 : (z.length : Int) ≤ 4 := by omega
      have hne : pNe (.str "") (.str "") = .ok (.bl false) := isOk_ok (by decide +kernel)
      have hstr : pStrip (.str z) [.str "sl"] = .ok (.str "") := by
        show (if z.length ≤ 1000 then PR.ok (PV.str (Txt.stripChars z "sl")) else .bad) = _
        rw [if_pos (by omega), strip_ok z hz]
      refine ⟨[some (.tup [.tup (zs.map .str), x, y]), some (.str z)], [some (.tup [.tup (zs.map .str), x, y]), some (.str z)], rfl, .inl ?_, some (.str z), rfl⟩
      simp [n3, n4, hstr, hne, hasTyV, pLen, show z.length ≤ 100000 by omega])
  refine run_nx (σ1 := [some (.tup [.tup (zs.map .str), x, y]), c]) (by
    simp only [pFor_ap, pItT_ap, pOp_ap, pVar_ap, pC_ap, List.getElem?_cons_zero, prb_ok, pIx_tup, atI_c0, ofP_ok]
    exact e) ?_
  rw [← hr c]
  congr 1
  unfold pSeq
  split
  · rename_i σ1 h1
    have : σ1 = [some (.tup [.tup (zs.map .str), x, y]), c] := by
      rw [pIfS_ap] at h1
      generalize (pOr (pNot (pTru (pIsi "bool" (pOp pIx (pVar 0) (pC (.int 1)))))) (pNot (pTru (pCall 3 p_law_in (pCons (pOp pIx (pVar 0) (pC (.int 2))) (pCons (pC (.int 1)) (pCons (pC (.int 60)) pNil))))))) [some (PV.tup [PV.tup (zs.map PV.str), x, y]), c] = q at h1
      cases q with
      | ok v => cases v <;> simp at h1 <;> exact h1.symm
      | exc c => simp at h1
      | bad => simp at h1
    subst this
    simp [hs, hd, pEq_int, show zs.length ≤ 1000 by omega]
  · rfl
/-- what is no truth value in its midst -/
theorem set_x (S : IsS zs b0 k0) {t : String} (h1 : tyV x = some t) (h2 : isiT t "bool" = some false) : p_is_setting [.tup [.tup (zs.map .str), x, y]] = .ok (.bl false) ∧ p_law_is_setting [.tup [.tup (zs.map .str), x, y]] = .ok (.bl false) :=
  ⟨set_rest S (by simp [h1, h2]), law_set_rest S fun c => by simp [h1, h2]⟩
theorem set_y (S : IsS zs b0 k0) {bb : Bool} (h1 : p_is_within [y, .int 1, .int 60] = .ok (.bl false)) : p_is_setting [.tup [.tup (zs.map .str), .bl bb, y]] = .ok (.bl false) ∧ p_law_is_setting [.tup [.tup (zs.map .str), .bl bb, y]] = .ok (.bl false) := by
  have h2 : p_law_in [y, .int 1, .int 60] = .ok (.bl false) := q_law_in.trans h1
  exact ⟨set_rest S (by simp [h1]), law_set_rest S fun c => by simp [h2]⟩
theorem law_set_ok {k : Int} {b : Bool} (S : IsS zs b k) : p_law_is_setting [setV zs b k] = .ok (.bl true) := by
  have h1 := S.k1
  have h2 := S.k2
  have hw : p_law_in [.int k, .int 1, .int 60] = .ok (.bl true) := by rw [q_law_in, q_within]; simp [h1, h2]
  exact law_set_rest S fun c => by simp [hw]
end
/-- bad or good -/
def Odd (o : PV) : Prop := (∃ zs b k, o = setV zs b k ∧ IsS zs b k) ∨ (p_is_setting [o] = .ok (.bl false) ∧ p_law_is_setting [o] = .ok (.bl false))
def oddL : List PV := [.non, .tup [], .tup [.str "s"], .tup [.str "s", .str "s"], .tup [.str "s", .str ""], .tup [.str "s", .str "x"], .tup [.str "sssss", .str "s"], .bl true, .int 0, .int 1, .int 60, .int 61, .lst [.str "s", .str "l"], .tup [.str "l", .str "s"], .int (-1)]
section
variable {zs : List Str} {pr : Bool} {kk : Int}
theorem odd_0 (S : IsS zs pr kk) (v : PV) (hv : v ∈ oddL) : Odd (.tup [v, .bl pr, .int kk]) := by
  simp only [oddL, List.mem_cons, List.not_mem_nil, or_false] at hv
  rcases hv with rfl | rfl | rfl | rfl | rfl | rfl | rfl | rfl | rfl | rfl | rfl | rfl | rfl | rfl | rfl
  · exact .inr ⟨by kernel_rfl, by kernel_rfl⟩
  · exact .inr ⟨by kernel_rfl, by kernel_rfl⟩
  · exact .inr ⟨by kernel_rfl, by kernel_rfl⟩
  · refine .inr ⟨by kernel_rfl, ?_⟩
    have h1 := S.k1
    have h2 := S.k2
    have hw : p_law_in [.int kk, .int 1, .int 60] = .ok (.bl true) := by rw [q_law_in, q_within]; simp [h1, h2]
    rw [p_law_is_setting, fnP_run (by rfl)]
    refine run_nx (σ1 := [some (.tup [.tup [.str "s", .str "s"], .bl pr, .int kk]), none]) (by kernel_rfl) ?_
    refine run_nx (σ1 := [some (.tup [.tup [.str "s", .str "s"], .bl pr, .int kk]), none]) (by kernel_rfl) ?_
    refine run_nx (σ1 := [some (.tup [.tup [.str "s", .str "s"], .bl pr, .int kk]), some (.str "s")]) (by kernel_rfl) ?_
    refine run_nx (σ1 := [some (.tup [.tup [.str "s", .str "s"], .bl pr, .int kk]), some (.str "s")]) (by simp [hw]) ?_
    kernel_rfl
  · exact .inr ⟨by kernel_rfl, by kernel_rfl⟩
  · exact .inr ⟨by kernel_rfl, by kernel_rfl⟩
  · exact .inr ⟨by kernel_rfl, by kernel_rfl⟩
  · exact .inr ⟨by kernel_rfl, by kernel_rfl⟩
  · exact .inr ⟨by kernel_rfl, by kernel_rfl⟩
  · exact .inr ⟨by kernel_rfl, by kernel_rfl⟩
  · exact .inr ⟨by kernel_rfl, by kernel_rfl⟩
  · exact .inr ⟨by kernel_rfl, by kernel_rfl⟩
  · exact .inr ⟨by kernel_rfl, by kernel_rfl⟩
  · exact .inl ⟨["l", "s"], pr, kk, rfl, ⟨by decide, by decide, by decide +kernel, by decide +kernel, S.k1, S.k2⟩⟩
  · exact .inr ⟨by kernel_rfl, by kernel_rfl⟩
theorem odd_1 (S : IsS zs pr kk) (v : PV) (hv : v ∈ oddL) : Odd (.tup [.tup (zs.map .str), v, .int kk]) := by
  simp only [oddL, List.mem_cons, List.not_mem_nil, or_false] at hv
  rcases hv with rfl | rfl | rfl | rfl | rfl | rfl | rfl | rfl | rfl | rfl | rfl | rfl | rfl | rfl | rfl
  · exact .inr (set_x S ty_non isi_9)
  · exact .inr (set_x S ty_tup isi_11)
  · exact .inr (set_x S ty_tup isi_11)
  · exact .inr (set_x S ty_tup isi_11)
  · exact .inr (set_x S ty_tup isi_11)
  · exact .inr (set_x S ty_tup isi_11)
  · exact .inr (set_x S ty_tup isi_11)
  · exact .inl ⟨zs, true, kk, rfl, ⟨S.lo, S.hi, S.cd, S.nd, S.k1, S.k2⟩⟩
  · exact .inr (set_x S ty_int isi_7)
  · exact .inr (set_x S ty_int isi_7)
  · exact .inr (set_x S ty_int isi_7)
  · exact .inr (set_x S ty_int isi_7)
  · exact .inr (set_x S ty_lst isi_12)
  · exact .inr (set_x S ty_tup isi_11)
  · exact .inr (set_x S ty_int isi_7)
theorem odd_2 (S : IsS zs pr kk) (v : PV) (hv : v ∈ oddL) : Odd (.tup [.tup (zs.map .str), .bl pr, v]) := by
  simp only [oddL, List.mem_cons, List.not_mem_nil, or_false] at hv
  rcases hv with rfl | rfl | rfl | rfl | rfl | rfl | rfl | rfl | rfl | rfl | rfl | rfl | rfl | rfl | rfl
  · exact .inr (set_y S (isOk_ok (by decide +kernel)))
  · exact .inr (set_y S (isOk_ok (by decide +kernel)))
  · exact .inr (set_y S (isOk_ok (by decide +kernel)))
  · exact .inr (set_y S (isOk_ok (by decide +kernel)))
  · exact .inr (set_y S (isOk_ok (by decide +kernel)))
  · exact .inr (set_y S (isOk_ok (by decide +kernel)))
  · exact .inr (set_y S (isOk_ok (by decide +kernel)))
  · exact .inr (set_y S (isOk_ok (by decide +kernel)))
  · exact .inr (set_y S (isOk_ok (by decide +kernel)))
  · exact .inl ⟨zs, pr, 1, rfl, ⟨S.lo, S.hi, S.cd, S.nd, by decide, by decide⟩⟩
  · exact .inl ⟨zs, pr, 60, rfl, ⟨S.lo, S.hi, S.cd, S.nd, by decide, by decide⟩⟩
  · exact .inr (set_y S (isOk_ok (by decide +kernel)))
  · exact .inr (set_y S (isOk_ok (by decide +kernel)))
  · exact .inr (set_y S (isOk_ok (by decide +kernel)))
  · exact .inr (set_y S (isOk_ok (by decide +kernel)))
theorem odd_l : Odd (.lst [.tup (zs.map .str), .bl pr, .int kk]) := .inr ⟨by kernel_rfl, by kernel_rfl⟩
theorem odd_s : Odd (.tup [.tup (zs.map .str), .bl pr]) := .inr ⟨by kernel_rfl, by kernel_rfl⟩
theorem odd_m : Odd (.tup [.tup (zs.map .str), .bl pr, .int kk, .int 1]) := .inr ⟨by kernel_rfl, by kernel_rfl⟩
end
/-! ### the words of refusals -/
theorem word_of {w v : PV} {c t : Str} (h : p_law_looked [w, v] = .exc c) (hc : ∀ σ, handleP tabL c [("NoSetting", (pSet 2 (pC (.str "setting")))), ("NoCode", (pSet 2 (pC (.str "code")))), ("NoHouse", (pSet 2 (pC (.str "house")))), ("NoCount", (pSet 2 (pC (.str "count")))), ("NoDeeds", (pSet 2 (pC (.str "deeds")))), ("NoText", (pSet 2 (pC (.str "text"))))] σ = .nx (σ.set 2 (some (.str t)))) : p_law_word [w, v] = .ok (.str t) := by
  rw [p_law_word, fnP_run (by rfl)]
  refine run_nx (σ1 := [some w, some v, some (.str "")]) (by simp) ?_
  refine run_nx (σ1 := [some w, some v, some (.str t)]) (by simp [h, hc]) ?_
  simp
theorem word_ok {w v u : PV} (h : p_law_looked [w, v] = .ok u) : p_law_word [w, v] = .ok (.str "") := by
  rw [p_law_word, fnP_run (by rfl)]
  refine run_nx (σ1 := [some w, some v, some (.str "")]) (by simp) ?_
  refine run_nx (σ1 := [some w, some v, some (.str "")]) (by simp [h]) ?_
  simp
theorem word_0 {o : PV} (h : Odd o) : ∃ g, p_is_setting [o] = .ok (.bl g) ∧ p_law_is_setting [o] = .ok (.bl g) ∧ p_law_word [.int 0, o] = .ok (.str (if g = true then "" else "setting")) := by
  rcases h with ⟨zs, b, k, rfl, S⟩ | ⟨h1, h2⟩
  · refine ⟨true, q_is_setting S, law_set_ok S, word_ok (u := lineV (LS.start zs b k)) ?_⟩
    rw [p_law_looked, fnP_run (by rfl)]
    simp [q_make S]
  · refine ⟨false, h1, h2, word_of (c := "NoSetting") ?_ (fun σ => by kernel_rfl)⟩
    have hl : p_look [o] = .exc "NoSetting" := by
      rw [p_look, fnP_run (by rfl)]
      simp [h1]
    have hi : p_Line_init (.ins "Line" [] []) [o] = .exc "NoSetting" (.ins "Line" [] []) := by
      rw [p_Line_init, fnO_run (by rfl), go_exc (σ1 := [some (.ins "Line" [] []), some o]) (c := "NoSetting") (by simp [hl])]
      rfl
    have hm : makeV "Line" p_Line_init [o] = .exc "NoSetting" := by
      unfold makeV
      rw [hi]
    rw [p_law_looked, fnP_run (by rfl)]
    simp [hm]
end G9

set_option Elab.async false
set_option linter.all false
set_option maxRecDepth 100000
set_option maxHeartbeats 2000000
namespace G9
open PySem L2

theorem cut_from {α : Type} {xs : List α} {k : Nat} : cutD xs (some (k : Int)) none = xs.drop k := by
  unfold cutD
  simp only [HT.sIx_nat, HT.sIx_none]
  apply List.ext_getElem?
  intro i
  simp only [List.getElem?_take, List.getElem?_drop]
  by_cases h : k + i < xs.length
  · rw [if_pos (by omega), Nat.min_eq_left (by omega)]
  · have e1 : xs[k + i]? = none := List.getElem?_eq_none (by omega)
    rw [e1]
    split
    · by_cases h3 : k ≤ xs.length
      · rw [Nat.min_eq_left h3]; exact e1
      · exact List.getElem?_eq_none (by omega)
    · rfl
def badL : List PV := [.non, .tup [.bl true], .lst [.int 1], .lst (List.replicate 401 [PV.bl true]).flatten, .str "", .lst [.non], .int 7]
def manyL : List HV := [.i (-1), .i 401, .no, .tr]
theorem w_1 : ∀ b ∈ badL, isOk (p_law_word [.int 1, .tup [.non, b]]) (.str "setting") = true := by decide +kernel
theorem w_3 : ∀ m ∈ manyL.map HV.v, isOk (p_law_word [.int 2, .tup [.str "", m]]) (.str "code") = true := by decide +kernel
theorem w_4 : ∀ m ∈ manyL.map HV.v, isOk (p_law_word [.int 2, .tup [.str "s", m]]) (.str "count") = true := by decide +kernel
theorem w_5 : ∀ m ∈ manyL.map HV.v, isOk (p_law_word [.int 3, .tup [.non, m]]) (.str "setting") = true := by decide +kernel
section
variable {ns : List Int} {zs : List Str} {pr : Bool} {kk : Int} {x3 x4 x5 x8 x10 x11 x12 x13 x14 : Option PV} {row : List Bool} {i tt : Nat} {x : Str}
theorem w_2 (S : IsS zs pr kk) (b : PV) (hb : b ∈ badL) : p_law_word [.int 1, .tup [setV zs pr kk, b]] = .ok (.str "code") := by
  have h : p_meant [setV zs pr kk, b] = .exc "NoCode" := by
    rw [p_meant, fnP_run (by rfl)]
    refine run_nx (σ1 := [some (setV zs pr kk), some b, none, none, none]) (by simp [q_look S]) ?_
    refine run_exc (σ1 := [some (setV zs pr kk), some b, none, none, none]) ?_
    simp only [badL, List.mem_cons, List.not_mem_nil, or_false] at hb
    rcases hb with rfl | rfl | rfl | rfl | rfl | rfl | rfl <;> kernel_rfl
  refine word_of (c := "NoCode") ?_ (fun σ => by kernel_rfl)
  rw [p_law_looked, fnP_run (by rfl)]
  simp [pEq_int, h]
theorem w_6 (S : IsS zs pr kk) (m : HV) (hm : m ∈ manyL) : p_law_word [.int 3, .tup [setV zs pr kk, m.v]] = .ok (.str "house") := by
  have hhi := S.hi
  have h : p_sure_behind [setV zs pr kk, m.v] = .exc "NoHouse" := by
    rw [p_sure_behind, fnP_run (by rfl)]
    refine run_nx (σ1 := [some (setV zs pr kk), some m.v, none, none]) (by simp [q_look S]) ?_
    refine run_exc (σ1 := [some (setV zs pr kk), some m.v, none, none]) ?_
    have hl := q_look_house (zs := zs) (pr := pr) (pt := kk) (x := m)
    have hi : m.inr zs.length = false := by
      simp only [manyL, List.mem_cons, List.not_mem_nil, or_false] at hm
      rcases hm with rfl | rfl | rfl | rfl
      · rfl
      · simp [HV.inr]; omega
      · rfl
      · rfl
    rw [hi] at hl
    simp [hl]
  refine word_of (c := "NoHouse") ?_ (fun σ => by kernel_rfl)
  rw [p_law_looked, fnP_run (by rfl)]
  simp [pEq_int, h]

theorem st_4 (S : IsS zs pr kk) {a : Int} (ha : a = 0 ∨ a = 1 ∨ a = 2) {v : PV} (hv : v ∈ oddL) {j : Int} (hj : cv ns 2 % 15 = j) (hat : atI oddL j = some v) : ∃ o, (pSet 4 (pOp pAdd (pOp pAdd (pSl (pVar 1) pNoP (pPart (pVar 3))) (pTup (pCons (pOp pIx (pVar 2) (pOp pMod (pCall 2 p_law_cell (pCons (pVar 0) (pCons (pC (.int 2)) pNil))) (pC (.int 15)))) pNil))) (pSl (pVar 1) (pPart (pOp pAdd (pVar 3) (pC (.int 1)))) pNoP))) [some (.scr ns), some (setV zs pr kk), some (.lst oddL), some (.int a), none, none, none, none, none, none, none, none, none, none, none, none, none, none, none] = .nx [some (.scr ns), some (setV zs pr kk), some (.lst oddL), some (.int a), some o, none, none, none, none, none, none, none, none, none, none, none, none, none, none] ∧ Odd o := by
  have hx : (pOp pIx (pVar 2) (pOp pMod (pCall 2 p_law_cell (pCons (pVar 0) (pCons (pC (.int 2)) pNil))) (pC (.int 15)))) [some (.scr ns), some (setV zs pr kk), some (.lst oddL), some (.int a), none, none, none, none, none, none, none, none, none, none, none, none, none, none, none] = .ok v := by
    simp [q_cell, hj, hat]
  rcases ha with rfl | rfl | rfl
  · refine ⟨.tup [v, .bl pr, .int kk], ?_, odd_0 S v hv⟩
    simp only [pSet_ap, pOp_ap (op := pAdd), pTup_ap, pCons_ap, pNil_ap, hx, prb_ok, pSl_ap, pVar_ap, pNoP_ap, pPart_ap, pC_ap, List.getElem?_cons_succ, List.getElem?_cons_zero]
    rfl
  · refine ⟨.tup [.tup (zs.map .str), v, .int kk], ?_, odd_1 S v hv⟩
    simp only [pSet_ap, pOp_ap (op := pAdd), pTup_ap, pCons_ap, pNil_ap, hx, prb_ok, pSl_ap, pVar_ap, pNoP_ap, pPart_ap, pC_ap, List.getElem?_cons_succ, List.getElem?_cons_zero]
    rfl
  · refine ⟨.tup [.tup (zs.map .str), .bl pr, v], ?_, odd_2 S v hv⟩
    simp only [pSet_ap, pOp_ap (op := pAdd), pTup_ap, pCons_ap, pNil_ap, hx, prb_ok, pSl_ap, pVar_ap, pNoP_ap, pPart_ap, pC_ap, List.getElem?_cons_succ, List.getElem?_cons_zero]
    rfl

theorem st_5 {o : PV} (ho : Odd o) : ∃ o', (pSet 4 (pOp pIx (pLst (pCons (pVar 4) (pCons (pVar 4) (pCons (pCl pList (pCons (pVar 1) pNil)) (pCons (pSl (pVar 1) pNoP (pPart (pC (.int 2)))) (pCons (pOp pAdd (pVar 1) (pTup (pCons (pC (.int 1)) pNil))) pNil)))))) (pOp pMod (pCall 2 p_law_cell (pCons (pVar 0) (pCons (pC (.int 3)) pNil))) (pC (.int 5))))) [some (.scr ns), some (setV zs pr kk), some (.lst oddL), x3, some o, none, none, none, none, none, none, none, none, none, none, none, none, none, none] = .nx [some (.scr ns), some (setV zs pr kk), some (.lst oddL), x3, some o', none, none, none, none, none, none, none, none, none, none, none, none, none, none] ∧ Odd o' := by
  have h0 := mod_lo (i := cv ns 3) (p := 5) (by decide)
  have h1 := mod_hi (i := cv ns 3) (p := 5) (by decide)
  have hl : (pLst (pCons (pVar 4) (pCons (pVar 4) (pCons (pCl pList (pCons (pVar 1) pNil)) (pCons (pSl (pVar 1) pNoP (pPart (pC (.int 2)))) (pCons (pOp pAdd (pVar 1) (pTup (pCons (pC (.int 1)) pNil))) pNil)))))) [some (.scr ns), some (setV zs pr kk), some (.lst oddL), x3, some o, none, none, none, none, none, none, none, none, none, none, none, none, none, none] = .ok (.lst [o, o, .lst [.tup (zs.map .str), .bl pr, .int kk], .tup [.tup (zs.map .str), .bl pr], .tup [.tup (zs.map .str), .bl pr, .int kk, .int 1]]) := by rfl
  have hm : (pOp pMod (pCall 2 p_law_cell (pCons (pVar 0) (pCons (pC (.int 3)) pNil))) (pC (.int 5))) [some (.scr ns), some (setV zs pr kk), some (.lst oddL), x3, some o, none, none, none, none, none, none, none, none, none, none, none, none, none, none] = .ok (.int (cv ns 3 % 5)) := by simp [q_cell]
  generalize cv ns 3 % 5 = m at h0 h1 hm
  rw [pSet_ap, pOp_ap (op := pIx), hl, prb_ok, hm, prb_ok]
  have : m = 0 ∨ m = 1 ∨ m = 2 ∨ m = 3 ∨ m = 4 := by omega
  rcases this with rfl | rfl | rfl | rfl | rfl
  · exact ⟨o, rfl, ho⟩
  · exact ⟨o, rfl, ho⟩
  · exact ⟨_, rfl, odd_l⟩
  · exact ⟨_, rfl, odd_s⟩
  · exact ⟨_, rfl, odd_m⟩

theorem st_7 (S : IsS zs pr kk) {o : PV} {g : Bool} (h1 : p_is_setting [o] = .ok (.bl g)) (h3 : p_law_word [.int 0, o] = .ok (.str (if g = true then "" else "setting"))) : (pIfS (pBo (pOp pNe (pLst (pCons (pCall 1 p_is_setting (pCons (pVar 1) pNil)) (pCons (pCall 1 p_is_setting (pCons (pVar 4) pNil)) (pCons (pOp pEq (pCall 2 p_law_word (pCons (pC (.int 0)) (pCons (pVar 4) pNil))) (pC (.str ""))) pNil)))) (pLst (pCons (pC (.bl true)) (pCons (pVar 5) (pCons (pVar 5) pNil)))))) (pRet (pC (.bl false))) pNx) [some (.scr ns), some (setV zs pr kk), some (.lst oddL), x3, some o, some (.bl g), none, none, none, none, none, none, none, none, none, none, none, none, none] = .nx [some (.scr ns), some (setV zs pr kk), some (.lst oddL), x3, some o, some (.bl g), none, none, none, none, none, none, none, none, none, none, none, none, none] := by
  have e1 : pEq (.str "") (.str "") = .ok (.bl true) := isOk_ok (by decide +kernel)
  have e2 : pEq (.str "setting") (.str "") = .ok (.bl false) := isOk_ok (by decide +kernel)
  have n1 : pNe (.lst [.bl true, .bl g, .bl g]) (.lst [.bl true, .bl g, .bl g]) = .ok (.bl false) := ne_self (ok_lst (ok_cons ok_bl (ok_cons ok_bl (ok_cons ok_bl ok_nil))))
  cases g
  · simp only [Bool.false_eq_true, if_false] at h3
    simp [q_is_setting S, h1, h3, e2, n1]
  · simp only [if_true] at h3
    simp [q_is_setting S, h1, h3, e1, n1]

theorem st_12 (hr : row.length = tt) (ht : tt ≤ 400) : ∃ (x3' : Option PV) (row' : List Bool), (pIfS (pAnd (pBo (pOp pGt (pVar 8) (pC (.int 0)))) (pBo (pOp pEq (pOp pMod (pCall 2 p_law_cell (pCons (pVar 0) (pCons (pC (.int 7)) pNil))) (pC (.int 3))) (pC (.int 0))))) (pSeq (pSet 3 (pOp pMod (pCall 2 p_law_cell (pCons (pVar 0) (pCons (pC (.int 8)) pNil))) (pVar 8)))
    (pSet 9 (pOp pAdd (pOp pAdd (pSl (pVar 9) pNoP (pPart (pVar 3))) (pLst (pCons (pNotV (pOp pIx (pVar 9) (pVar 3))) pNil))) (pSl (pVar 9) (pPart (pOp pAdd (pVar 3) (pC (.int 1)))) pNoP)))) pNx) [some (.scr ns), some (setV zs pr kk), some (.lst oddL), x3, x4, x5, some (.tup (zs.map .str)), some (.int (i : Int)), some (.int (tt : Int)), some (.lst (row.map .bl)), none, none, none, none, none, none, none, none, none] = .nx [some (.scr ns), some (setV zs pr kk), some (.lst oddL), x3', x4, x5, some (.tup (zs.map .str)), some (.int (i : Int)), some (.int (tt : Int)), some (.lst (row'.map .bl)), none, none, none, none, none, none, none, none, none] ∧ row'.length = tt := by
  by_cases hc : (0 : Int) < (tt : Int) ∧ cv ns 7 % 3 = 0
  · obtain ⟨hc1, hc2⟩ := hc
    obtain ⟨m, hm⟩ : ∃ m : Nat, cv ns 8 % (tt : Int) = (m : Int) := ⟨(cv ns 8 % (tt : Int)).toNat, by have := mod_lo (i := cv ns 8) hc1; omega⟩
    have hmt : m < tt := by have := mod_hi (i := cv ns 8) hc1; omega
    have hml : m < row.length := by omega
    refine ⟨some (.int (m : Int)), row.take m ++ [!row[m]] ++ row.drop (m + 1), ?_, by simp; omega⟩
    have hx : atI (row.map PV.bl) (m : Int) = some (.bl row[m]) := atI_nat (by simp [hml])
    have c1 : cutD (row.map PV.bl) none (some (m : Int)) = (row.take m).map .bl := by rw [cut_to, List.map_take]
    have c2 : cutD (row.map PV.bl) (some ((m : Int) + 1)) none = (row.drop (m + 1)).map .bl := by
      have := cut_from (xs := row.map PV.bl) (k := m + 1)
      rw [← List.map_drop] at this
      exact this
    have s1 : (pSet 3 (pOp pMod (pCall 2 p_law_cell (pCons (pVar 0) (pCons (pC (.int 8)) pNil))) (pVar 8))) [some (.scr ns), some (setV zs pr kk), some (.lst oddL), x3, x4, x5, some (.tup (zs.map .str)), some (.int (i : Int)), some (.int (tt : Int)), some (.lst (row.map .bl)), none, none, none, none, none, none, none, none, none] = .nx [some (.scr ns), some (setV zs pr kk), some (.lst oddL), some (.int (m : Int)), x4, x5, some (.tup (zs.map .str)), some (.int (i : Int)), some (.int (tt : Int)), some (.lst (row.map .bl)), none, none, none, none, none, none, none, none, none] := by
      have : 0 < tt := by omega
      simp [q_cell, this, hm]
    have l1 : (row.take m).length ≤ 100000 := by simp; omega
    have l2 : (row.drop (m + 1)).length ≤ 100000 := by simp; omega
    have s2 : (pSet 9 (pOp pAdd (pOp pAdd (pSl (pVar 9) pNoP (pPart (pVar 3))) (pLst (pCons (pNotV (pOp pIx (pVar 9) (pVar 3))) pNil))) (pSl (pVar 9) (pPart (pOp pAdd (pVar 3) (pC (.int 1)))) pNoP))) [some (.scr ns), some (setV zs pr kk), some (.lst oddL), some (.int (m : Int)), x4, x5, some (.tup (zs.map .str)), some (.int (i : Int)), some (.int (tt : Int)), some (.lst (row.map .bl)), none, none, none, none, none, none, none, none, none] = .nx [some (.scr ns), some (setV zs pr kk), some (.lst oddL), some (.int (m : Int)), x4, x5, some (.tup (zs.map .str)), some (.int (i : Int)), some (.int (tt : Int)), some (.lst ((row.take m ++ [!row[m]] ++ row.drop (m + 1)).map .bl)), none, none, none, none, none, none, none, none, none] := by
      simp only [pSet_ap, pOp_ap, pSl_ap, pVar_ap, pNoP_ap, pPart_ap, pC_ap, List.getElem?_cons_succ, List.getElem?_cons_zero, prb_ok, pSlV, c1, newLV_ap, List.length_map, l1, if_true, pLst_ap, pCons_ap, pNil_ap, pNotV_ap, pIx_lst, hx, truV_bl, List.length_cons, List.length_nil, Nat.reduceAdd, Nat.reduceLeDiff, pAdd_lst, pAdd_int, c2, l2, List.length_append]
      rw [if_pos (by simp; omega)]
      simp only [prb_ok, pAdd_lst, newLV_ap]
      rw [if_pos (by simp; omega)]
      simp
    rw [pIfS_ap]
    have tc : (pAnd (pBo (pOp pGt (pVar 8) (pC (.int 0)))) (pBo (pOp pEq (pOp pMod (pCall 2 p_law_cell (pCons (pVar 0) (pCons (pC (.int 7)) pNil))) (pC (.int 3))) (pC (.int 0))))) [some (.scr ns), some (setV zs pr kk), some (.lst oddL), x3, x4, x5, some (.tup (zs.map .str)), some (.int (i : Int)), some (.int (tt : Int)), some (.lst (row.map .bl)), none, none, none, none, none, none, none, none, none] = .ok true := by simp [q_cell, hc2]; omega
    rw [tc, ofP_ok, if_pos rfl, seq_nx s1, s2]
  · refine ⟨x3, row, ?_, hr⟩
    have tc : (pAnd (pBo (pOp pGt (pVar 8) (pC (.int 0)))) (pBo (pOp pEq (pOp pMod (pCall 2 p_law_cell (pCons (pVar 0) (pCons (pC (.int 7)) pNil))) (pC (.int 3))) (pC (.int 0))))) [some (.scr ns), some (setV zs pr kk), some (.lst oddL), x3, x4, x5, some (.tup (zs.map .str)), some (.int (i : Int)), some (.int (tt : Int)), some (.lst (row.map .bl)), none, none, none, none, none, none, none, none, none] = .ok false := by
      by_cases h1 : (0 : Int) < (tt : Int)
      · have h2 : ¬ cv ns 7 % 3 = 0 := fun e => hc ⟨h1, e⟩
        simp [q_cell, h2]
      · have : tt = 0 := by omega
        subst this
        simp
    rw [pIfS_ap, tc, ofP_ok]
    rfl

theorem st_13 (S : IsS zs pr kk) (hr : row.length = tt) (ht : tt ≤ 400) : (pSet 10 (pLc (pItET (pVar 6)) [11, 12] (hT (hsC (hN 11) (hsC (hN 12) hsN))) (pBo (pOp pEq (pCall 2 p_law_ring (pCons (pVar 12) (pCons (pVar 8) pNil))) (pVar 9))) (pVar 11))) [some (.scr ns), some (setV zs pr kk), some (.lst oddL), x3, x4, x5, some (.tup (zs.map .str)), some (.int (i : Int)), some (.int (tt : Int)), some (.lst (row.map .bl)), none, none, none, none, none, none, none, none, none] = .nx [some (.scr ns), some (setV zs pr kk), some (.lst oddL), x3, x4, x5, some (.tup (zs.map .str)), some (.int (i : Int)), some (.int (tt : Int)), some (.lst (row.map .bl)), some (.lst ((meantL zs row).map .int)), none, none, none, none, none, none, none, none] := by
  have hhi := S.hi
  have e := lc_fn (fun p : Str × Nat => PV.tup [.int (p.2 : Int), .str p.1]) (g := (hT (hsC (hN 11) (hsC (hN 12) hsN)))) (c := (pBo (pOp pEq (pCall 2 p_law_ring (pCons (pVar 12) (pCons (pVar 8) pNil))) (pVar 9)))) (a := pVar 11) (σ := [some (.scr ns), some (setV zs pr kk), some (.lst oddL), x3, x4, x5, some (.tup (zs.map .str)), some (.int (i : Int)), some (.int (tt : Int)), some (.lst (row.map .bl)), none, none, none, none, none, none, none, none, none]) (fun p => decide (rgB p.1 row.length = row)) (fun p : Str × Nat => PV.int (p.2 : Int)) zs.zipIdx (fun p hp => by
    refine ⟨[some (.scr ns), some (setV zs pr kk), some (.lst oddL), x3, x4, x5, some (.tup (zs.map .str)), some (.int (i : Int)), some (.int (tt : Int)), some (.lst (row.map .bl)), none, some (.int (p.2 : Int)), some (.str p.1), none, none, none, none, none, none], rfl, ?_, fun _ => by simp⟩
    have hc : IsC p.1 := S.cd _ (by
      obtain ⟨x, i⟩ := p
      have := List.mem_zipIdx' hp
      simp only at this ⊢
      rw [this.2]
      exact List.getElem_mem _)
    rw [hr]
    simp [w_law_ring hc (show tt ≤ 1000 by omega), eq_bs])
  have he := enum_strs zs
  simp only [pSet_ap, pLc_ap, pItET_ap, pVar_ap, List.getElem?_cons_succ, List.getElem?_cons_zero, prb_ok, he, wipeP, List.set_cons_succ, List.set_cons_zero]
  rw [if_pos (by simp; omega), e]
  simp [meantL, meantN]

theorem st_14 (S : IsS zs pr kk) (h : zs[i]? = some x) (hr : row.length ≤ 400) : (pIfS (pBo (pOp pNe (pLc (pItT (pTup (pCons (pCall 2 p_ring (pCons (pOp pIx (pVar 6) (pVar 7)) (pCons (pC (.int 400)) pNil))) (pCons (pCl pList (pCons (pVar 9) pNil)) pNil)))) [18] (hN 18) pYes (pCall 2 p_meant (pCons (pVar 1) (pCons (pVar 18) pNil)))) (pLst (pCons (pLst (pCons (pVar 7) pNil)) (pCons (pVar 10) pNil))))) (pRet (pC (.bl false))) pNx) [some (.scr ns), some (setV zs pr kk), some (.lst oddL), x3, x4, x5, some (.tup (zs.map .str)), some (.int (i : Int)), some (.int (tt : Int)), some (.lst (row.map .bl)), some (.lst ((meantL zs row).map .int)), none, none, none, none, none, none, none, none] = .nx [some (.scr ns), some (setV zs pr kk), some (.lst oddL), x3, x4, x5, some (.tup (zs.map .str)), some (.int (i : Int)), some (.int (tt : Int)), some (.lst (row.map .bl)), some (.lst ((meantL zs row).map .int)), none, none, none, none, none, none, none, none] := by
  have hC : IsC x := S.cd _ (List.mem_of_getElem? h)
  have hx : atI (zs.map PV.str) (i : Int) = some (.str x) := atI_nat (by simp [h])
  have hr4 : p_ring [.str x, .int 400] = .ok (.lst ((rgB x 400).map .bl)) := w_ring hC (n := 400) (by omega)
  have e := lc_all (fun r : List Bool => PV.lst (r.map .bl)) (g := hN 18) (c := pYes) (a := (pCall 2 p_meant (pCons (pVar 1) (pCons (pVar 18) pNil)))) (σ := [some (.scr ns), some (setV zs pr kk), some (.lst oddL), x3, x4, x5, some (.tup (zs.map .str)), some (.int (i : Int)), some (.int (tt : Int)), some (.lst (row.map .bl)), some (.lst ((meantL zs row).map .int)), none, none, none, none, none, none, none, none]) (fun r : List Bool => PV.lst ((meantL zs r).map .int)) [rgB x 400, row] (fun r hr' => by
    refine ⟨[some (.scr ns), some (setV zs pr kk), some (.lst oddL), x3, x4, x5, some (.tup (zs.map .str)), some (.int (i : Int)), some (.int (tt : Int)), some (.lst (row.map .bl)), some (.lst ((meantL zs row).map .int)), none, none, none, none, none, none, none, some (.lst (r.map .bl))], rfl, rfl, ?_⟩
    have hl : r.length ≤ 400 := by
      simp at hr'
      rcases hr' with rfl | rfl
      · rw [rgB_len]; omega
      · exact hr
    simp [w_meant S hl])
  have hm : meantL zs (rgB x 400) = [(i : Int)] := by unfold meantL; rw [meant_at S h (by omega)]; rfl
  have it : ((pItT (pTup (pCons (pCall 2 p_ring (pCons (pOp pIx (pVar 6) (pVar 7)) (pCons (pC (.int 400)) pNil))) (pCons (pCl pList (pCons (pVar 9) pNil)) pNil))))) [some (.scr ns), some (setV zs pr kk), some (.lst oddL), x3, x4, x5, some (.tup (zs.map .str)), some (.int (i : Int)), some (.int (tt : Int)), some (.lst (row.map .bl)), some (.lst ((meantL zs row).map .int)), none, none, none, none, none, none, none, none] = .ok ([rgB x 400, row].map fun r : List Bool => PV.lst (r.map .bl)) := by
    simp [hx, hr4, show row.length ≤ 100000 by omega]
  have n1 : pNe (.lst [.lst [.int (i : Int)], .lst ((meantL zs row).map .int)]) (.lst [.lst [.int (i : Int)], .lst ((meantL zs row).map .int)]) = .ok (.bl false) := ne_self (ok_lst (ok_cons (ok_lst (ok_cons ok_int ok_nil)) (ok_cons (ok_lst ok_ints) ok_nil)))
  have el : (pLc (pItT (pTup (pCons (pCall 2 p_ring (pCons (pOp pIx (pVar 6) (pVar 7)) (pCons (pC (.int 400)) pNil))) (pCons (pCl pList (pCons (pVar 9) pNil)) pNil)))) [18] (hN 18) pYes (pCall 2 p_meant (pCons (pVar 1) (pCons (pVar 18) pNil)))) [some (.scr ns), some (setV zs pr kk), some (.lst oddL), x3, x4, x5, some (.tup (zs.map .str)), some (.int (i : Int)), some (.int (tt : Int)), some (.lst (row.map .bl)), some (.lst ((meantL zs row).map .int)), none, none, none, none, none, none, none, none] = .ok (.lst [.lst [.int (i : Int)], .lst ((meantL zs row).map .int)]) := by
    rw [pLc_ap, it]
    simp only [prb_ok, wipeP, List.set_cons_succ, List.set_cons_zero]
    rw [if_pos (by simp), e]
    simp [hm]
  simp only [pIfS_ap, pBo_ap, pOp_ap (op := pNe), el, prb_ok]
  simp [n1]

end
end G9

set_option Elab.async false
set_option linter.all false
set_option maxRecDepth 100000
set_option maxHeartbeats 2000000
namespace G9
open PySem L2

section
variable {ns : List Int} {zs : List Str} {pr : Bool} {kk : Int} {x3 x4 x5 x8 x10 x11 x12 x13 x14 : Option PV} {row : List Bool} {i tt : Nat} {x : Str} {z : Str} {j s : Nat}
theorem fil_len {f : Str → Bool} : (zs.zipIdx.filter fun p => f p.1).length = (zs.filter f).length := by
  have h : zs.zipIdx.map Prod.fst = zs := by simp
  have h2 := congrArg (fun l => (l.filter f).length) h
  simp only [List.filter_map, List.length_map] at h2
  exact h2
theorem in_step {u : Nat} (S : IsS zs pr kk) (h : zs[j]? = some z) (hs : s ≤ 40) (hm : (meantN zs (rgB z s)).length = 1) (hn : ∀ t, t < s → (meantN zs (rgB z t)).length ≠ 1) (hu : u ≤ s) : ∃ x14', (pSeq (pSet 14 (pLc (pItT (pVar 6)) [18] (hN 18) (pBo (pOp pEq (pCall 2 p_law_ring (pCons (pVar 18) (pCons (pCl pMax (pCons (pC (.int 0)) (pCons (pVar 8) pNil))) pNil))) (pCall 2 p_law_ring (pCons (pVar 12) (pCons (pCl pMax (pCons (pC (.int 0)) (pCons (pVar 8) pNil))) pNil))))) (pVar 18)))
    (pIfS (pBo (pOp pNe (pOp pEq (pCl pLen (pCons (pVar 14) pNil)) (pC (.int 1))) (pOp pEq (pVar 8) (pVar 13)))) (pRet (pC (.bl false))) pNx)) [some (.scr ns), some (setV zs pr kk), some (.lst oddL), x3, x4, x5, some (.tup (zs.map .str)), some (.int (i : Int)), some (.int (u : Int)), some (.lst (row.map .bl)), some (.lst ((meantL zs row).map .int)), some (.int (j : Int)), some (.str z), some (.int (s : Int)), x14, none, none, none, none] = .nx [some (.scr ns), some (setV zs pr kk), some (.lst oddL), x3, x4, x5, some (.tup (zs.map .str)), some (.int (i : Int)), some (.int (u : Int)), some (.lst (row.map .bl)), some (.lst ((meantL zs row).map .int)), some (.int (j : Int)), some (.str z), some (.int (s : Int)), x14', none, none, none, none] := by
  have hhi := S.hi
  have hC : IsC z := S.cd _ (List.mem_of_getElem? h)
  have hmx : pMax [.int 0, .int (u : Int)] = .ok (.int (u : Int)) := by
    simp [pMax]
    omega
  have rz := w_law_ring hC (n := u) (by omega)
  have e := lc_fn PV.str (g := hN 18) (c := (pBo (pOp pEq (pCall 2 p_law_ring (pCons (pVar 18) (pCons (pCl pMax (pCons (pC (.int 0)) (pCons (pVar 8) pNil))) pNil))) (pCall 2 p_law_ring (pCons (pVar 12) (pCons (pCl pMax (pCons (pC (.int 0)) (pCons (pVar 8) pNil))) pNil)))))) (a := pVar 18) (σ := [some (.scr ns), some (setV zs pr kk), some (.lst oddL), x3, x4, x5, some (.tup (zs.map .str)), some (.int (i : Int)), some (.int (u : Int)), some (.lst (row.map .bl)), some (.lst ((meantL zs row).map .int)), some (.int (j : Int)), some (.str z), some (.int (s : Int)), x14, none, none, none, none]) (fun y => decide (rgB y u = rgB z u)) PV.str zs (fun y hy =>
    ⟨[some (.scr ns), some (setV zs pr kk), some (.lst oddL), x3, x4, x5, some (.tup (zs.map .str)), some (.int (i : Int)), some (.int (u : Int)), some (.lst (row.map .bl)), some (.lst ((meantL zs row).map .int)), some (.int (j : Int)), some (.str z), some (.int (s : Int)), x14, none, none, none, some (.str y)], rfl, by simp [hmx, rz, w_law_ring (S.cd y hy) (show u ≤ 1000 by omega), eq_bs], fun _ => by simp⟩)
  have hlen : (zs.filter fun y => decide (rgB y u = rgB z u)).length = (meantN zs (rgB z u)).length := by
    unfold meantN
    rw [rgB_len]
    exact (fil_len (f := fun y => decide (rgB y u = rgB z u))).symm
  have key : decide (((zs.filter fun y => decide (rgB y u = rgB z u)).length : Int) = 1) = decide ((u : Int) = (s : Int)) := by
    rw [hlen]
    by_cases hus : u = s
    · subst hus
      simp [hm]
    · have := hn u (by omega)
      have h1 : ¬ (((meantN zs (rgB z u)).length : Int) = 1) := by omega
      have h2 : ¬ ((u : Int) = (s : Int)) := by omega
      simp only [h1, h2]
  refine ⟨some (.lst ((zs.filter fun y => decide (rgB y u = rgB z u)).map .str)), ?_⟩
  have s1 : (pSet 14 (pLc (pItT (pVar 6)) [18] (hN 18) (pBo (pOp pEq (pCall 2 p_law_ring (pCons (pVar 18) (pCons (pCl pMax (pCons (pC (.int 0)) (pCons (pVar 8) pNil))) pNil))) (pCall 2 p_law_ring (pCons (pVar 12) (pCons (pCl pMax (pCons (pC (.int 0)) (pCons (pVar 8) pNil))) pNil))))) (pVar 18))) [some (.scr ns), some (setV zs pr kk), some (.lst oddL), x3, x4, x5, some (.tup (zs.map .str)), some (.int (i : Int)), some (.int (u : Int)), some (.lst (row.map .bl)), some (.lst ((meantL zs row).map .int)), some (.int (j : Int)), some (.str z), some (.int (s : Int)), x14, none, none, none, none] = .nx [some (.scr ns), some (setV zs pr kk), some (.lst oddL), x3, x4, x5, some (.tup (zs.map .str)), some (.int (i : Int)), some (.int (u : Int)), some (.lst (row.map .bl)), some (.lst ((meantL zs row).map .int)), some (.int (j : Int)), some (.str z), some (.int (s : Int)), some (.lst ((zs.filter fun y => decide (rgB y u = rgB z u)).map .str)), none, none, none, none] := by
    simp only [pSet_ap, pLc_ap, pItT_ap, pVar_ap, List.getElem?_cons_succ, List.getElem?_cons_zero, prb_ok, wipeP, List.set_cons_succ, List.set_cons_zero]
    rw [if_pos (by simp; omega), e]
    simp
  rw [seq_nx s1]
  simp only [pIfS_ap, pBo_ap, pOp_ap, pCl_ap, pCons_ap, pNil_ap, pVar_ap, pC_ap, List.getElem?_cons_succ, List.getElem?_cons_zero, prb_ok, pLen_lst, List.length_map, pEq_int, key, pNe_bl, decide_true, Bool.not_true, ofP_ok, Bool.false_eq_true, if_false, pNx_ap]

theorem turn (S : IsS zs pr kk) (h : zs[j]? = some z) : ∃ x8' x13' x14', (pSeq (pSet 13 (pCall 2 p_sure_behind (pCons (pVar 1) (pCons (pVar 11) pNil))))
    (pFor (pItT (pTup (pCons (pOp pSub (pVar 13) (pC (.int 1))) (pCons (pVar 13) pNil)))) (hN 8) (pSeq (pSet 14 (pLc (pItT (pVar 6)) [18] (hN 18) (pBo (pOp pEq (pCall 2 p_law_ring (pCons (pVar 18) (pCons (pCl pMax (pCons (pC (.int 0)) (pCons (pVar 8) pNil))) pNil))) (pCall 2 p_law_ring (pCons (pVar 12) (pCons (pCl pMax (pCons (pC (.int 0)) (pCons (pVar 8) pNil))) pNil))))) (pVar 18)))
    (pIfS (pBo (pOp pNe (pOp pEq (pCl pLen (pCons (pVar 14) pNil)) (pC (.int 1))) (pOp pEq (pVar 8) (pVar 13)))) (pRet (pC (.bl false))) pNx)))) [some (.scr ns), some (setV zs pr kk), some (.lst oddL), x3, x4, x5, some (.tup (zs.map .str)), some (.int (i : Int)), x8, some (.lst (row.map .bl)), some (.lst ((meantL zs row).map .int)), some (.int (j : Int)), some (.str z), x13, x14, none, none, none, none] = .nx [some (.scr ns), some (setV zs pr kk), some (.lst oddL), x3, x4, x5, some (.tup (zs.map .str)), some (.int (i : Int)), x8', some (.lst (row.map .bl)), some (.lst ((meantL zs row).map .int)), some (.int (j : Int)), some (.str z), x13', x14', none, none, none, none] := by
  obtain ⟨s, s1, s2, e, hm, hn⟩ := w_sure S h
  have hm1 : (meantN zs (rgB z s)).length = 1 := by rw [hm]; rfl
  have b0 : (pSet 13 (pCall 2 p_sure_behind (pCons (pVar 1) (pCons (pVar 11) pNil)))) [some (.scr ns), some (setV zs pr kk), some (.lst oddL), x3, x4, x5, some (.tup (zs.map .str)), some (.int (i : Int)), x8, some (.lst (row.map .bl)), some (.lst ((meantL zs row).map .int)), some (.int (j : Int)), some (.str z), x13, x14, none, none, none, none] = .nx [some (.scr ns), some (setV zs pr kk), some (.lst oddL), x3, x4, x5, some (.tup (zs.map .str)), some (.int (i : Int)), x8, some (.lst (row.map .bl)), some (.lst ((meantL zs row).map .int)), some (.int (j : Int)), some (.str z), some (.int (s : Int)), x14, none, none, none, none] := by simp [e]
  rw [seq_nx b0]
  obtain ⟨y1, i1⟩ := in_step (ns := ns) (x3 := x3) (x4 := x4) (x5 := x5) (x14 := x14) (row := row) (i := i) (u := s - 1) S h s2 hm1 hn (by omega)
  obtain ⟨y2, i2⟩ := in_step (ns := ns) (x3 := x3) (x4 := x4) (x5 := x5) (x14 := y1) (row := row) (i := i) (u := s) S h s2 hm1 hn (Nat.le_refl _)
  have hc : ((s : Int) - 1) = ((s - 1 : Nat) : Int) := by omega
  refine ⟨some (.int (s : Int)), some (.int (s : Int)), y2, ?_⟩
  have it : (pItT (pTup (pCons (pOp pSub (pVar 13) (pC (.int 1))) (pCons (pVar 13) pNil)))) [some (.scr ns), some (setV zs pr kk), some (.lst oddL), x3, x4, x5, some (.tup (zs.map .str)), some (.int (i : Int)), x8, some (.lst (row.map .bl)), some (.lst ((meantL zs row).map .int)), some (.int (j : Int)), some (.str z), some (.int (s : Int)), x14, none, none, none, none] = .ok [.int ((s - 1 : Nat) : Int), .int (s : Int)] := by simp [hc]
  rw [pFor_ap, it, ofP_ok]
  simp only [pForL, hN_ap, List.set_cons_succ, List.set_cons_zero, i1, i2]

theorem st_15 (S : IsS zs pr kk) : ∃ x8' x11' x12' x13' x14', (pFor (pItET (pVar 6)) (hT (hsC (hN 11) (hsC (hN 12) hsN))) (pSeq (pSet 13 (pCall 2 p_sure_behind (pCons (pVar 1) (pCons (pVar 11) pNil))))
    (pFor (pItT (pTup (pCons (pOp pSub (pVar 13) (pC (.int 1))) (pCons (pVar 13) pNil)))) (hN 8) (pSeq (pSet 14 (pLc (pItT (pVar 6)) [18] (hN 18) (pBo (pOp pEq (pCall 2 p_law_ring (pCons (pVar 18) (pCons (pCl pMax (pCons (pC (.int 0)) (pCons (pVar 8) pNil))) pNil))) (pCall 2 p_law_ring (pCons (pVar 12) (pCons (pCl pMax (pCons (pC (.int 0)) (pCons (pVar 8) pNil))) pNil))))) (pVar 18)))
    (pIfS (pBo (pOp pNe (pOp pEq (pCl pLen (pCons (pVar 14) pNil)) (pC (.int 1))) (pOp pEq (pVar 8) (pVar 13)))) (pRet (pC (.bl false))) pNx))))) [some (.scr ns), some (setV zs pr kk), some (.lst oddL), x3, x4, x5, some (.tup (zs.map .str)), some (.int (i : Int)), some (.int (tt : Int)), some (.lst (row.map .bl)), some (.lst ((meantL zs row).map .int)), none, none, none, none, none, none, none, none] = .nx [some (.scr ns), some (setV zs pr kk), some (.lst oddL), x3, x4, x5, some (.tup (zs.map .str)), some (.int (i : Int)), x8', some (.lst (row.map .bl)), some (.lst ((meantL zs row).map .int)), x11', x12', x13', x14', none, none, none, none] := by
  obtain ⟨σ', e, x8', x11', x12', x13', x14', rfl⟩ := for_inv (fun p : Str × Nat => PV.tup [.int (p.2 : Int), .str p.1]) (g := (hT (hsC (hN 11) (hsC (hN 12) hsN)))) (b := (pSeq (pSet 13 (pCall 2 p_sure_behind (pCons (pVar 1) (pCons (pVar 11) pNil))))
    (pFor (pItT (pTup (pCons (pOp pSub (pVar 13) (pC (.int 1))) (pCons (pVar 13) pNil)))) (hN 8) (pSeq (pSet 14 (pLc (pItT (pVar 6)) [18] (hN 18) (pBo (pOp pEq (pCall 2 p_law_ring (pCons (pVar 18) (pCons (pCl pMax (pCons (pC (.int 0)) (pCons (pVar 8) pNil))) pNil))) (pCall 2 p_law_ring (pCons (pVar 12) (pCons (pCl pMax (pCons (pC (.int 0)) (pCons (pVar 8) pNil))) pNil))))) (pVar 18)))
    (pIfS (pBo (pOp pNe (pOp pEq (pCl pLen (pCons (pVar 14) pNil)) (pC (.int 1))) (pOp pEq (pVar 8) (pVar 13)))) (pRet (pC (.bl false))) pNx))))) (fun l σ => ∃ x8 x11 x12 x13 x14, σ = [some (.scr ns), some (setV zs pr kk), some (.lst oddL), x3, x4, x5, some (.tup (zs.map .str)), some (.int (i : Int)), x8, some (.lst (row.map .bl)), some (.lst ((meantL zs row).map .int)), x11, x12, x13, x14, none, none, none, none]) zs.zipIdx [] [some (.scr ns), some (setV zs pr kk), some (.lst oddL), x3, x4, x5, some (.tup (zs.map .str)), some (.int (i : Int)), some (.int (tt : Int)), some (.lst (row.map .bl)), some (.lst ((meantL zs row).map .int)), none, none, none, none, none, none, none, none] ⟨_, none, none, none, none, rfl⟩
    (fun l p r σ hp ⟨x8, x11, x12, x13, x14, hs⟩ => by
      subst hs
      obtain ⟨z, j⟩ := p
      have hz : zs[j]? = some z := by
        have hp' : zs.zipIdx = l ++ (z, j) :: r := hp
        have hm : (z, j) ∈ zs.zipIdx := by rw [hp']; simp
        obtain ⟨k, hk⟩ := List.mem_iff_getElem?.mp hm
        rw [List.getElem?_zipIdx] at hk
        cases e : zs[k]? with
        | none => rw [e] at hk; cases hk
        | some y =>
          rw [e] at hk
          simp at hk
          obtain ⟨rfl, rfl⟩ := hk
          exact e
      obtain ⟨y8, y13, y14, e⟩ := turn (ns := ns) (x3 := x3) (x4 := x4) (x5 := x5) (x8 := x8) (x13 := x13) (x14 := x14) (row := row) (i := i) S hz
      exact ⟨_, _, rfl, .inl e, y8, some (.int (j : Int)), some (.str z), y13, y14, rfl⟩)
  refine ⟨x8', x11', x12', x13', x14', ?_⟩
  have he := enum_strs zs
  simp only [pFor_ap, pItET_ap, pVar_ap, List.getElem?_cons_succ, List.getElem?_cons_zero, prb_ok, he, ofP_ok]
  exact e
end

theorem at_mem {α : Type} {l : List α} {j : Int} (h0 : 0 ≤ j) (h1 : j < (l.length : Int)) : ∃ v, atI l j = some v ∧ v ∈ l := by
  obtain ⟨k, rfl⟩ : ∃ k : Nat, j = k := ⟨j.toNat, by omega⟩
  have hk : k < l.length := by omega
  exact ⟨l[k], atI_nat (by simp [hk]), List.getElem_mem hk⟩
theorem plainP (ns : List Int) : p_law [.scr ns] = .ok (.bl true) := by
  obtain ⟨zs, pr, kk, e5, S⟩ := q_setting (sdv (cv ns 0) 0)
  have hlo := S.lo
  have hhi := S.hi
  rw [p_law, fnP_run (by rfl)]
  refine run_nx (σ1 := [some (.scr ns), some (setV zs pr kk), none, none, none, none, none, none, none, none, none, none, none, none, none, none, none, none, none]) (by simp [q_cell, q_seed, e5]) ?_
  refine run_nx (σ1 := [some (.scr ns), some (setV zs pr kk), some (.lst (oddL.take 13)), none, none, none, none, none, none, none, none, none, none, none, none, none, none, none, none]) (by rfl) ?_
  refine run_nx (σ1 := [some (.scr ns), some (setV zs pr kk), some (.lst oddL), none, none, none, none, none, none, none, none, none, none, none, none, none, none, none, none]) (by rfl) ?_
  obtain ⟨a, ha⟩ : ∃ a, cv ns 1 % 3 = a := ⟨_, rfl⟩
  have a0 := mod_lo (i := cv ns 1) (p := 3) (by decide)
  have a1 := mod_hi (i := cv ns 1) (p := 3) (by decide)
  rw [ha] at a0 a1
  refine run_nx (σ1 := [some (.scr ns), some (setV zs pr kk), some (.lst oddL), some (.int a), none, none, none, none, none, none, none, none, none, none, none, none, none, none, none]) (by simp [q_cell, ha]) ?_
  obtain ⟨v, hv1, hv2⟩ := at_mem (l := oddL) (j := cv ns 2 % 15) (mod_lo (by decide)) (mod_hi (by decide))
  obtain ⟨o1, e4, ho1⟩ := st_4 S (a := a) (by omega) hv2 rfl hv1
  refine run_nx e4 ?_
  obtain ⟨o2, e5, ho2⟩ := st_5 (ns := ns) (zs := zs) (pr := pr) (kk := kk) (x3 := some (.int a)) ho1
  refine run_nx e5 ?_
  obtain ⟨g, g1, g2, g3⟩ := word_0 ho2
  refine run_nx (σ1 := [some (.scr ns), some (setV zs pr kk), some (.lst oddL), some (.int a), some o2, some (.bl g), none, none, none, none, none, none, none, none, none, none, none, none, none]) (by simp [g2]) ?_
  refine run_nx (st_7 S g1 g3) ?_
  have hp : (0:Int) < (zs.length : Int) := by omega
  obtain ⟨i, hi⟩ : ∃ i : Nat, cv ns 4 % (zs.length : Int) = (i : Int) := ⟨(cv ns 4 % (zs.length : Int)).toNat, by have := mod_lo (i := cv ns 4) hp; omega⟩
  have hil : i < zs.length := by have := mod_hi (i := cv ns 4) hp; omega
  obtain ⟨x, hx⟩ : ∃ x, zs[i]? = some x := ⟨zs[i], by simp [hil]⟩
  have hC : IsC x := S.cd _ (List.mem_of_getElem? hx)
  have hax : atI (zs.map PV.str) (i : Int) = some (.str x) := atI_nat (by simp [hx])
  refine run_nx (σ1 := [some (.scr ns), some (setV zs pr kk), some (.lst oddL), some (.int a), some o2, some (.bl g), some (.tup (zs.map .str)), some (.int (i : Int)), none, none, none, none, none, none, none, none, none, none, none]) (by simp [q_cell, setV, hi, show 0 < zs.length by omega]) ?_
  obtain ⟨tt, htt, ht4⟩ : ∃ tt : Nat, atI [PV.int (cv ns 5 % 30), PV.int (cv ns 5 % 401)] (cv ns 6 % 2) = some (.int (tt : Int)) ∧ tt ≤ 400 := by
    have b0 := mod_lo (i := cv ns 6) (p := 2) (by decide)
    have b1 := mod_hi (i := cv ns 6) (p := 2) (by decide)
    have c0 := mod_lo (i := cv ns 5) (p := 30) (by decide)
    have c1 := mod_hi (i := cv ns 5) (p := 30) (by decide)
    have d0 := mod_lo (i := cv ns 5) (p := 401) (by decide)
    have d1 := mod_hi (i := cv ns 5) (p := 401) (by decide)
    have : cv ns 6 % 2 = 0 ∨ cv ns 6 % 2 = 1 := by omega
    rcases this with e | e
    · exact ⟨(cv ns 5 % 30).toNat, by rw [e, atI_c0]; congr 2; omega, by omega⟩
    · exact ⟨(cv ns 5 % 401).toNat, by rw [e, atI_c1]; congr 2; omega, by omega⟩
  refine run_nx (σ1 := [some (.scr ns), some (setV zs pr kk), some (.lst oddL), some (.int a), some o2, some (.bl g), some (.tup (zs.map .str)), some (.int (i : Int)), some (.int (tt : Int)), none, none, none, none, none, none, none, none, none, none]) (by simp [q_cell, htt]) ?_
  refine run_nx (σ1 := [some (.scr ns), some (setV zs pr kk), some (.lst oddL), some (.int a), some o2, some (.bl g), some (.tup (zs.map .str)), some (.int (i : Int)), some (.int (tt : Int)), some (.lst ((rgB x tt).map .bl)), none, none, none, none, none, none, none, none, none]) (by simp [hax, w_law_ring hC (show tt ≤ 1000 by omega)]) ?_
  refine run_nx (σ1 := [some (.scr ns), some (setV zs pr kk), some (.lst oddL), some (.int a), some o2, some (.bl g), some (.tup (zs.map .str)), some (.int (i : Int)), some (.int (tt : Int)), some (.lst ((rgB x tt).map .bl)), none, none, none, none, none, none, none, none, none]) (by simp [hax, w_ring hC ht4, ne_bs]) ?_
  obtain ⟨x3, row, e12, hr⟩ := st_12 (ns := ns) (zs := zs) (pr := pr) (kk := kk) (x3 := some (.int a)) (x4 := some o2) (x5 := some (.bl g)) (i := i) (row := rgB x tt) rgB_len ht4
  refine run_nx e12 ?_
  refine run_nx (st_13 S hr ht4) ?_
  refine run_nx (st_14 S hx (by omega)) ?_
  obtain ⟨x8, x11, x12, x13, x14, e15⟩ := st_15 (ns := ns) (x3 := x3) (x4 := some o2) (x5 := some (.bl g)) (row := row) (i := i) (tt := tt) S
  refine run_nx e15 ?_
  obtain ⟨bd, hb1, hb2⟩ := at_mem (l := badL) (j := cv ns 9 % 7) (mod_lo (by decide)) (mod_hi (by decide))
  have hbl : (pLst (pCons (pC .non) (pCons (pTup (pCons (pC (.bl true)) pNil)) (pCons (pLst (pCons (pC (.int 1)) pNil)) (pCons (pOp pMul (pLst (pCons (pC (.bl true)) pNil)) (pC (.int 401))) (pCons (pC (.str "")) (pCons (pLst (pCons (pC .non) pNil)) (pCons (pC (.int 7)) pNil)))))))) [some (.scr ns), some (setV zs pr kk), some (.lst oddL), x3, some o2, some (.bl g), some (.tup (zs.map .str)), some (.int (i : Int)), x8, some (.lst (row.map .bl)), some (.lst ((meantL zs row).map .int)), x11, x12, x13, x14, none, none, none, none] = .ok (.lst badL) := by kernel_rfl
  refine run_nx (σ1 := [some (.scr ns), some (setV zs pr kk), some (.lst oddL), x3, some o2, some (.bl g), some (.tup (zs.map .str)), some (.int (i : Int)), x8, some (.lst (row.map .bl)), some (.lst ((meantL zs row).map .int)), x11, x12, x13, x14, some bd, none, none, none]) (by
    rw [pSet_ap, pOp_ap (op := pIx), hbl]
    simp [q_cell, hb1]) ?_
  obtain ⟨m, hm1, hm2⟩ := at_mem (l := manyL) (j := cv ns 10 % 4) (mod_lo (by decide)) (mod_hi (by decide))
  have hm3 : atI (manyL.map HV.v) (cv ns 10 % 4) = some m.v := by
    have q0 := mod_lo (i := cv ns 10) (p := 4) (by decide)
    have q1 := mod_hi (i := cv ns 10) (p := 4) (by decide)
    generalize cv ns 10 % 4 = q at hm1 q0 q1
    have : q = 0 ∨ q = 1 ∨ q = 2 ∨ q = 3 := by omega
    rcases this with rfl | rfl | rfl | rfl <;> (cases hm1; rfl)
  have hml : (pLst (pCons (pNeg (pC (.int 1))) (pCons (pC (.int 401)) (pCons (pC .non) (pCons (pC (.bl true)) pNil))))) [some (.scr ns), some (setV zs pr kk), some (.lst oddL), x3, some o2, some (.bl g), some (.tup (zs.map .str)), some (.int (i : Int)), x8, some (.lst (row.map .bl)), some (.lst ((meantL zs row).map .int)), x11, x12, x13, x14, some bd, none, none, none] = .ok (.lst (manyL.map HV.v)) := by kernel_rfl
  refine run_nx (σ1 := [some (.scr ns), some (setV zs pr kk), some (.lst oddL), x3, some o2, some (.bl g), some (.tup (zs.map .str)), some (.int (i : Int)), x8, some (.lst (row.map .bl)), some (.lst ((meantL zs row).map .int)), x11, x12, x13, x14, some bd, some m.v, none, none]) (by
    rw [pSet_ap, pOp_ap (op := pIx), hml]
    simp [q_cell, hm3]) ?_
  have hmv : m.v ∈ manyL.map HV.v := List.mem_map.mpr ⟨m, hm2, rfl⟩
  have v1 := isOk_ok (w_1 bd hb2)
  have v2 := w_2 S bd hb2
  have v3 := isOk_ok (w_3 m.v hmv)
  have v4 := isOk_ok (w_4 m.v hmv)
  have v5 := isOk_ok (w_5 m.v hmv)
  have v6 := w_6 S m hm2
  refine run_nx (σ1 := [some (.scr ns), some (setV zs pr kk), some (.lst oddL), x3, some o2, some (.bl g), some (.tup (zs.map .str)), some (.int (i : Int)), x8, some (.lst (row.map .bl)), some (.lst ((meantL zs row).map .int)), x11, x12, x13, x14, some bd, some m.v, some (.lst [.str "setting", .str "code", .str "code"]), none]) (by simp [v1, v2, v3]) ?_
  refine run_nx (σ1 := [some (.scr ns), some (setV zs pr kk), some (.lst oddL), x3, some o2, some (.bl g), some (.tup (zs.map .str)), some (.int (i : Int)), x8, some (.lst (row.map .bl)), some (.lst ((meantL zs row).map .int)), x11, x12, x13, x14, some bd, some m.v, some (.lst [.str "setting", .str "code", .str "code", .str "count", .str "setting", .str "house"]), none]) (by simp [v4, v5, v6]) ?_
  kernel_rfl
theorem plain (ns : List Int) (_ : ns.length ≤ 63) : ∃ h', m_law [.scr ns] [] = .ok (.bl true) h' := plain_of cx_law (plainP ns)
end G9


set_option Elab.async false
set_option linter.all false
set_option maxRecDepth 100000
set_option maxHeartbeats 0
open PySem PySem.W PySem.Calls PyProof.Rows in
set_option maxRecDepth 100000 in
set_option maxHeartbeats 0 in
theorem PySem.Challenge.cw_ringhouses_k02_codes_holds : PySem.Challenge.rw_ringhouses_k02_codes.Holds := by
  w_on; o_law
  refine HandSHeadRun.head_any (r := OpenLaw.row PySem.Challenge.rw_ringhouses_k02_codes) (q := view (OpenLaw.row PySem.Challenge.rw_ringhouses_k02_codes).prog [58]) (H := G9.hk) (ob := G9.ob) (M := 20000) (loose := G9.loose) (d := HandSHeadRun.topDef (OpenLaw.row PySem.Challenge.rw_ringhouses_k02_codes).prog 58) (kwd := []) G9.ob_eq
    (by kernel_rfl) (fun s => by kernel_rfl) G9.run (by kernel_rfl) (by kernel_rfl) (by kernel_rfl) (by rfl) (by first | assumption | decide +kernel) (by decide +kernel) ⟨rfl, rfl, rfl, rfl, rfl, by decide +kernel⟩ ?hw ?hc
  case hw => w_witness2
  case hc =>
    refine L2.walk_ofE (l := PySem.Challenge.rw_ringhouses_k02_codes) (n := 63) (k := 8) (x := "script") (CX := L2.CX0) rfl (by decide) (by kernel_rfl) ⟨rfl, by decide, by decide⟩ ?F (fun _ _ _ _ z => z)
    intro w mg fa h Y G hmg0
    obtain ⟨K, KX, c⟩ := Y
    have hmg : mg ("law" : PySem.Str) = some (.ref fa) := by
      have e : (HandSHeadRun.topDef (OpenLaw.row PySem.Challenge.rw_ringhouses_k02_codes).prog 58).name = ("law" : PySem.Str) := by kernel_rfl
      rw [← e]
      exact hmg0
    have T := G9.ctx_of KX G c
    obtain ⟨fd, F⟩ := T.f_law
    have e := hmg.symm.trans T.g_law
    cases e
    have b := L2.FunD.bindsA (ps := ["script"]) F fun _ _ _ _ _ _ us hl => match us, hl with | [_], _ => rfl
    exact ⟨K, fd, G9.spLaw K G9.m_law, KX, fun s v => b s [v] rfl, fun H a ns hl hO hS => G9.law_sp hO hS (G9.plain ns hl), fun base _ _ => G9.law_ok (G9.okf_law T F)⟩

