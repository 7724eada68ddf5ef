import PyProof.Rows.All
import Wide.All
import OpenK.AllK
import Wide.FinOn
import HandS.ForMost
import HandS.IsInst
import HandS.Style
import HandS.SortInts
import PySem.Challenge.RW_callwright_k35_whole_counts_of_packets
set_option Elab.async false
set_option linter.all false
set_option maxRecDepth 100000
set_option maxHeartbeats 4000000
/-! L3a: a known heap as a list of entries; readings stepped by lemmas. My own layer over HandS. -/
namespace L3
open PySem L2

/-- n: made here; s: handed in, to be changed; r: handed in, only read -/
inductive Fl where | n | s | r
  deriving DecidableEq
abbrev Ent := Addr × Fl × HO
def isT : HO → Bool
  | .tup _ => true
  | _ => false
abbrev TFs := List (Hp → Prop)
def Keeps (H H' : Hp) : Prop := ∀ b xs, H b = some (.tup xs) → H' b = some (.tup xs)
def Stab (φ : Hp → Prop) : Prop := ∀ H H', Keeps H H' → φ H → φ H'

structure Sh (H0 : Hp) (S : List Addr) (H : Hp) (L : List Ent) (T : TFs) : Prop where
  at_ : ∀ e ∈ L, H e.1 = some e.2.2
  nd : (L.map fun e => e.1).Nodup
  fr : ∀ b o, b ∉ S → H0 b = some o → H b = some o
  lv : ∀ b, H b = none → H0 b = none
  tp : Keeps H0 H
  nw : ∀ e ∈ L, e.2.1 = Fl.n → H0 e.1 = none
  ow : ∀ e ∈ L, e.2.1 = Fl.s → e.1 ∈ S
  tf : ∀ φ ∈ T, φ H ∧ Stab φ

def Go (H0 : Hp) (S : List Addr) (L : List Ent) (T : TFs) (g : Hp → Prop) : Prop := ∀ H, Sh H0 S H L T → g H

inductive At : List Ent → Addr → HO → Prop where
  | here {a f o L} : At ((a, f, o) :: L) a o
  | there {e a o L} : At L a o → At (e :: L) a o
inductive Upd : List Ent → Addr → HO → HO → List Ent → Prop where
  | here {a f o o' L} (hf : decide (f = Fl.r) = false) (ht : isT o = false) : Upd ((a, f, o) :: L) a o o' ((a, f, o') :: L)
  | there {e a o o' L L'} : Upd L a o o' L' → Upd (e :: L) a o o' (e :: L')
inductive In1 {α : Type _} : List α → α → Prop where
  | here {a L} : In1 (a :: L) a
  | there {e a L} : In1 L a → In1 (e :: L) a
theorem In1.mem {α : Type _} {L : List α} {a : α} (h : In1 L a) : a ∈ L := by
  induction h with
  | here => exact List.mem_cons_self
  | there _ ih => exact List.mem_cons_of_mem _ ih
theorem At.mem {L : List Ent} {a : Addr} {o : HO} (h : At L a o) : ∃ f, (a, f, o) ∈ L := by
  induction h with
  | here => exact ⟨_, List.mem_cons_self⟩
  | there _ ih => obtain ⟨f, m⟩ := ih; exact ⟨f, List.mem_cons_of_mem _ m⟩
theorem Upd.mem {L L' : List Ent} {a : Addr} {o o' : HO} (h : Upd L a o o' L') : ∃ f, f ≠ Fl.r ∧ isT o = false ∧ (a, f, o) ∈ L ∧ (a, f, o') ∈ L' := by
  induction h with
  | here hf ht => exact ⟨_, of_decide_eq_false hf, ht, List.mem_cons_self, List.mem_cons_self⟩
  | there _ ih => obtain ⟨f, h1, h2, m, m'⟩ := ih; exact ⟨f, h1, h2, List.mem_cons_of_mem _ m, List.mem_cons_of_mem _ m'⟩
theorem Upd.dom {L L' : List Ent} {a : Addr} {o o' : HO} (h : Upd L a o o' L') : L'.map (fun e => e.1) = L.map (fun e => e.1) := by
  induction h with
  | here => rfl
  | there _ ih => simp only [List.map_cons, ih]
theorem Upd.old {L L' : List Ent} {a : Addr} {o o' : HO} (h : Upd L a o o' L') (nd : (L.map fun e => e.1).Nodup) : ∀ e ∈ L', (e.1 = a ∧ e.2.2 = o' ∧ (a, e.2.1, o) ∈ L) ∨ (e.1 ≠ a ∧ e ∈ L) := by
  induction h with
  | @here a f o o' L hf ht =>
    intro e he
    rcases List.mem_cons.mp he with rfl | he
    · exact .inl ⟨rfl, rfl, List.mem_cons_self⟩
    · refine .inr ⟨fun q => ?_, List.mem_cons_of_mem _ he⟩
      have := (List.nodup_cons.mp nd).1
      exact this (List.mem_map.mpr ⟨e, he, q⟩)
  | @there e0 a o o' L L' u ih =>
    intro e he
    have nd' : (e0.1 :: L.map fun e => e.1).Nodup := nd
    obtain ⟨n1, n2⟩ := List.nodup_cons.mp nd'
    rcases List.mem_cons.mp he with rfl | he
    · obtain ⟨f, _, _, m, _⟩ := u.mem
      exact .inr ⟨fun q => n1 (List.mem_map.mpr ⟨_, m, q.symm⟩), List.mem_cons_self⟩
    · rcases ih n2 e he with ⟨h1, h2, h3⟩ | ⟨h1, h2⟩
      · exact .inl ⟨h1, h2, List.mem_cons_of_mem _ h3⟩
      · exact .inr ⟨h1, List.mem_cons_of_mem _ h2⟩

/-- what a call does: W changed, N made, all else kept -/
structure Eff (H H' : Hp) (W N : List (Addr × HO)) : Prop where
  ch : ∀ b o, b ∉ W.map (fun p => p.1) → H b = some o → H' b = some o
  lv : ∀ b, H' b = none → H b = none
  tp : Keeps H H'
  wr : ∀ p ∈ W, H' p.1 = some p.2
  nw : ∀ p ∈ N, H p.1 = none ∧ H' p.1 = some p.2
  nd : (N.map fun p => p.1).Nodup

section
variable {H0 H H' : Hp} {S : List Addr} {L L' : List Ent} {T T' : TFs} {a p : Addr} {o o' : HO}
theorem Sh.get (h : Sh H0 S H L T) (m : At L a o) : H a = some o := by
  obtain ⟨f, m⟩ := m.mem
  exact h.at_ _ m
theorem Sh.getU (h : Sh H0 S H L T) (u : Upd L a o o' L') : H a = some o := by
  obtain ⟨f, _, _, m, _⟩ := u.mem
  exact h.at_ _ m
theorem Sh.tup {φ : Hp → Prop} (h : Sh H0 S H L T) (m : In1 T φ) : φ H := (h.tf _ m.mem).1
theorem Sh.start : Sh H [] H [] [] := ⟨fun _ m => (nomatch m), List.nodup_nil, fun _ _ _ e => e, fun _ e => e, fun _ _ e => e, fun _ m => (nomatch m), fun _ m => (nomatch m), fun _ m => (nomatch m)⟩
/-- a read argument -/
theorem Sh.arg (h : Sh H S H L T) (e : H a = some o) (ne : a ∉ L.map fun e => e.1) : Sh H S H ((a, .r, o) :: L) T where
  at_ := fun x m => by
    rcases List.mem_cons.mp m with rfl | m
    · exact e
    · exact h.at_ x m
  nd := List.nodup_cons.mpr ⟨ne, h.nd⟩
  fr := h.fr
  lv := h.lv
  tp := h.tp
  nw := fun x m q => by
    rcases List.mem_cons.mp m with rfl | m
    · cases q
    · exact h.nw x m q
  ow := fun x m q => by
    rcases List.mem_cons.mp m with rfl | m
    · cases q
    · exact h.ow x m q
  tf := h.tf
/-- a second argument that is changed -/
theorem Sh.argS (h : Sh H S H L T) (e : H a = some o) (ne : a ∉ L.map fun e => e.1) : Sh H (a :: S) H ((a, .s, o) :: L) T where
  at_ := fun x m => by
    rcases List.mem_cons.mp m with rfl | m
    · exact e
    · exact h.at_ x m
  nd := List.nodup_cons.mpr ⟨ne, h.nd⟩
  fr := fun b o hb q => q
  lv := h.lv
  tp := h.tp
  nw := fun x m q => by
    rcases List.mem_cons.mp m with rfl | m
    · cases q
    · exact h.nw x m q
  ow := fun x m q => by
    rcases List.mem_cons.mp m with rfl | m
    · exact List.mem_cons_self
    · exact List.mem_cons_of_mem _ (h.ow x m q)
  tf := h.tf
theorem Sh.fact {φ : Hp → Prop} (h : Sh H0 S H L T) (q : φ H) (s : Stab φ) : Sh H0 S H L (φ :: T) :=
  ⟨h.at_, h.nd, h.fr, h.lv, h.tp, h.nw, h.ow, fun ψ m => by
    rcases List.mem_cons.mp m with rfl | m
    · exact ⟨q, s⟩
    · exact h.tf ψ m⟩
theorem Sh.alloc (h : Sh H0 S H L T) (hp : H p = none) (o : HO) : Sh H0 S (upd H p o) ((p, .n, o) :: L) T where
  at_ := fun x m => by
    rcases List.mem_cons.mp m with rfl | m
    · exact upd_same
    · rw [upd_ne (ne_of_none (h.at_ x m) hp)]; exact h.at_ x m
  nd := List.nodup_cons.mpr ⟨fun q => (by
    obtain ⟨x, m, e⟩ := List.mem_map.mp q
    have := h.at_ x m
    rw [e, hp] at this; cases this), h.nd⟩
  fr := fun b u hb e => by rw [upd_ne (ne_of_none (h.fr b u hb e) hp)]; exact h.fr b u hb e
  lv := fun b e => h.lv b (by
    by_cases q : b = p
    · subst q; exact hp
    · rw [upd_ne q] at e; exact e)
  tp := fun b xs e => by rw [upd_ne (ne_of_none (h.tp b xs e) hp)]; exact h.tp b xs e
  nw := fun x m q => by
    rcases List.mem_cons.mp m with rfl | m
    · exact h.lv _ hp
    · exact h.nw x m q
  ow := fun x m q => by
    rcases List.mem_cons.mp m with rfl | m
    · cases q
    · exact h.ow x m q
  tf := fun φ m => ⟨(h.tf φ m).2 _ _ (fun b xs e => by rw [upd_ne (ne_of_none e hp)]; exact e) (h.tf φ m).1, (h.tf φ m).2⟩
theorem Sh.start1 (e : H a = some o) : Sh H [a] H [(a, .s, o)] [] := Sh.argS Sh.start e (by simp)
def TF (p : Addr) (xs : List V) : Hp → Prop := fun H => H p = some (.tup xs)
theorem TF.stab {p : Addr} {xs : List V} : Stab (TF p xs) := fun _ _ k e => k _ _ e
/-- a new tuple: a fact alone -/
theorem Sh.allocT (h : Sh H0 S H L T) (hp : H p = none) (xs : List V) : Sh H0 S (upd H p (.tup xs)) L (TF p xs :: T) := by
  have k := h.alloc hp (.tup xs)
  refine Sh.fact ⟨fun x m => k.at_ x (List.mem_cons_of_mem _ m), (List.nodup_cons.mp k.nd).2, k.fr, k.lv, k.tp, fun x m => k.nw x (List.mem_cons_of_mem _ m), fun x m => k.ow x (List.mem_cons_of_mem _ m), k.tf⟩ upd_same TF.stab
theorem Sh.write (h : Sh H0 S H L T) (u : Upd L a o o' L') : Sh H0 S (upd H a o') L' T := by
  have nt : ∀ b xs, H b = some (.tup xs) → b ≠ a := fun b xs e q => by
    obtain ⟨f, _, ht, m, _⟩ := u.mem
    have := h.at_ _ m
    rw [q, this] at e; cases e; cases ht
  refine ⟨fun x m => ?_, by rw [u.dom]; exact h.nd, fun b w hb e => ?_, fun b e => h.lv b ?_, fun b xs e => ?_, fun x m q => ?_, fun x m q => ?_, fun φ m => ⟨(h.tf φ m).2 _ _ (fun b xs e => by rw [upd_ne (nt b xs e)]; exact e) (h.tf φ m).1, (h.tf φ m).2⟩⟩
  · rcases u.old h.nd x m with ⟨h1, h2, h3⟩ | ⟨h1, h2⟩
    · rw [h1, h2]; exact upd_same
    · rw [upd_ne h1]; exact h.at_ x h2
  · have nb : b ≠ a := fun q => by
      obtain ⟨f, hf, _, m, _⟩ := u.mem
      cases f with
      | n => have := h.nw _ m rfl; rw [← q] at this; rw [this] at e; cases e
      | s => exact hb (q ▸ h.ow _ m rfl)
      | r => exact hf rfl
    rw [upd_ne nb]; exact h.fr b w hb e
  · by_cases q : b = a
    · subst q; rw [upd_same] at e; cases e
    · rw [upd_ne q] at e; exact e
  · have := h.tp b xs e
    rw [upd_ne (nt b xs this)]; exact this
  · rcases u.old h.nd x m with ⟨h1, h2, h3⟩ | ⟨h1, h2⟩
    · rw [h1]; exact h.nw _ h3 q
    · exact h.nw x h2 q
  · rcases u.old h.nd x m with ⟨h1, h2, h3⟩ | ⟨h1, h2⟩
    · rw [h1]; exact h.ow _ h3 q
    · exact h.ow x h2 q
/-- behind a call that changes nothing -/
theorem Sh.eff0 (h : Sh H0 S H L T) (e : Eff H H' [] []) : Sh H0 S H' L T :=
  ⟨fun x m => e.ch _ _ (by simp) (h.at_ x m), h.nd, fun b o hb q => e.ch _ _ (by simp) (h.fr b o hb q), fun b q => h.lv b (e.lv b q), fun b xs q => e.tp b xs (h.tp b xs q), h.nw, h.ow, fun φ m => ⟨(h.tf φ m).2 _ _ e.tp (h.tf φ m).1, (h.tf φ m).2⟩⟩
theorem Sh.eff1 (h : Sh H0 S H L T) (u : Upd L a o o' L') (e : Eff H H' [(a, o')] []) : Sh H0 S H' L' T := by
  have ne : ∀ b, b ≠ a → b ∉ ([(a, o')] : List (Addr × HO)).map (fun p => p.1) := fun b q m => by
    simp at m; exact q m
  refine ⟨fun x m => ?_, by rw [u.dom]; exact h.nd, fun b w hb q => ?_, fun b q => h.lv b (e.lv b q), fun b xs q => e.tp b xs (h.tp b xs q), (h.write u).nw, (h.write u).ow, fun φ m => ⟨(h.tf φ m).2 _ _ e.tp (h.tf φ m).1, (h.tf φ m).2⟩⟩
  · rcases u.old h.nd x m with ⟨h1, h2, h3⟩ | ⟨h1, h2⟩
    · rw [h1, h2]; exact e.wr (a, o') (by simp)
    · exact e.ch _ _ (ne _ h1) (h.at_ x h2)
  · have nb : b ≠ a := fun z => by
      obtain ⟨f, hf, _, m, _⟩ := u.mem
      cases f with
      | n => have := h.nw _ m rfl; rw [← z] at this; rw [this] at q; cases q
      | s => exact hb (z ▸ h.ow _ m rfl)
      | r => exact hf rfl
    exact e.ch _ _ (ne _ nb) (h.fr b w hb q)
theorem Eff.split {W N : List (Addr × HO)} {q : Addr × HO} (e : Eff H H' W (q :: N)) : Eff H H' W N ∧ H q.1 = none ∧ H' q.1 = some q.2 ∧ q.1 ∉ N.map (fun p => p.1) :=
  ⟨⟨e.ch, e.lv, e.tp, e.wr, fun p m => e.nw p (List.mem_cons_of_mem _ m), (List.nodup_cons.mp e.nd).2⟩, (e.nw q List.mem_cons_self).1, (e.nw q List.mem_cons_self).2, (List.nodup_cons.mp e.nd).1⟩
theorem Sh.addNew (h : Sh H0 S H L T) (hp : H0 p = none) (hq : H p = some o) (ne : p ∉ L.map fun e => e.1) : Sh H0 S H ((p, .n, o) :: L) T :=
  ⟨fun x m => by
    rcases List.mem_cons.mp m with rfl | m
    · exact hq
    · exact h.at_ x m, List.nodup_cons.mpr ⟨ne, h.nd⟩, h.fr, h.lv, h.tp, fun x m q => by
    rcases List.mem_cons.mp m with rfl | m
    · exact hp
    · exact h.nw x m q, fun x m q => by
    rcases List.mem_cons.mp m with rfl | m
    · cases q
    · exact h.ow x m q, h.tf⟩
theorem Sh.freshL (h : Sh H0 S H L T) (hp : H p = none) : p ∉ L.map fun e => e.1 := fun q => by
  obtain ⟨x, m, e⟩ := List.mem_map.mp q
  have := h.at_ x m
  rw [e, hp] at this; cases this
/-- one new object, nothing changed -/
theorem Sh.eff0n (h : Sh H0 S H L T) (e : Eff H H' [] [(p, o)]) : Sh H0 S H' ((p, .n, o) :: L) T := by
  obtain ⟨e', h1, h2, _⟩ := e.split
  exact (h.eff0 e').addNew (h.lv _ h1) h2 (h.freshL h1)
theorem Sh.eff0nn {q : Addr} {u : HO} (h : Sh H0 S H L T) (e : Eff H H' [] [(p, o), (q, u)]) : Sh H0 S H' ((p, .n, o) :: (q, .n, u) :: L) T := by
  obtain ⟨e', h1, h2, h3⟩ := e.split
  refine (h.eff0n e').addNew (h.lv _ h1) h2 fun m => ?_
  rcases List.mem_cons.mp m with z | z
  · exact h3 (by simp; exact z)
  · exact h.freshL h1 z
theorem Sh.eff1n (h : Sh H0 S H L T) (u : Upd L a o o' L') {w : HO} (e : Eff H H' [(a, o')] [(p, w)]) : Sh H0 S H' ((p, .n, w) :: L') T := by
  obtain ⟨e', h1, h2, _⟩ := e.split
  exact (h.eff1 u e').addNew (h.lv _ h1) h2 (by rw [u.dom]; exact h.freshL h1)

def Lk (H0 : Hp) (S : List Addr) (L : List Ent) (T : TFs) (p : Addr) (o : HO) : Prop := ∀ H, Sh H0 S H L T → H p = some o
theorem Lk.at {H0 : Hp} {S : List Addr} {L : List Ent} {T : TFs} {p : Addr} {o : HO} (m : At L p o) : Lk H0 S L T p o := fun _ s => s.get m
theorem Lk.tf {H0 : Hp} {S : List Addr} {L : List Ent} {T : TFs} {p : Addr} {xs : List V} (m : In1 T (TF p xs)) : Lk H0 S L T p (.tup xs) := fun _ s => s.tup m
theorem Lk.base {H0 : Hp} {S : List Addr} {L : List Ent} {T : TFs} {p : Addr} {o : HO} (e : H0 p = some o) (n : p ∉ S) : Lk H0 S L T p o := fun _ s => s.fr _ _ n e
theorem Lk.baseT {H0 : Hp} {S : List Addr} {L : List Ent} {T : TFs} {p : Addr} {xs : List V} (e : H0 p = some (.tup xs)) : Lk H0 S L T p (.tup xs) := fun _ s => s.tp _ _ e
/-! what a def hands back -/
theorem Sh.toEff0 (h : Sh H0 [] H L T) : Eff H0 H [] [] := ⟨fun b o _ e => h.fr b o (by simp) e, h.lv, h.tp, fun _ m => (nomatch m), fun _ m => (nomatch m), List.nodup_nil⟩
inductive AtF : List Ent → Addr → Fl → HO → Prop where
  | here {a f o L} : AtF ((a, f, o) :: L) a f o
  | there {e a f o L} : AtF L a f o → AtF (e :: L) a f o
theorem AtF.mem {L : List Ent} {a : Addr} {f : Fl} {o : HO} (h : AtF L a f o) : (a, f, o) ∈ L := by
  induction h with
  | here => exact List.mem_cons_self
  | there _ ih => exact List.mem_cons_of_mem _ ih
theorem Sh.toEff1 (h : Sh H0 [a] H L T) (m : At L a o) : Eff H0 H [(a, o)] [] := ⟨fun b o hb e => h.fr b o (by simpa using hb) e, h.lv, h.tp, fun p q => by
  have : p = (a, o) := by simpa using q
  subst this; exact h.get m, fun _ m => (nomatch m), List.nodup_nil⟩
theorem Eff.add {W N : List (Addr × HO)} (e : Eff H H' W N) (h1 : H p = none) (h2 : H' p = some o) (ne : p ∉ N.map fun q => q.1) : Eff H H' W ((p, o) :: N) :=
  ⟨e.ch, e.lv, e.tp, e.wr, fun q m => by
    rcases List.mem_cons.mp m with rfl | m
    · exact ⟨h1, h2⟩
    · exact e.nw q m, List.nodup_cons.mpr ⟨ne, e.nd⟩⟩
theorem Sh.toEff0n (h : Sh H0 [] H L T) (m : AtF L p .n o) : Eff H0 H [] [(p, o)] := h.toEff0.add (h.nw _ m.mem rfl) (h.at_ _ m.mem) (by simp)
theorem Sh.toEff0nn {q : Addr} {u : HO} {M : List Ent} (h : Sh H0 [] H ((p, .n, o) :: (q, .n, u) :: M) T) : Eff H0 H [] [(p, o), (q, u)] :=
  (h.toEff0n (.there .here)).add (h.nw _ List.mem_cons_self rfl) (h.at_ _ List.mem_cons_self) (fun m => (List.nodup_cons.mp h.nd).1 (by
    have : p = q := by simpa using m
    rw [this]; exact List.mem_cons_self))
theorem Sh.toEff1n {w : HO} (h : Sh H0 [a] H L T) (m : At L a o) (m' : AtF L p .n w) : Eff H0 H [(a, o)] [(p, w)] := (h.toEff1 m).add (h.nw _ m'.mem rfl) (h.at_ _ m'.mem) (by simp)

/-! fewer entries -/
end
inductive Sel : List Ent → List Nat → List Ent → Prop where
  | nil {L} : Sel L [] []
  | cons {L is L' e i} : L[i]? = some e → Sel L is L' → Sel L (i :: is) (e :: L')
section
variable {H0 H H' : Hp} {S : List Addr} {L L' : List Ent} {T T' : TFs}
theorem Sel.mem {is : List Nat} (s : Sel L is L') : ∀ e ∈ L', ∃ i ∈ is, L[i]? = some e := by
  induction s with
  | nil => intro e m; exact nomatch m
  | cons h _ ih =>
    intro e m
    rcases List.mem_cons.mp m with rfl | m
    · exact ⟨_, List.mem_cons_self, h⟩
    · obtain ⟨i, hi, q⟩ := ih e m
      exact ⟨i, List.mem_cons_of_mem _ hi, q⟩
theorem Sel.nd {is : List Nat} (s : Sel L is L') (hi : is.Nodup) (nd : (L.map fun e => e.1).Nodup) : (L'.map fun e => e.1).Nodup := by
  induction s with
  | nil => exact List.nodup_nil
  | @cons is L' e i h s ih =>
    obtain ⟨n1, n2⟩ := List.nodup_cons.mp hi
    refine List.nodup_cons.mpr ⟨fun m => ?_, ih n2⟩
    obtain ⟨x, hx, ex⟩ := List.mem_map.mp m
    obtain ⟨j, hj, q⟩ := s.mem x hx
    have e1 : (L.map fun e => e.1)[i]? = some e.1 := by rw [List.getElem?_map, h]; rfl
    have e2 : (L.map fun e => e.1)[j]? = some e.1 := by rw [List.getElem?_map, q]; exact congrArg some ex
    exact n1 ((nd_ix nd e1 e2) ▸ hj)
theorem Sh.sel (is : List Nat) (h : Sh H0 S H L T) (s : Sel L is L') (hi : is.Nodup) (ht : ∀ φ ∈ T', φ ∈ T) : Sh H0 S H L' T' where
  at_ := fun e m => by obtain ⟨i, _, q⟩ := s.mem e m; exact h.at_ e (List.mem_of_getElem? q)
  nd := s.nd hi h.nd
  fr := h.fr
  lv := h.lv
  tp := h.tp
  nw := fun e m => by obtain ⟨i, _, q⟩ := s.mem e m; exact h.nw e (List.mem_of_getElem? q)
  ow := fun e m => by obtain ⟨i, _, q⟩ := s.mem e m; exact h.ow e (List.mem_of_getElem? q)
  tf := fun φ m => h.tf φ (ht φ m)
theorem Sh.go {g : Hp → Prop} (h : Sh H0 S H L T) (k : Go H0 S L T g) : g H := k H h
end
end L3

/-! L3b: readings stepped. -/
namespace L3
open PySem L2
section
variable {H0 : Hp} {S : List Addr} {L L' : List Ent} {T : TFs} {σ : L2.St} {Q : VK} {K : PySem.W.Frag}


theorem g_var {i : Nat} {v : V} (e : σ[i]? = some (some v)) (h : Go H0 S L T fun H => Q v H) : Go H0 S L T fun H => tVar i σ H Q := fun H s => ⟨v, e, h H s⟩
theorem g_name {i : Nat} {v : V} {σ' : L2.St} {q : L2.St → Hp → Prop} (e : σ.set i (some v) = σ') (h : Go H0 S L T fun H => q σ' H) : Go H0 S L T fun H => gName i v σ H q := fun H s => by unfold gName; rw [e]; exact h H s
theorem sa0 {a : Option V} {v : V} : (a :: σ).set 0 (some v) = some v :: σ := rfl
theorem saS {a : Option V} {v : V} {i : Nat} {σ' : L2.St} (h : σ.set i (some v) = σ') : (a :: σ).set (i + 1) (some v) = a :: σ' := by rw [List.set_cons_succ, h]
theorem g_c {v : V} (h : Go H0 S L T fun H => Q v H) : Go H0 S L T fun H => tC v σ H Q := h
theorem g_op {r : R2} {ta tb : TE} (h : Go H0 S L T fun H => ta σ H fun x H1 => tb σ H1 fun y H2 => r x y H2 Q) : Go H0 S L T fun H => tOp r ta tb σ H Q := h
theorem g_un {r : V → Hp → VK → Prop} {ta : TE} (h : Go H0 S L T fun H => ta σ H fun x H1 => r x H1 Q) : Go H0 S L T fun H => tUn r ta σ H Q := h
theorem g_rI0 {g : Int → Int → V} {i j : Int} (h : Go H0 S L T fun H => Q (g i j) H) : Go H0 S L T fun H => rI0 g (.int i) (.int j) H Q := fun H s => ⟨i, j, rfl, rfl, h H s⟩
theorem g_rI {C : Int → Int → Prop} {g : Int → Int → V} {i j : Int} (c : C i j) (h : Go H0 S L T fun H => Q (g i j) H) : Go H0 S L T fun H => rI C g (.int i) (.int j) H Q := fun H s => ⟨i, j, rfl, rfl, c, h H s⟩
theorem g_rU {g : Int → V} {i : Int} (h : Go H0 S L T fun H => Q (g i) H) : Go H0 S L T fun H => rU g (.int i) H Q := fun H s => ⟨i, rfl, h H s⟩
theorem g_rAdd {i j : Int} (h : Go H0 S L T fun H => Q (.int (i + j)) H) : Go H0 S L T fun H => L2.rAdd (.int i) (.int j) H Q := fun H s => ⟨i, j, rfl, rfl, h H s⟩
theorem g_rSub {i j : Int} (h : Go H0 S L T fun H => Q (.int (i - j)) H) : Go H0 S L T fun H => L2.rSub (.int i) (.int j) H Q := fun H s => ⟨i, j, rfl, rfl, h H s⟩
/-! equality -/
theorem dI (i j : Int) : decide (V.int i = V.int j) = decide (i = j) := by
  by_cases h : i = j
  · subst h; simp
  · have : ¬ V.int i = V.int j := fun q => h (V.int.inj q)
    rw [decide_eq_false h, decide_eq_false this]
theorem dB (i j : Bool) : decide (V.bl i = V.bl j) = decide (i = j) := by
  by_cases h : i = j
  · subst h; simp
  · have : ¬ V.bl i = V.bl j := fun q => h (V.bl.inj q)
    rw [decide_eq_false h, decide_eq_false this]
theorem dS (i j : Str) : decide (V.str i = V.str j) = decide (i = j) := by
  by_cases h : i = j
  · subst h; simp
  · have : ¬ V.str i = V.str j := fun q => h (V.str.inj q)
    rw [decide_eq_false h, decide_eq_false this]
theorem g_eqI {i j : Int} (h : Go H0 S L T fun H => Q (.bl (decide (i = j))) H) : Go H0 S L T fun H => rEq (.int i) (.int j) H Q := fun H s => ⟨rfl, by rw [dI]; exact h H s⟩
theorem g_neI {i j : Int} (h : Go H0 S L T fun H => Q (.bl (!decide (i = j))) H) : Go H0 S L T fun H => rNe (.int i) (.int j) H Q := fun H s => ⟨rfl, by rw [dI]; exact h H s⟩
theorem g_eqB {i j : Bool} (h : Go H0 S L T fun H => Q (.bl (decide (i = j))) H) : Go H0 S L T fun H => rEq (.bl i) (.bl j) H Q := fun H s => ⟨rfl, by rw [dB]; exact h H s⟩
theorem g_neB {i j : Bool} (h : Go H0 S L T fun H => Q (.bl (!decide (i = j))) H) : Go H0 S L T fun H => rNe (.bl i) (.bl j) H Q := fun H s => ⟨rfl, by rw [dB]; exact h H s⟩
theorem g_eqS {i j : Str} (h : Go H0 S L T fun H => Q (.bl (decide (i = j))) H) : Go H0 S L T fun H => rEq (.str i) (.str j) H Q := fun H s => ⟨rfl, by rw [dS]; exact h H s⟩
theorem g_neS {i j : Str} (h : Go H0 S L T fun H => Q (.bl (!decide (i = j))) H) : Go H0 S L T fun H => rNe (.str i) (.str j) H Q := fun H s => ⟨rfl, by rw [dS]; exact h H s⟩
theorem g_eqV {x y : V} (c : scal x y = true) (h : Go H0 S L T fun H => Q (.bl (decide (x = y))) H) : Go H0 S L T fun H => rEq x y H Q := fun H s => ⟨c, h H s⟩
theorem g_neV {x y : V} (c : scal x y = true) (h : Go H0 S L T fun H => Q (.bl (!decide (x = y))) H) : Go H0 S L T fun H => rNe x y H Q := fun H s => ⟨c, h H s⟩
/-- None or an int -/
def oV : Option Int → V
  | none => .non
  | some i => .int i
theorem dO (o : Option Int) (i : Int) : decide (oV o = V.int i) = decide (o = some i) := by
  cases o with
  | none => simp [oV]
  | some j =>
    show decide (V.int j = V.int i) = _
    rw [dI]
    simp
theorem dON (o : Option Int) : decide (oV o = V.non) = decide (o = none) := by
  cases o with
  | none => rfl
  | some j => simp [oV]
theorem scO (o : Option Int) (i : Int) : scal (oV o) (.int i) = true := by cases o <;> rfl
theorem g_eqO {o : Option Int} {i : Int} (h : Go H0 S L T fun H => Q (.bl (decide (o = some i))) H) : Go H0 S L T fun H => rEq (oV o) (.int i) H Q := fun H s => ⟨scO o i, by rw [dO]; exact h H s⟩
theorem g_neO {o : Option Int} {i : Int} (h : Go H0 S L T fun H => Q (.bl (!decide (o = some i))) H) : Go H0 S L T fun H => rNe (oV o) (.int i) H Q := fun H s => ⟨scO o i, by rw [dO]; exact h H s⟩
/-! None -/
/-! tests -/
def qB (x : V) (H : Hp) (q : Bool → Hp → Prop) : Prop := ∃ k, x = .bl k ∧ q k H
theorem g_qB {b : Bool} {q : Bool → Hp → Prop} (h : Go H0 S L T fun H => q b H) : Go H0 S L T fun H => qB (.bl b) H q := fun H s => ⟨b, rfl, h H s⟩
theorem g_test {te : TE} {q : Bool → Hp → Prop} (h : Go H0 S L T fun H => te σ H fun x H1 => qB x H1 q) : Go H0 S L T fun H => tTest te σ H q := h
theorem g_tB {te : TE} {q : Bool → Hp → Prop} (h : Go H0 S L T fun H => te σ H fun x H1 => qB x H1 q) : Go H0 S L T fun H => tB te σ H q := h
theorem g_and {t u : TT} {q : Bool → Hp → Prop} (h : Go H0 S L T fun H => t σ H fun c H1 => if c = true then u σ H1 q else q false H1) : Go H0 S L T fun H => tAnd t u σ H q := h
theorem g_or {t u : TT} {q : Bool → Hp → Prop} (h : Go H0 S L T fun H => t σ H fun c H1 => if c = true then q true H1 else u σ H1 q) : Go H0 S L T fun H => tOr t u σ H q := h
theorem g_not {t : TT} {q : Bool → Hp → Prop} (h : Go H0 S L T fun H => t σ H fun c H1 => q (!c) H1) : Go H0 S L T fun H => tNot t σ H q := h
theorem g_andV {ta tb : TE} (h : Go H0 S L T fun H => ta σ H fun x H1 => qB x H1 fun c H1 => if c = true then tb σ H1 Q else Q (.bl false) H1) : Go H0 S L T fun H => tAndV ta tb σ H Q := h
theorem g_orV {ta tb : TE} (h : Go H0 S L T fun H => ta σ H fun x H1 => qB x H1 fun c H1 => if c = true then Q (.bl true) H1 else tb σ H1 Q) : Go H0 S L T fun H => tOrV ta tb σ H Q := h
theorem g_notVV {ta : TE} (h : Go H0 S L T fun H => ta σ H fun x H1 => qB x H1 fun c H1 => Q (.bl (!c)) H1) : Go H0 S L T fun H => tNotV ta σ H Q := h
theorem g_ifE {t : TT} {ta tb : TE} (h : Go H0 S L T fun H => t σ H fun c H1 => if c = true then ta σ H1 Q else tb σ H1 Q) : Go H0 S L T fun H => tIf t ta tb σ H Q := h
theorem g_chain {r r' : R2} {ta tb tc : TE} (h : Go H0 S L T fun H => ta σ H fun x H1 => tb σ H1 fun y H2 => r x y H2 fun z H3 => qB z H3 fun k H3 => if k = true then tc σ H3 fun w H4 => r' y w H4 Q else Q (.bl false) H3) : Go H0 S L T fun H => tChain r r' ta tb tc σ H Q := h
theorem g_iteT {A B : Hp → Prop} (h : Go H0 S L T A) : Go H0 S L T fun H => if true = true then A H else B H := fun H s => iteT (h H s)
theorem g_iteF {A B : Hp → Prop} (h : Go H0 S L T B) : Go H0 S L T fun H => if false = true then A H else B H := fun H s => iteF (h H s)
theorem g_iteP {b : Bool} {A B : Hp → Prop} (e : b = true) (h : Go H0 S L T A) : Go H0 S L T fun H => if b = true then A H else B H := fun H s => by subst e; exact iteT (h H s)
theorem g_iteN {b : Bool} {A B : Hp → Prop} (e : b = false) (h : Go H0 S L T B) : Go H0 S L T fun H => if b = true then A H else B H := fun H s => by subst e; exact iteF (h H s)
theorem g_ite {b : Bool} {A B : Hp → Prop} (h1 : b = true → Go H0 S L T A) (h2 : b = false → Go H0 S L T B) : Go H0 S L T fun H => if b = true then A H else B H := fun H s => by
  cases b with
  | true => exact iteT (h1 rfl H s)
  | false => exact iteF (h2 rfl H s)
/-! arguments -/
theorem g_nil {q : List V → Hp → Prop} (h : Go H0 S L T fun H => q [] H) : Go H0 S L T fun H => tNil σ H q := h
theorem g_cons {ta : TE} {tr : TA} {q : List V → Hp → Prop} (h : Go H0 S L T fun H => ta σ H fun x H1 => tr σ H1 fun xs H2 => q (x :: xs) H2) : Go H0 S L T fun H => tCons ta tr σ H q := h
theorem g_cb {r : List V → Hp → VK → Prop} {t : TA} (h : Go H0 S L T fun H => t σ H fun vs H1 => r vs H1 Q) : Go H0 S L T fun H => tCB r t σ H Q := h
theorem g_call {sp : Sp} {E : XK} {t : TA} (h : Go H0 S L T fun H => t σ H fun vs H1 => sp vs H1 Q E) : Go H0 S L T fun H => tCall sp [] E t σ H Q := fun H s => by
  have := h H s
  unfold tCall
  simpa only [List.append_nil] using this
def qMeth (C : Addr) (m : Str) (sp : Sp) (E : XK) (t : TA) (σ : L2.St) (Q : VK) (x : V) (H1 : Hp) : Prop := ∃ a dx fs, x = .ref a ∧ H1 a = some (.ins C dx fs) ∧ fs.lookup m = none ∧ t σ H1 fun vs H2 => sp (x :: vs) H2 Q E
theorem g_meth {C : Addr} {m : Str} {sp : Sp} {E : XK} {ta : TE} {t : TA} (h : Go H0 S L T fun H => ta σ H fun x H1 => qMeth C m sp E t σ Q x H1) : Go H0 S L T fun H => tMeth C m sp [] E ta t σ H Q := fun H s => by
  have := h H s
  unfold tMeth
  simp only [List.append_nil]
  exact this
theorem g_qmeth {C : Addr} {m : Str} {sp : Sp} {E : XK} {t : TA} {a dx : Addr} {fs : List (Str × V)} (p : Lk H0 S L T a (.ins C dx fs)) (e : fs.lookup m = none) (h : Go H0 S L T fun H => t σ H fun vs H2 => sp (.ref a :: vs) H2 Q E) : Go H0 S L T fun H => qMeth C m sp E t σ Q (.ref a) H :=
  fun H s => ⟨a, dx, fs, rfl, (p _ s), e, h H s⟩
def qMk (C : Addr) (sp : Sp) (E : XK) (Q : VK) (vs : List V) (H1 : Hp) : Prop := ∀ x dx, H1 x = none → H1 dx = none → dx ≠ x → sp (.ref x :: vs) (upd (upd H1 dx (.own x)) x (.ins C dx [])) (fun v H2 => v = .non ∧ Q (.ref x) H2) E
theorem g_make {C : Addr} {sp : Sp} {E : XK} {t : TA} (h : Go H0 S L T fun H => t σ H (qMk C sp E Q)) : Go H0 S L T fun H => tMake C sp [] E t σ H Q := fun H s => by
  have := h H s
  unfold tMake
  simp only [List.append_nil]
  exact this
theorem g_new {C : Addr} {sp : Sp} {E : XK} {vs : List V} (h : ∀ x dx, Go H0 S ((x, .n, .ins C dx []) :: L) T fun H => sp (.ref x :: vs) H (fun v H2 => v = .non ∧ Q (.ref x) H2) E) : Go H0 S L T fun H => qMk C sp E Q vs H := fun H s x dx hx hd ne => by
  have k := (s.alloc hd (.own x)).alloc (by rw [upd_ne ne.symm]; exact hx) (.ins C dx [])
  refine h x dx _ ⟨fun e m => ?_, ?_, k.fr, k.lv, k.tp, fun e m => ?_, fun e m => ?_, k.tf⟩
  · rcases List.mem_cons.mp m with rfl | m
    · exact k.at_ _ List.mem_cons_self
    · exact k.at_ _ (List.mem_cons_of_mem _ (List.mem_cons_of_mem _ m))
  · obtain ⟨n1, n2⟩ := List.nodup_cons.mp k.nd
    exact List.nodup_cons.mpr ⟨fun q => n1 (List.mem_cons_of_mem _ q), (List.nodup_cons.mp n2).2⟩
  · rcases List.mem_cons.mp m with rfl | m
    · exact k.nw _ List.mem_cons_self
    · exact k.nw _ (List.mem_cons_of_mem _ (List.mem_cons_of_mem _ m))
  · rcases List.mem_cons.mp m with rfl | m
    · exact k.ow _ List.mem_cons_self
    · exact k.ow _ (List.mem_cons_of_mem _ (List.mem_cons_of_mem _ m))
theorem g_eqn {g : Hp → Prop} (h : Go H0 S L T g) : Go H0 S L T fun H => (V.non = V.non ∧ g H) := fun H s => ⟨rfl, h H s⟩
/-! new tuples and lists -/
def qNewT (Q : VK) (xs : List V) (H : Hp) : Prop := xs.length ≤ sizeLine ∧ ∀ p, H p = none → Q (.ref p) (upd H p (.tup xs))
def qNewL (Q : VK) (xs : List V) (H : Hp) : Prop := xs.length ≤ sizeLine ∧ ∀ p, H p = none → Q (.ref p) (upd H p (.lst xs))
theorem g_tup {t : TA} (h : Go H0 S L T fun H => t σ H (qNewT Q)) : Go H0 S L T fun H => tTup t σ H Q := h
theorem g_lst {t : TA} (h : Go H0 S L T fun H => t σ H (qNewL Q)) : Go H0 S L T fun H => tLst t σ H Q := h
theorem line1000 {n : Nat} (h : decide (n ≤ 1000) = true) : n ≤ sizeLine := Nat.le_trans (of_decide_eq_true h) (by decide)
theorem g_newT {xs : List V} (c : decide (xs.length ≤ 1000) = true) (h : ∀ p, Go H0 S L (TF p xs :: T) fun H => Q (.ref p) H) : Go H0 S L T fun H => qNewT Q xs H := fun _ s => ⟨line1000 c, fun p hp => h p _ (s.allocT hp xs)⟩
theorem g_newL {xs : List V} (c : decide (xs.length ≤ 1000) = true) (h : ∀ p, Go H0 S ((p, .n, .lst xs) :: L) T fun H => Q (.ref p) H) : Go H0 S L T fun H => qNewL Q xs H := fun _ s => ⟨line1000 c, fun p hp => h p _ (s.alloc hp _)⟩
theorem g_newLb {xs : List V} (c : xs.length ≤ 100000) (h : ∀ p, Go H0 S ((p, .n, .lst xs) :: L) T fun H => Q (.ref p) H) : Go H0 S L T fun H => qNewL Q xs H := fun _ s => ⟨Nat.le_trans c (by decide), fun p hp => h p _ (s.alloc hp _)⟩
theorem g_freshL {xs : List V} (h : ∀ p, Go H0 S ((p, .n, .lst xs) :: L) T fun H => Q (.ref p) H) : Go H0 S L T fun H => (∀ p, H p = none → Q (.ref p) (upd H p (.lst xs))) := fun _ s p hp => h p _ (s.alloc hp _)
/-! fields -/
def qFld (K : PySem.W.Frag) (f : Str) (Q : VK) (x : V) (H : Hp) : Prop := ∃ a C dx fs v, x = .ref a ∧ H a = some (.ins C dx fs) ∧ Cls K C ∧ NoAttr K C f ∧ fs.lookup f = some v ∧ Q v H
theorem g_fld {ta : TE} {f : Str} (h : Go H0 S L T fun H => ta σ H fun x H1 => qFld K f Q x H1) : Go H0 S L T fun H => tFld K ta f σ H Q := h
theorem g_qfld {f : Str} {a C dx : Addr} {fs : List (Str × V)} {v : V} (p : Lk H0 S L T a (.ins C dx fs)) (e : fs.lookup f = some v) (c : Cls K C) (n : NoAttr K C f) (h : Go H0 S L T fun H => Q v H) : Go H0 S L T fun H => qFld K f Q (.ref a) H :=
  fun H s => ⟨a, C, dx, fs, v, rfl, (p _ s), c, n, e, h H s⟩
def qSet (K : PySem.W.Frag) (f : Str) (y : V) (σ : L2.St) (nx : L2.St → Hp → Prop) (x : V) (H2 : Hp) : Prop := ∃ a C dx fs, x = .ref a ∧ H2 a = some (.ins C dx fs) ∧ Cls K C ∧ NoAttr K C f ∧ fs.length < 1000 ∧ nx σ (upd H2 a (.ins C dx (putF f y fs)))
theorem g_sfld {ta tv : TE} {f : Str} {nx bk ct : L2.St → Hp → Prop} {rt : VK} (h : Go H0 S L T fun H => tv σ H fun y H1 => ta σ H1 fun x H2 => qSet K f y σ nx x H2) : Go H0 S L T fun H => sFld K ta tv f ⟨nx, rt, bk, ct⟩ σ H := h
theorem g_qset {f : Str} {y : V} {a C dx : Addr} {fs fs' : List (Str × V)} {nx : L2.St → Hp → Prop} (p : Lk H0 S L T a (.ins C dx fs)) (e : putF f y fs = fs') (u : Upd L a (.ins C dx fs) (.ins C dx fs') L') (l : decide (fs.length < 1000) = true) (c : Cls K C) (n : NoAttr K C f) (h : Go H0 S L' T fun H => nx σ H) :
    Go H0 S L T fun H => qSet K f y σ nx (.ref a) H := fun H s => ⟨a, C, dx, fs, rfl, (p _ s), c, n, of_decide_eq_true l, by rw [e]; exact h _ (s.write u)⟩
def qAug (K : PySem.W.Frag) (f : Str) (tv : TE) (rd : V → V → Hp → VK → Prop) (σ : L2.St) (nx : L2.St → Hp → Prop) (x : V) (H1 : Hp) : Prop := ∃ a C dx fs v, x = .ref a ∧ H1 a = some (.ins C dx fs) ∧ Cls K C ∧ NoAttr K C f ∧ fs.lookup f = some v ∧
  tv σ H1 fun y H2 => rd v y H2 fun z H3 => ∃ dx' fs', H3 a = some (.ins C dx' fs') ∧ fs'.length < 1000 ∧ nx σ (upd H3 a (.ins C dx' (putF f z fs')))
def qPut (C a : Addr) (f : Str) (σ : L2.St) (nx : L2.St → Hp → Prop) (z : V) (H3 : Hp) : Prop := ∃ dx' fs', H3 a = some (.ins C dx' fs') ∧ fs'.length < 1000 ∧ nx σ (upd H3 a (.ins C dx' (putF f z fs')))
theorem g_saug {ta tv : TE} {rd : V → V → Hp → VK → Prop} {f : Str} {nx bk ct : L2.St → Hp → Prop} {rt : VK} (h : Go H0 S L T fun H => ta σ H fun x H1 => qAug K f tv rd σ nx x H1) : Go H0 S L T fun H => sFldAug K ta tv rd f ⟨nx, rt, bk, ct⟩ σ H := h
theorem g_qaug {f : Str} {tv : TE} {rd : V → V → Hp → VK → Prop} {a C dx : Addr} {fs : List (Str × V)} {v : V} {nx : L2.St → Hp → Prop} (p : Lk H0 S L T a (.ins C dx fs)) (e : fs.lookup f = some v) (c : Cls K C) (n : NoAttr K C f) (h : Go H0 S L T fun H => tv σ H fun y H2 => rd v y H2 fun z H3 => qPut C a f σ nx z H3) :
    Go H0 S L T fun H => qAug K f tv rd σ nx (.ref a) H := fun H s => ⟨a, C, dx, fs, v, rfl, (p _ s), c, n, e, h H s⟩
theorem g_qput {f : Str} {z : V} {a C dx : Addr} {fs fs' : List (Str × V)} {nx : L2.St → Hp → Prop} (p : Lk H0 S L T a (.ins C dx fs)) (e : putF f z fs = fs') (u : Upd L a (.ins C dx fs) (.ins C dx fs') L') (l : decide (fs.length < 1000) = true) (h : Go H0 S L' T fun H => nx σ H) :
    Go H0 S L T fun H => qPut C a f σ nx z H := fun H s => ⟨dx, fs, (p _ s), of_decide_eq_true l, by rw [e]; exact h _ (s.write u)⟩
/-! statements -/
section
variable {nx bk ct : L2.St → Hp → Prop} {rt : VK}
theorem g_seq {t u : TS} (h : Go H0 S L T fun H => t ⟨u ⟨nx, rt, bk, ct⟩, rt, bk, ct⟩ σ H) : Go H0 S L T fun H => tSeq t u ⟨nx, rt, bk, ct⟩ σ H := h
theorem g_next (h : Go H0 S L T fun H => nx σ H) : Go H0 S L T fun H => tNext ⟨nx, rt, bk, ct⟩ σ H := h
theorem g_brk (h : Go H0 S L T fun H => bk σ H) : Go H0 S L T fun H => tBreak ⟨nx, rt, bk, ct⟩ σ H := h
theorem g_cont (h : Go H0 S L T fun H => ct σ H) : Go H0 S L T fun H => tCont ⟨nx, rt, bk, ct⟩ σ H := h
theorem g_drop {te : TE} (h : Go H0 S L T fun H => te σ H fun _ H1 => nx σ H1) : Go H0 S L T fun H => tDrop te ⟨nx, rt, bk, ct⟩ σ H := h
theorem g_ret {te : TE} (h : Go H0 S L T fun H => te σ H rt) : Go H0 S L T fun H => tRet te ⟨nx, rt, bk, ct⟩ σ H := h
theorem g_retN (h : Go H0 S L T fun H => rt .non H) : Go H0 S L T fun H => tRetN ⟨nx, rt, bk, ct⟩ σ H := h
theorem g_if {c : TT} {t u : TS} (h : Go H0 S L T fun H => c σ H fun b H1 => if b = true then t ⟨nx, rt, bk, ct⟩ σ H1 else u ⟨nx, rt, bk, ct⟩ σ H1) : Go H0 S L T fun H => tIfS c t u ⟨nx, rt, bk, ct⟩ σ H := h
theorem g_asg {te : TE} {g : TG} (h : Go H0 S L T fun H => te σ H fun x H1 => g x σ H1 nx) : Go H0 S L T fun H => tAsg te g ⟨nx, rt, bk, ct⟩ σ H := h
def qTip (i : Nat) (ti : TIp) (σ : L2.St) (nx : L2.St → Hp → Prop) (x y : V) (H1 : Hp) : Prop := ti x y H1 fun z H2 => nx (σ.set i (some z)) H2
theorem g_aug {i : Nat} {te : TE} {ti : TIp} {x : V} (e : σ[i]? = some (some x)) (h : Go H0 S L T fun H => te σ H fun y H1 => ti x y H1 fun z H2 => gName i z σ H2 nx) : Go H0 S L T fun H => tAug i te ti ⟨nx, rt, bk, ct⟩ σ H := fun H s => ⟨x, e, h H s⟩
def qTwo (i j : Nat) (σ : L2.St) (nx : L2.St → Hp → Prop) (vs : List V) (H1 : Hp) : Prop := ∃ v w, vs = [v, w] ∧ gName i v σ H1 fun σ1 H2 => gName j w σ1 H2 nx
theorem g_par {i j : Nat} {ta : TA} (h : Go H0 S L T fun H => ta σ H (qTwo i j σ nx)) : Go H0 S L T fun H => tPar i j ta ⟨nx, rt, bk, ct⟩ σ H := h
theorem g_two {i j : Nat} {v w : V} (h : Go H0 S L T fun H => gName i v σ H fun σ1 H2 => gName j w σ1 H2 nx) : Go H0 S L T fun H => qTwo i j σ nx [v, w] H := fun H s => ⟨v, w, rfl, h H s⟩
end
/-! targets -/
theorem g_gnil {q : L2.St → Hp → Prop} (h : Go H0 S L T fun H => q σ H) : Go H0 S L T fun H => gNil [] σ H q := fun H s => ⟨rfl, h H s⟩
theorem g_gcons {t : TG} {u : TGs} {v : V} {r : List V} {q : L2.St → Hp → Prop} (h : Go H0 S L T fun H => t v σ H fun σ' H' => u r σ' H' q) : Go H0 S L T fun H => gCons t u (v :: r) σ H q := fun H s => ⟨v, r, rfl, h H s⟩
theorem g_gtup {n : Nat} {t : TGs} {p : Addr} {xs : List V} {q : L2.St → Hp → Prop} (m : Lk H0 S L T p (.tup xs)) (l : decide (xs.length = n) = true) (h : Go H0 S L T fun H => t xs σ H q) : Go H0 S L T fun H => gTup K n t (.ref p) σ H q := fun H s => ⟨p, xs, rfl, .inl (.inl ((m _ s))), of_decide_eq_true l, h H s⟩
/-! subscripts -/
theorem g_ixL {p : Addr} {xs : List V} {i : Int} {v : V} (m : Lk H0 S L T p (.lst xs)) (e : atI xs i = some v) (h : Go H0 S L T fun H => Q v H) : Go H0 S L T fun H => rIxL K (.ref p) (.int i) H Q := fun H s => ⟨p, xs, i, v, rfl, rfl, .inl (.inl ((m _ s))), e, h H s⟩
theorem g_ixT {p : Addr} {xs : List V} {i : Int} {v : V} (m : Lk H0 S L T p (.tup xs)) (e : atI xs i = some v) (h : Go H0 S L T fun H => Q v H) : Go H0 S L T fun H => rIxT K (.ref p) (.int i) H Q := fun H s => ⟨p, xs, i, v, rfl, rfl, .inl (.inl ((m _ s))), e, h H s⟩
/-! dicts -/
def qDGet (Q : VK) (x y : V) (H2 : Hp) : Prop := ∃ a v, x = .ref a ∧ DGet H2 a y (some v) ∧ Q v H2
theorem g_dget {td ty : TE} (h : Go H0 S L T fun H => td σ H fun x H1 => ty σ H1 fun y H2 => qDGet Q x y H2) : Go H0 S L T fun H => tDGet td ty σ H Q := h
theorem g_qdget {a : Addr} {kvs : List (Key × V)} {k : Str} {v : V} (p : Lk H0 S L T a (.dK kvs)) (e : valV kvs (Sum.inr k) = some v) (h : Go H0 S L T fun H => Q v H) : Go H0 S L T fun H => qDGet Q (.ref a) (.str k) H := fun H s => ⟨a, v, rfl, by rw [← e]; exact DGet.k (k := Sum.inr k) ((p _ s)), h H s⟩
theorem g_qdgetI {a : Addr} {kvs : List (Key × V)} {k : Int} {v : V} (p : Lk H0 S L T a (.dK kvs)) (e : valV kvs (Sum.inl k) = some v) (h : Go H0 S L T fun H => Q v H) : Go H0 S L T fun H => qDGet Q (.ref a) (.int k) H := fun H s => ⟨a, v, rfl, by rw [← e]; exact DGet.k (k := Sum.inl k) ((p _ s)), h H s⟩
def qDPut (v : V) (σ : L2.St) (nx : L2.St → Hp → Prop) (x y : V) (H3 : Hp) : Prop := ∃ a H4, x = .ref a ∧ DPut H3 a y v H4 ∧ nx σ H4
theorem g_dput {td ty tv : TE} {nx bk ct : L2.St → Hp → Prop} {rt : VK} (h : Go H0 S L T fun H => tv σ H fun v H1 => td σ H1 fun x H2 => ty σ H2 fun y H3 => qDPut v σ nx x y H3) : Go H0 S L T fun H => sDPut td ty tv ⟨nx, rt, bk, ct⟩ σ H := h
theorem g_qdput {a : Addr} {kvs kvs' : List (Key × V)} {k : Str} {v : V} {nx : L2.St → Hp → Prop} (p : Lk H0 S L T a (.dK kvs)) (e : putK kvs (Sum.inr k) v = kvs') (u : Upd L a (.dK kvs) (.dK kvs') L') (l : decide (kvs.length < 1000) = true) (h : Go H0 S L' T fun H => nx σ H) : Go H0 S L T fun H => qDPut v σ nx (.ref a) (.str k) H :=
  fun H s => ⟨a, upd H a (.dK kvs'), rfl, by rw [← e]; exact DPut.k (k := Sum.inr k) ((p _ s)) (Nat.lt_of_lt_of_le (of_decide_eq_true l) (by decide)), h _ (s.write u)⟩
def qDisp (Q : VK) (p : Addr) (ps : List (V × V)) (H2 : Hp) : Prop := H2 p = some (.dK []) ∧ ∃ kvs : List (Key × V), ps = kvs.map (fun kv => (kV kv.1, kv.2)) ∧ kvs.length ≤ 15 ∧ Q (.ref p) (upd H2 p (.dK (mergeK [] kvs)))
theorem g_disp {trs : List (TE × TE)} (h : ∀ p, Go H0 S ((p, .n, .dK []) :: L) T fun H => tPairs trs σ H (qDisp Q p)) : Go H0 S L T fun H => tDisp trs σ H Q := fun H s p hp => h p _ (s.alloc hp _)
theorem g_pn {q : List (V × V) → Hp → Prop} (h : Go H0 S L T fun H => q [] H) : Go H0 S L T fun H => tPairs [] σ H q := h
theorem g_pc {tk tv : TE} {r : List (TE × TE)} {q : List (V × V) → Hp → Prop} (h : Go H0 S L T fun H => tk σ H fun x H1 => tv σ H1 fun y H2 => tPairs r σ H2 fun ps H3 => q ((x, y) :: ps) H3) : Go H0 S L T fun H => tPairs ((tk, tv) :: r) σ H q := h
theorem g_dmade {p : Addr} {ps : List (V × V)} (kvs kvs' : List (Key × V)) (m : Lk H0 S L T p (.dK [])) (e : ps = kvs.map (fun kv => (kV kv.1, kv.2))) (l : decide (kvs.length ≤ 15) = true) (e' : mergeK [] kvs = kvs') (u : Upd L p (.dK []) (.dK kvs') L') (h : Go H0 S L' T fun H => Q (.ref p) H) :
    Go H0 S L T fun H => qDisp Q p ps H := fun H s => ⟨(m _ s), kvs, e, of_decide_eq_true l, by rw [e']; exact h _ (s.write u)⟩
/-! built-in calls -/
/-! methods of built-in types -/
theorem g_bm {Ty : String} {r : V → List V → Hp → VK → Prop} {to : TE} {t : TA} (h : Go H0 S L T fun H => to σ H fun x H1 => tyV K Ty x H1 ∧ t σ H1 fun xs H2 => r x xs H2 Q) : Go H0 S L T fun H => tBM K Ty r to t σ H Q := h
theorem g_bm0 {Ty : String} {r : V → List V → Hp → VK → Prop} {to : TE} (h : Go H0 S L T fun H => to σ H fun x H1 => tyV K Ty x H1 ∧ r x [] H1 Q) : Go H0 S L T fun H => tBM0 K Ty r to σ H Q := h
theorem g_tyL {p : Addr} {xs : List V} {g : Hp → Prop} (m : Lk H0 S L T p (.lst xs)) (h : Go H0 S L T g) : Go H0 S L T fun H => (tyV K "list" (.ref p) H ∧ g H) := fun H s => ⟨.inl ⟨rfl, _, .inl (.inl ((m _ s)))⟩, h H s⟩
theorem g_app {p : Addr} {xs : List V} {y : V} (m : Lk H0 S L T p (.lst xs)) (l : xs.length < 100000) (u : Upd L p (.lst xs) (.lst (xs ++ [y])) L') (h : Go H0 S L' T fun H => Q .non H) : Go H0 S L T fun H => rAppend (.ref p) [y] H Q := fun H s => ⟨p, xs, y, rfl, rfl, (m _ s), Nat.lt_of_lt_of_le l (by decide), h _ (s.write u)⟩
end
end L3

/-! L3c: facts about defs bundled; calls by them; _law_next and its kin. -/
namespace L3
open PySem L2

/-- the def that the module's name x holds keeps the promise sp -/
def FnF (P : Program) (w : World) (K : PySem.W.Frag) (mg : Str → Option Value) (base : Heap) (x : Str) (k : Nat) (ps : List Str) (sp : Sp) : Prop :=
  ∃ f fd, FnOk P w K mg base CX0 k f fd ps sp ∧ mg x = some (.ref f) ∧ PySem.W.keepIn K (.ref f) = true ∧ Binds K fd ps []
/-- so does the method m of the class at C -/
def MtF (P : Program) (w : World) (K : PySem.W.Frag) (mg : Str → Option Value) (base : Heap) (C : Addr) (m : Str) (k : Nat) (ps : List Str) (sp : Sp) : Prop :=
  ∃ f fd, FnOk P w K mg base CX0 k f fd ps sp ∧ Meth K C m f ∧ Binds K fd ps []
/-- so does the __init__ of the class at C, which the name x holds -/
def MkF (P : Program) (w : World) (K : PySem.W.Frag) (mg : Str → Option Value) (base : Heap) (x : Str) (C : Addr) (k : Nat) (ps : List Str) (sp : Sp) : Prop :=
  ∃ f fd, FnOk P w K mg base CX0 k f fd ps sp ∧ Mk K C f ∧ mg x = some (.ref C) ∧ Binds K fd ps []
section
variable {X : Cx} {x : Str} {k : Nat} {ps : List Str} {sp : Sp} {p pos apos : Pos} {e o : Expr} {es : List Expr} {t : TA} {C : Addr} {m : Str} {ta : TE}
theorem pe_callF (F : FnF X.prog X.w X.K X.mg X.base x k ps sp) (hr : Room k X.A) (hg : Gl X x) (ha : PA X (e :: es) t) (hdb : (x == ("__debug__" : Str)) = false := by decide) (he : starEach (e :: es) X.env = (false, eval e X.env) :: starEach es X.env := by rfl) (hpl : (backTo pos (starEach es X.env)).any (·.1) = false := by rfl) : PE X (.Call (.Name x p) (e :: es) [] pos) (tCall sp [] E0 t) := by
  obtain ⟨f, fd, h1, h2, h3, h4⟩ := F
  exact pe_call h1 hr hg h2 h3 h4 .nil pass0 ha hdb he hpl
theorem pe_call0F (F : FnF X.prog X.w X.K X.mg X.base x k ps sp) (hr : Room k X.A) (hg : Gl X x) (hdb : (x == ("__debug__" : Str)) = false := by decide) : PE X (.Call (.Name x p) [] [] pos) (tCall sp [] E0 tNil) := by
  obtain ⟨f, fd, h1, h2, h3, h4⟩ := F
  exact pe_call0 h1 hr hg h2 h3 h4 .nil pass0 hdb
theorem pe_methF {pl : Sem Bool} (c : Cls X.K C) (F : MtF X.prog X.w X.K X.mg X.base C m k ps sp) (hr : Room k X.A) (he : PE X o ta) (ha : PA X (e :: es) t)
    (hst : starEach (e :: es) X.env = (false, eval e X.env) :: starEach es X.env := by rfl) (hpl : (backTo pos (starEach es X.env)).any (·.1) = false := by rfl)
    (ht : eval (.Call (.Attribute o m apos) (e :: es) [] pos) X.env = (do
      let ov ← eval o X.env
      standAt apos.atName
      let (f, first) ← holding [ov] (getMethod ov m pl)
      callWith pos f first (backTo pos (starEach (e :: es) X.env)) (backToKw pos (keywordEach [] X.env))) := by rfl) :
    PE X (.Call (.Attribute o m apos) (e :: es) [] pos) (tMeth C m sp [] E0 ta t) := by
  obtain ⟨f, fd, h1, h2, h3⟩ := F
  exact pe_meth he c h2 h1 hr h3 .nil pass0 ha hst hpl ht
theorem pe_meth0F {pl : Sem Bool} (c : Cls X.K C) (F : MtF X.prog X.w X.K X.mg X.base C m k ps sp) (hr : Room k X.A) (he : PE X o ta)
    (ht : eval (.Call (.Attribute o m apos) [] [] pos) X.env = (do
      let ov ← eval o X.env
      standAt apos.atName
      let (f, first) ← holding [ov] (getMethod ov m pl)
      callWith pos f first (backTo pos (starEach [] X.env)) (backToKw pos (keywordEach [] X.env))) := by rfl) :
    PE X (.Call (.Attribute o m apos) [] [] pos) (tMeth C m sp [] E0 ta tNil) := by
  obtain ⟨f, fd, h1, h2, h3⟩ := F
  exact pe_meth0 he c h2 h1 hr h3 .nil pass0 ht
theorem pe_globI {i : Int} (hg : Gl X x) (hm : ∃ t, X.mg x = some (.int i t)) (hd : (x == ("__debug__" : Str)) = false := by decide) : PE X (.Name x pos) (tC (.int i)) := by
  obtain ⟨t, h⟩ := hm
  exact pe_glob hg h ⟨_, rfl⟩ hd
theorem pe_makeF (F : MkF X.prog X.w X.K X.mg X.base x C k ps sp) (hr : Room (k + 1) X.A) (hg : Gl X x) (ha : PA X (e :: es) t) (hdb : (x == ("__debug__" : Str)) = false := by decide) (he : starEach (e :: es) X.env = (false, eval e X.env) :: starEach es X.env := by rfl) (hpl : (backTo pos (starEach es X.env)).any (·.1) = false := by rfl) :
    PE X (.Call (.Name x p) (e :: es) [] pos) (tMake C sp [] E0 t) := by
  obtain ⟨f, fd, h1, h2, h3, h4⟩ := F
  exact pe_make h2 h1 hr hg h3 h4 .nil pass0 ha hdb he hpl
theorem pe_make0F (F : MkF X.prog X.w X.K X.mg X.base x C k ps sp) (hr : Room (k + 1) X.A) (hg : Gl X x) (hdb : (x == ("__debug__" : Str)) = false := by decide) :
    PE X (.Call (.Name x p) [] [] pos) (tMake C sp [] E0 tNil) := by
  obtain ⟨f, fd, h1, h2, h3, h4⟩ := F
  exact pe_make0 h2 h1 hr hg h3 h4 .nil pass0 hdb
end
end L3

/-! L3d: looking up written names; dict displays; the rules of steps that ask these. -/
namespace L3
open PySem L2
inductive NoK (k : Key) : List (Key × V) → Prop where
  | nil : NoK k []
  | cons {g x r} : decide (g = k) = false → NoK k r → NoK k ((g, x) :: r)
inductive PutK (k : Key) (v : V) : List (Key × V) → List (Key × V) → Prop where
  | here {x r} : NoK k r → PutK k v ((k, x) :: r) ((k, v) :: r)
  | there {g x r r'} : decide (g = k) = false → PutK k v r r' → PutK k v ((g, x) :: r) ((g, x) :: r')
inductive PsK : List (V × V) → List (Key × V) → Prop where
  | nil : PsK [] []
  | str {y v ps kvs} : PsK ps kvs → PsK ((.str y, v) :: ps) ((Sum.inr y, v) :: kvs)
  | int {i v ps kvs} : PsK ps kvs → PsK ((.int i, v) :: ps) ((Sum.inl i, v) :: kvs)
inductive KeysOf : List (Key × V) → List Key → Prop where
  | nil : KeysOf [] []
  | cons {k x r ks} : KeysOf r ks → KeysOf ((k, x) :: r) (k :: ks)
theorem KeysOf.eq {kvs : List (Key × V)} {ks : List Key} (h : KeysOf kvs ks) : kvs.map (fun kv => kv.1) = ks := by
  induction h with
  | nil => rfl
  | cons _ ih => rw [List.map_cons, ih]
section
variable {f g : Str} {v x : V} {r r' : List (Str × V)}
theorem lk0 : List.lookup f ((f, v) :: r) = some v := by simp [List.lookup]
theorem lk1 {o : Option V} (h : decide (g = f) = false) (e : List.lookup f r = o) : List.lookup f ((g, x) :: r) = o := by
  have hb : (f == g) = false := beq_eq_false_iff_ne.mpr fun q => (of_decide_eq_false h) q.symm
  simp only [List.lookup, hb, e]
theorem lkn : List.lookup f ([] : List (Str × V)) = none := rfl
theorem pf0 : putF f v ((f, x) :: r) = (f, v) :: r := if_pos rfl
theorem pf1 (h : decide (g = f) = false) (e : putF f v r = r') : putF f v ((g, x) :: r) = (g, x) :: r' := by
  unfold putF
  rw [if_neg (of_decide_eq_false h), e]
theorem pfn : putF f v [] = [(f, v)] := rfl
end
section
variable {k g : Key} {v x : V} {r r' : List (Key × V)}
theorem dv0 : valV ((k, v) :: r) k = some v := valV_pos rfl
theorem dv1 {o : Option V} (h : decide (g = k) = false) (e : valV r k = o) : valV ((g, x) :: r) k = o := by rw [valV_neg (of_decide_eq_false h)]; exact e
theorem dvn : valV ([] : List (Key × V)) k = none := rfl
theorem NoK.any (h : NoK k r) : (r.any fun kv => decide (kv.1 = k)) = false := by
  induction h with
  | nil => rfl
  | @cons g x r h _ ih => rw [List.any_cons, ih]; simp [of_decide_eq_false h]
theorem NoK.map (h : NoK k r) : r.map (fun kv => if kv.1 = k then (kv.1, v) else kv) = r := by
  induction h with
  | nil => rfl
  | @cons g x r h _ ih => rw [List.map_cons, ih]; simp [of_decide_eq_false h]
theorem PutK.both (h : PutK k v r r') : (r.any fun kv => decide (kv.1 = k)) = true ∧ r.map (fun kv => if kv.1 = k then (kv.1, v) else kv) = r' := by
  induction h with
  | @here x r n => exact ⟨by simp, by rw [List.map_cons, n.map]; simp⟩
  | @there g x r r' h _ ih => exact ⟨by rw [List.any_cons, ih.1]; simp, by rw [List.map_cons, ih.2]; simp [of_decide_eq_false h]⟩
theorem PutK.eq (h : PutK k v r r') : putK r k v = r' := by
  unfold putK
  rw [if_pos h.both.1, h.both.2]
theorem putNew (h : NoK k r) : putK r k v = r ++ [(k, v)] := by
  unfold putK
  rw [if_neg (by rw [h.any]; decide)]
theorem merge_nd : ∀ {more acc : List (Key × V)}, ((acc ++ more).map fun kv => kv.1).Nodup → mergeK acc more = acc ++ more
  | [], acc, _ => by simp [mergeK]
  | p :: m, acc, h => by
    have hk : valV acc p.1 = none := by
      cases q : valV acc p.1 with
      | none => rfl
      | some u =>
        have h1 := valV_in q
        rw [List.map_append, List.map_cons] at h
        exact absurd rfl ((List.nodup_append.mp h).2.2 p.1 h1 p.1 List.mem_cons_self)
    have e : mergeK acc (p :: m) = mergeK (putK acc p.1 p.2) m := rfl
    rw [e, putK_new p.2 hk]
    have e2 : acc ++ [(p.1, p.2)] ++ m = acc ++ p :: m := by simp
    rw [merge_nd (by rw [e2]; exact h), e2]
theorem merge_of {kvs : List (Key × V)} (ks : List Key) (e : kvs.map (fun kv => kv.1) = ks) (h : ks.Nodup) : mergeK [] kvs = kvs := by
  have := merge_nd (acc := []) (more := kvs) (by rw [List.nil_append, e]; exact h)
  simpa using this
theorem PsK.eq {ps : List (V × V)} {kvs : List (Key × V)} (h : PsK ps kvs) : ps = kvs.map (fun kv => (kV kv.1, kv.2)) := by
  induction h with
  | nil => rfl
  | str _ ih => rw [List.map_cons, ← ih]; rfl
  | int _ ih => rw [List.map_cons, ← ih]; rfl
end
section
variable {H0 : Hp} {S : List Addr} {L L' : List Ent} {T : TFs} {σ : L2.St} {Q : VK} {K : PySem.W.Frag}
theorem g_dmadeK {p : Addr} {ps : List (V × V)} {kvs : List (Key × V)} (m : Lk H0 S L T p (.dK [])) (e : PsK ps kvs) {ks : List Key} (ek : KeysOf kvs ks) (nd : decide ks.Nodup = true) (l : decide (kvs.length ≤ 15) = true) (u : Upd L p (.dK []) (.dK kvs) L') (h : Go H0 S L' T fun H => Q (.ref p) H) :
    Go H0 S L T fun H => qDisp Q p ps H := g_dmade kvs kvs m e.eq l (merge_of ks ek.eq (of_decide_eq_true nd)) u h
theorem g_qdputK {a : Addr} {kvs kvs' : List (Key × V)} {k : Str} {v : V} {nx : L2.St → Hp → Prop} (p : Lk H0 S L T a (.dK kvs)) (e : PutK (Sum.inr k) v kvs kvs') (u : Upd L a (.dK kvs) (.dK kvs') L') (l : decide (kvs.length < 1000) = true) (h : Go H0 S L' T fun H => nx σ H) : Go H0 S L T fun H => qDPut v σ nx (.ref a) (.str k) H := g_qdput p e.eq u l h
/-- d[k] = v as a target -/
def tsetD : TSet := fun o i v H q => ∃ a H4, o = .ref a ∧ DPut H a i v H4 ∧ q H4
theorem set_dict {X : Cx} (hu : X.A.units + 1 < cLine) : PSet X tsetD := by
  intro pins s σ H o i v ov iv u q I ro ri rv h
  obtain ⟨a, H4, rfl, g, q4⟩ := h
  obtain rfl : ov = Value.ref a := ro
  exact d_setItem hu I g ri rv fun s4 I4 => ⟨H4, I4, q4⟩
theorem g_gsub {to ti : TE} {t : TSet} {v : V} {q : L2.St → Hp → Prop} (h : Go H0 S L T fun H => to σ H fun o H1 => ti σ H1 fun i H2 => t o i v H2 fun H3 => q σ H3) : Go H0 S L T fun H => gSub to ti t v σ H q := h
theorem g_tsetD {a : Addr} {kvs kvs' : List (Key × V)} {k : Str} {v : V} {q : Hp → Prop} (p : Lk H0 S L T a (.dK kvs)) (e : PutK (Sum.inr k) v kvs kvs') (u : Upd L a (.dK kvs) (.dK kvs') L') (l : decide (kvs.length < 1000) = true) (h : Go H0 S L' T q) : Go H0 S L T fun H => tsetD (.ref a) (.str k) v H q :=
  fun H s => ⟨a, upd H a (.dK kvs'), rfl, by rw [← e.eq]; exact DPut.k (k := Sum.inr k) ((p _ s)) (Nat.lt_of_lt_of_le (of_decide_eq_true l) (by decide)), h _ (s.write u)⟩
/-- o.f = v as a target -/
def tFldG (K : PySem.W.Frag) (ta : TE) (f : Str) : TG := fun v σ H q => ta σ H fun x H2 => ∃ a C dx fs, x = .ref a ∧ H2 a = some (.ins C dx fs) ∧ Cls K C ∧ NoAttr K C f ∧ fs.length < 1000 ∧ q σ (upd H2 a (.ins C dx (putF f v fs)))
theorem g_fldG {ta : TE} {f : Str} {v : V} {q : L2.St → Hp → Prop} (h : Go H0 S L T fun H => ta σ H fun x H2 => qSet K f v σ q x H2) : Go H0 S L T fun H => tFldG K ta f v σ H q := h
end
section
variable {X : Cx} {o : Expr} {f : Str} {pos : Pos} {to : TE}
theorem pg_attr (ho : PE X o to) (ha : ∀ v, assign (.Attribute o f pos) X.env v = (do
    let ov ← holding [v] (eval o X.env)
    standAt pos.atName
    holding [v, ov] (setAttr ov f v)
    release [v, ov] []) := by intro _; rfl) : PG X (.Attribute o f pos) (tFldG X.K to f) := by
  refine ⟨fun pins s σ H v u Q I r h => ?_⟩
  rw [ha]
  refine wpAny_bind (wpAny_holding (thn (ho.run pins s σ H _ I h) fun ov s1 ⟨x, H1, I1, r1, a, C, dx, fs, ex, ea, c, n, l, q⟩ => ?_))
  subst ex
  obtain rfl : ov = Value.ref a := r1
  refine wpAny_bind (wpAny_standAt (wpAny_bind (wpAny_holding (setattr_ok I1 ea c n l r fun s3 I3 => ?_))))
  exact wpAny_release ⟨σ, _, I3, q⟩
end
end L3

/-! L3e: names for readings of built-ins; loops; fewer entries. -/
namespace L3
open PySem L2
section
variable {X : Cx}
def rInt : List V → Hp → VK → Prop := fun xs H Q => (∃ i, xs = [.int i] ∧ Q (.int i) H) ∨ ∃ k, xs = [.bl k] ∧ Q (.int (if k then 1 else 0)) H
theorem cInt : CallR X (.type "int") rInt := call_int1
def rAbs : List V → Hp → VK → Prop := fun xs H Q => ∃ i, xs = [.int i] ∧ Q (.int (if i < 0 then -i else i)) H
theorem cAbs : CallR X (.builtin "abs") rAbs := call_abs
def rMax2 : List V → Hp → VK → Prop := fun xs H Q => ∃ i j, xs = [.int i, .int j] ∧ Q (.int (if j > i then j else i)) H
theorem cMax2 (hc : X.calm = true) : CallR X (.builtin "max") rMax2 := call_max2 hc
def rMin2 : List V → Hp → VK → Prop := fun xs H Q => ∃ i j, xs = [.int i, .int j] ∧ Q (.int (if j < i then j else i)) H
theorem cMin2 (hc : X.calm = true) : CallR X (.builtin "min") rMin2 := call_min2 hc
def rLen (K : PySem.W.Frag) : List V → Hp → VK → Prop := fun xs H Q => ∃ p ys, xs = [.ref p] ∧ (SqL K H p ys ∨ SqT K H p ys) ∧ Q (.int ys.length) H
theorem cLen : CallR X (.builtin "len") (rLen X.K) := call_len_seq
def rLenS : List V → Hp → VK → Prop := fun xs H Q => ∃ z, xs = [.str z] ∧ z.length ≤ sizeLine ∧ Q (.int z.length) H
theorem cLenS : CallR X (.builtin "len") rLenS := call_len_str
def rLenD : List V → Hp → VK → Prop := fun xs H Q => ∃ a kvs, xs = [V.ref a] ∧ H a = some (.dK kvs) ∧ Q (.int kvs.length) H
theorem cLenD : CallR X (.builtin "len") rLenD := call_lenD
def rListOf (K : PySem.W.Frag) : List V → Hp → VK → Prop := fun xs H Q => ∃ p ys, xs = [.ref p] ∧ (SqL K H p ys ∨ SqT K H p ys) ∧ ∀ l, H l = none → Q (.ref l) (upd H l (.lst ys))
theorem cListOf : CallR X (.type "list") (rListOf X.K) := call_list_of
def rIsN : R2 := fun x y H Q => y = .non ∧ Q (.bl (decide (x = .non))) H
theorem oIsN : OpR X (compareOp .Is) rIsN := op_isN
def rNotN : R2 := fun x y H Q => y = .non ∧ Q (.bl (!decide (x = .non))) H
theorem oNotN : OpR X (compareOp .IsNot) rNotN := op_notN
def rAddS : R2 := fun x y H Q => ∃ i j, x = .str i ∧ y = .str j ∧ i.length + j.length ≤ sizeLine ∧ Q (.str (i ++ j)) H
theorem oAddS : OpR X (binaryOp .Add) rAddS := op_add_str
def rAddIB : R2 := fun x y H Q => ∃ i k, x = .int i ∧ y = .bl k ∧ Q (.int (i + PyProof.Rows.b2i k)) H
theorem oAddIB : OpR X (binaryOp .Add) rAddIB := op_add_ib
def rStrI : List V → Hp → VK → Prop := fun xs H Q => ∃ i, xs = [.int i] ∧ i.natAbs.log2 < 1920 ∧ Q (.str (toString i)) H
theorem cStrI : CallR X (.type "str") rStrI := call_str_int
end
inductive Ith : List Ent → Nat → Ent → Prop where
  | here {e L} : Ith (e :: L) 0 e
  | there {e x L i} : Ith L i e → Ith (x :: L) (i + 1) e
theorem Ith.eq {L : List Ent} {i : Nat} {e : Ent} (h : Ith L i e) : L[i]? = some e := by
  induction h with
  | here => rfl
  | there _ ih => simpa using ih
inductive Sels : List Ent → List Nat → List Ent → Prop where
  | nil {L} : Sels L [] []
  | cons {L is L' e i} : Ith L i e → Sels L is L' → Sels L (i :: is) (e :: L')
theorem Sels.sel {L L' : List Ent} {is : List Nat} (h : Sels L is L') : Sel L is L' := by
  induction h with
  | nil => exact .nil
  | cons h _ ih => exact .cons h.eq ih
inductive SubT : TFs → TFs → Prop where
  | nil {T} : SubT T []
  | cons {T φ T'} : In1 T φ → SubT T T' → SubT T (φ :: T')
theorem SubT.all {T T' : TFs} (h : SubT T T') : ∀ φ ∈ T', φ ∈ T := by
  induction h with
  | nil => intro _ m; exact nomatch m
  | cons m _ ih =>
    intro φ q
    rcases List.mem_cons.mp q with rfl | q
    · exact m.mem
    · exact ih φ q
section
variable {H0 H : Hp} {S : List Addr} {L L' : List Ent} {T T' : TFs} {σ : L2.St} {Q : VK} {K : PySem.W.Frag} {a : Addr} {xs : List V}
theorem Sh.keep {is : List Nat} (h : Sh H0 S H L T) (s : Sels L is L') (hi : decide is.Nodup = true) (ht : SubT T T') : Sh H0 S H L' T' := h.sel is s.sel (of_decide_eq_true hi) ht.all
theorem Sh.sql (h : Sh H0 S H L T) (q : SqL K H0 a xs) (ha : a ∉ S) : SqL K H a xs := by
  rcases q with (q | ⟨o, q⟩) | q
  · exact .inl (.inl (h.fr _ _ ha q))
  · exact .inl (.inr ⟨o, h.fr _ _ ha q⟩)
  · exact .inr q
theorem g_sl {te : TE} {tl th : TO} {r : V → Option Int → Option Int → Hp → VK → Prop} (h : Go H0 S L T fun H => te σ H fun x H1 => tl σ H1 fun l H2 => th σ H2 fun u H3 => r x l u H3 Q) : Go H0 S L T fun H => tSl r te tl th σ H Q := h
def qPart (x : V) (H1 : Hp) (q : Option Int → Hp → Prop) : Prop := ∃ i, x = .int i ∧ q (some i) H1
theorem g_part {te : TE} {q : Option Int → Hp → Prop} (h : Go H0 S L T fun H => te σ H fun x H1 => qPart x H1 q) : Go H0 S L T fun H => tPart te σ H q := h
theorem g_qpart {i : Int} {q : Option Int → Hp → Prop} (h : Go H0 S L T fun H => q (some i) H) : Go H0 S L T fun H => qPart (.int i) H q := fun H s => ⟨i, rfl, h H s⟩
theorem g_nopart {q : Option Int → Hp → Prop} (h : Go H0 S L T fun H => q none H) : Go H0 S L T fun H => tNoPart σ H q := h
theorem g_rslS {lo hi : Option Int} (q : SqL K H0 a xs) (ha : a ∉ S) (h : ∀ p, Go H0 S ((p, .n, .lst (cutV xs lo hi)) :: L) T fun H => Q (.ref p) H) : Go H0 S L T fun H => rSlL K (.ref a) lo hi H Q := fun H s => ⟨a, xs, rfl, s.sql q ha, fun p hp => h p _ (s.alloc hp _)⟩
theorem g_rsl {lo hi : Option Int} (m : Lk H0 S L T a (.lst xs)) (h : ∀ p, Go H0 S ((p, .n, .lst (cutV xs lo hi)) :: L) T fun H => Q (.ref p) H) : Go H0 S L T fun H => rSlL K (.ref a) lo hi H Q := fun H s => ⟨a, xs, rfl, .inl (.inl ((m _ s))), fun p hp => h p _ (s.alloc hp _)⟩
theorem g_rcat {b : Addr} {ys : List V} (m : Lk H0 S L T a (.lst xs)) (m' : Lk H0 S L T b (.lst ys)) (l : xs.length + ys.length ≤ 100000) (h : ∀ p, Go H0 S ((p, .n, .lst (xs ++ ys)) :: L) T fun H => Q (.ref p) H) : Go H0 S L T fun H => rCat (.ref a) (.ref b) H Q := fun H s => ⟨a, b, xs, ys, rfl, rfl, (m _ s), m' _ s, Nat.le_trans l (by decide), fun p hp => h p _ (s.alloc hp _)⟩
theorem g_rint {i : Int} (h : Go H0 S L T fun H => Q (.int i) H) : Go H0 S L T fun H => rInt [.int i] H Q := fun H s => .inl ⟨i, rfl, h H s⟩
theorem g_rintB {b : Bool} (h : Go H0 S L T fun H => Q (.int (if b then 1 else 0)) H) : Go H0 S L T fun H => rInt [.bl b] H Q := fun H s => .inr ⟨b, rfl, h H s⟩
theorem g_rabs {i : Int} (h : Go H0 S L T fun H => Q (.int (if i < 0 then -i else i)) H) : Go H0 S L T fun H => rAbs [.int i] H Q := fun H s => ⟨i, rfl, h H s⟩
theorem g_rmax {i j : Int} (h : Go H0 S L T fun H => Q (.int (if j > i then j else i)) H) : Go H0 S L T fun H => rMax2 [.int i, .int j] H Q := fun H s => ⟨i, j, rfl, h H s⟩
theorem g_rmin {i j : Int} (h : Go H0 S L T fun H => Q (.int (if j < i then j else i)) H) : Go H0 S L T fun H => rMin2 [.int i, .int j] H Q := fun H s => ⟨i, j, rfl, h H s⟩
theorem g_rlen (m : Lk H0 S L T a (.lst xs)) (h : Go H0 S L T fun H => Q (.int xs.length) H) : Go H0 S L T fun H => rLen K [.ref a] H Q := fun H s => ⟨a, xs, rfl, .inl (.inl (.inl ((m _ s)))), h H s⟩
theorem g_rlenM {ns : List Int} (m : Lk H0 S L T a (.lst (ns.map V.int))) (h : Go H0 S L T fun H => Q (.int ns.length) H) : Go H0 S L T fun H => rLen K [.ref a] H Q := fun H s => ⟨a, _, rfl, .inl (.inl (.inl ((m _ s)))), by rw [List.length_map]; exact h H s⟩
theorem g_rlenT (m : Lk H0 S L T a (.tup xs)) (h : Go H0 S L T fun H => Q (.int xs.length) H) : Go H0 S L T fun H => rLen K [.ref a] H Q := fun H s => ⟨a, xs, rfl, .inr (.inl (.inl ((m _ s)))), h H s⟩
theorem g_rlenD {kvs : List (Key × V)} (m : Lk H0 S L T a (.dK kvs)) (h : Go H0 S L T fun H => Q (.int kvs.length) H) : Go H0 S L T fun H => rLenD [.ref a] H Q := fun H s => ⟨a, kvs, rfl, (m _ s), h H s⟩
theorem g_rlist (m : Lk H0 S L T a (.lst xs)) (h : ∀ p, Go H0 S ((p, .n, .lst xs) :: L) T fun H => Q (.ref p) H) : Go H0 S L T fun H => rListOf K [.ref a] H Q := fun H s => ⟨a, xs, rfl, .inl (.inl (.inl ((m _ s)))), fun p hp => h p _ (s.alloc hp _)⟩
theorem g_rlistT (m : Lk H0 S L T a (.tup xs)) (h : ∀ p, Go H0 S ((p, .n, .lst xs) :: L) T fun H => Q (.ref p) H) : Go H0 S L T fun H => rListOf K [.ref a] H Q := fun H s => ⟨a, xs, rfl, .inr (.inl (.inl ((m _ s)))), fun p hp => h p _ (s.alloc hp _)⟩
theorem g_risO {o : Option Int} (h : Go H0 S L T fun H => Q (.bl (decide (o = none))) H) : Go H0 S L T fun H => rIsN (oV o) .non H Q := fun H s => ⟨rfl, by rw [dON]; exact h H s⟩
theorem g_rnotO {o : Option Int} (h : Go H0 S L T fun H => Q (.bl (!decide (o = none))) H) : Go H0 S L T fun H => rNotN (oV o) .non H Q := fun H s => ⟨rfl, by rw [dON]; exact h H s⟩
theorem g_risV {x : V} (h : Go H0 S L T fun H => Q (.bl (decide (x = .non))) H) : Go H0 S L T fun H => rIsN x .non H Q := fun H s => ⟨rfl, h H s⟩
theorem g_rnotV {x : V} (h : Go H0 S L T fun H => Q (.bl (!decide (x = .non))) H) : Go H0 S L T fun H => rNotN x .non H Q := fun H s => ⟨rfl, h H s⟩
theorem g_raddS {i j : Str} (l : i.length + j.length ≤ 100000) (h : Go H0 S L T fun H => Q (.str (i ++ j)) H) : Go H0 S L T fun H => rAddS (.str i) (.str j) H Q := fun H s => ⟨i, j, rfl, rfl, Nat.le_trans l (by decide), h H s⟩
theorem g_raddIB {i : Int} {k : Bool} (h : Go H0 S L T fun H => Q (.int (i + PyProof.Rows.b2i k)) H) : Go H0 S L T fun H => rAddIB (.int i) (.bl k) H Q := fun H s => ⟨i, k, rfl, rfl, h H s⟩
theorem g_ip {g : Int → Int → Int} {i j : Int} (h : Go H0 S L T fun H => Q (.int (g i j)) H) : Go H0 S L T fun H => ipI g (.int i) (.int j) H Q := fun H s => ⟨i, j, rfl, rfl, h H s⟩
def qThree (i j l : Nat) (σ : L2.St) (nx : L2.St → Hp → Prop) (vs : List V) (H1 : Hp) : Prop := ∃ u v w, vs = [u, v, w] ∧ gName i u σ H1 fun σ1 H2 => gName j v σ1 H2 fun σ2 H3 => gName l w σ2 H3 nx
theorem g_par3 {i j l : Nat} {ta : TA} {nx bk ct : L2.St → Hp → Prop} {rt : VK} (h : Go H0 S L T fun H => ta σ H (qThree i j l σ nx)) : Go H0 S L T fun H => tPar3 i j l ta ⟨nx, rt, bk, ct⟩ σ H := h
theorem g_three {i j l : Nat} {u v w : V} {nx : L2.St → Hp → Prop} (h : Go H0 S L T fun H => gName i u σ H fun σ1 H2 => gName j v σ1 H2 fun σ2 H3 => gName l w σ2 H3 nx) : Go H0 S L T fun H => qThree i j l σ nx [u, v, w] H := fun H s => ⟨u, v, w, rfl, h H s⟩
/-! loops -/
def qFor (g : TG) (tb : TS) (nx : L2.St → Hp → Prop) (rt : VK) (σ : L2.St) (J : It) (H1 : Hp) : Prop := ∃ W : Nat → Nat → L2.St → Hp → Prop, (∃ m, W 0 m σ H1) ∧ ∀ i m σ H, W i m σ H →
  (J.stop i H ∧ nx σ H) ∨ (J.go i H ∧ ∃ N : L2.St → Hp → Prop, (∀ σ' H', N σ' H' → ∃ m', m' < m ∧ W (i + 1) m' σ' H') ∧ ∀ x H', J.yld i H x H' → g x σ H' fun σ2 H2 => tb ⟨N, rt, nx, N⟩ σ2 H2)
section
variable {nx bk ct : L2.St → Hp → Prop} {rt : VK} {g : TG} {tb : TS}
theorem g_for {wi : TI} (h : Go H0 S L T fun H => wi σ H (qFor g tb nx rt σ)) : Go H0 S L T fun H => tFor wi g tb ⟨nx, rt, bk, ct⟩ σ H := h
theorem qFor_R {lo : Int} {n : Nat} {H : Hp} (Pv : Nat → L2.St → Hp → Prop) (h0 : Pv 0 σ H)
    (hs : ∀ i σ H, i < n → Pv i σ H → g (.int (lo + i)) σ H fun σ2 H2 => tb ⟨Pv (i + 1), rt, nx, Pv (i + 1)⟩ σ2 H2) (hd : ∀ σ H, Pv n σ H → nx σ H) : qFor g tb nx rt σ (Itr lo n) H :=
  for_range (D := ⟨nx, rt, fun _ _ => False, fun _ _ => False⟩) Pv h0 hs hd
theorem qFor_L {H : Hp} (Pv : Nat → L2.St → Hp → Prop) (h0 : Pv 0 σ H) (hl : ∀ i σ H, i ≤ xs.length → Pv i σ H → SqL K H a xs)
    (hs : ∀ i x σ H, xs[i]? = some x → Pv i σ H → g x σ H fun σ2 H2 => tb ⟨Pv (i + 1), rt, nx, Pv (i + 1)⟩ σ2 H2) (hd : ∀ σ H, Pv xs.length σ H → nx σ H) : qFor g tb nx rt σ (Itl K a) H :=
  for_list (D := ⟨nx, rt, fun _ _ => False, fun _ _ => False⟩) Pv h0 hl hs hd
theorem qFor_T {H : Hp} (Pv : Nat → L2.St → Hp → Prop) (h0 : Pv 0 σ H) (hl : ∀ i σ H, i ≤ xs.length → Pv i σ H → SqT K H a xs)
    (hs : ∀ i x σ H, xs[i]? = some x → Pv i σ H → g x σ H fun σ2 H2 => tb ⟨Pv (i + 1), rt, nx, Pv (i + 1)⟩ σ2 H2) (hd : ∀ σ H, Pv xs.length σ H → nx σ H) : qFor g tb nx rt σ (Itt K a) H :=
  for_tup (D := ⟨nx, rt, fun _ _ => False, fun _ _ => False⟩) Pv h0 hl hs hd
end
def qRng1 (R : It → Hp → Prop) (vs : List V) (H1 : Hp) : Prop := ∃ j : Int, vs = [.int j] ∧ -(2 ^ 62) ≤ j ∧ j < 2 ^ 62 ∧ R (Itr 0 j.toNat) H1
def qRng2 (R : It → Hp → Prop) (vs : List V) (H1 : Hp) : Prop := ∃ i j : Int, vs = [.int i, .int j] ∧ (-(2 ^ 62) ≤ i ∧ i < 2 ^ 62 ∧ -(2 ^ 62) ≤ j ∧ j < 2 ^ 62) ∧ R (Itr i (j - i).toNat) H1
theorem g_rng1 {ta : TA} {R : It → Hp → Prop} (h : Go H0 S L T fun H => ta σ H (qRng1 R)) : Go H0 S L T fun H => iRng1 ta σ H R := h
theorem g_rng2 {ta : TA} {R : It → Hp → Prop} (h : Go H0 S L T fun H => ta σ H (qRng2 R)) : Go H0 S L T fun H => iRng2 ta σ H R := h
theorem g_qrng1 {R : It → Hp → Prop} {j : Int} (c : -(2 ^ 62) ≤ j ∧ j < 2 ^ 62) (h : Go H0 S L T fun H => R (Itr 0 j.toNat) H) : Go H0 S L T fun H => qRng1 R [.int j] H := fun H s => ⟨j, rfl, c.1, c.2, h H s⟩
theorem g_qrng2 {R : It → Hp → Prop} {i j : Int} (c : -(2 ^ 62) ≤ i ∧ i < 2 ^ 62 ∧ -(2 ^ 62) ≤ j ∧ j < 2 ^ 62) (h : Go H0 S L T fun H => R (Itr i (j - i).toNat) H) : Go H0 S L T fun H => qRng2 R [.int i, .int j] H := fun H s => ⟨i, j, rfl, c, h H s⟩
def qLst (K : PySem.W.Frag) (R : It → Hp → Prop) (x : V) (H1 : Hp) : Prop := ∃ a, x = .ref a ∧ (∃ xs, SqL K H1 a xs) ∧ R (Itl K a) H1
theorem g_ilist {te : TE} {R : It → Hp → Prop} (h : Go H0 S L T fun H => te σ H (qLst K R)) : Go H0 S L T fun H => iList K te σ H R := h
theorem g_qlst {R : It → Hp → Prop} (m : Lk H0 S L T a (.lst xs)) (h : Go H0 S L T fun H => R (Itl K a) H) : Go H0 S L T fun H => qLst K R (.ref a) H := fun H s => ⟨a, rfl, ⟨xs, .inl (.inl ((m _ s)))⟩, h H s⟩
def qTpl (K : PySem.W.Frag) (R : It → Hp → Prop) (x : V) (H1 : Hp) : Prop := ∃ a, x = .ref a ∧ (∃ xs, SqT K H1 a xs) ∧ R (Itt K a) H1
theorem g_itup {te : TE} {R : It → Hp → Prop} (h : Go H0 S L T fun H => te σ H (qTpl K R)) : Go H0 S L T fun H => iTup K te σ H R := h
theorem g_qtpl {R : It → Hp → Prop} (m : Lk H0 S L T a (.tup xs)) (h : Go H0 S L T fun H => R (Itt K a) H) : Go H0 S L T fun H => qTpl K R (.ref a) H := fun H s => ⟨a, rfl, ⟨xs, .inl (.inl ((m _ s)))⟩, h H s⟩
theorem seqL (h : Sh H0 S H L T) (m : Lk H0 S L T a (.lst xs)) : SqL K H a xs := .inl (.inl (m _ h))
theorem seqT (h : Sh H0 S H L T) (m : Lk H0 S L T a (.tup xs)) : SqT K H a xs := .inl (.inl (m _ h))
end
theorem atI_int {α : Type} {xs : List α} {i : Int} {v : α} (h0 : 0 ≤ i) (h : xs[i.toNat]? = some v) : atI xs i = some v := by
  have := atI_nat h
  rwa [Int.toNat_of_nonneg h0] at this
theorem atI_map {ns : List Int} {i : Int} (h0 : 0 ≤ i) (h1 : i < ns.length) : atI (ns.map V.int) i = some (.int (ns.getD i.toNat 0)) := by
  have hl : i.toNat < ns.length := by omega
  refine atI_int h0 ?_
  rw [List.getElem?_map, List.getElem?_eq_getElem hl, List.getD_eq_getElem?_getD, List.getElem?_eq_getElem hl]
  rfl
end L3

/-! L3f: effects of calls with any number of changed and new objects. -/
namespace L3
open PySem L2
inductive Upds : List Ent → List (Addr × HO) → List Ent → Prop where
  | nil {L} : Upds L [] L
  | cons {L a o o' L1 W L'} : Upd L a o o' L1 → Upds L1 W L' → Upds L ((a, o') :: W) L'
inductive NewL : List Ent → List Nat → List (Addr × HO) → Prop where
  | nil {L} : NewL L [] []
  | cons {L i p o is N} : Ith L i (p, .n, o) → NewL L is N → NewL L (i :: is) ((p, o) :: N)
inductive AtL : List Ent → List (Addr × HO) → Prop where
  | nil {L} : AtL L []
  | cons {L a o W} : At L a o → AtL L W → AtL L ((a, o) :: W)
section
variable {H0 H H' : Hp} {S : List Addr} {L L' : List Ent} {T : TFs} {W N : List (Addr × HO)}
theorem Upd.flag {a : Addr} {o o' : HO} (u : Upd L a o o' L') : ∀ e ∈ L', ∃ v, (e.1, e.2.1, v) ∈ L := by
  induction u with
  | here hf ht =>
    intro e m
    rcases List.mem_cons.mp m with rfl | m
    · exact ⟨_, List.mem_cons_self⟩
    · exact ⟨e.2.2, List.mem_cons_of_mem _ m⟩
  | there _ ih =>
    intro e m
    rcases List.mem_cons.mp m with rfl | m
    · exact ⟨_, List.mem_cons_self⟩
    · obtain ⟨v, q⟩ := ih e m
      exact ⟨v, List.mem_cons_of_mem _ q⟩
theorem Upds.flag (u : Upds L W L') : ∀ e ∈ L', ∃ v, (e.1, e.2.1, v) ∈ L := by
  induction u with
  | nil => intro e m; exact ⟨e.2.2, m⟩
  | cons u _ ih =>
    intro e m
    obtain ⟨v, q⟩ := ih e m
    exact u.flag (e.1, e.2.1, v) q
theorem Upds.dom (u : Upds L W L') : L'.map (fun e => e.1) = L.map (fun e => e.1) := by
  induction u with
  | nil => rfl
  | cons u _ ih => rw [ih, u.dom]
theorem Upds.old (u : Upds L W L') (nd : (L.map fun e => e.1).Nodup) : ∀ e ∈ L', (e.1, e.2.2) ∈ W ∨ (e.1 ∉ W.map (fun p => p.1) ∧ e ∈ L) := by
  induction u with
  | nil => intro e m; exact .inr ⟨by simp, m⟩
  | @cons L a o o' L1 W L' u _ ih =>
    intro e m
    rcases ih (by rw [u.dom]; exact nd) e m with q | ⟨q1, q2⟩
    · exact .inl (List.mem_cons_of_mem _ q)
    · rcases u.old nd e q2 with ⟨h1, h2, _⟩ | ⟨h1, h2⟩
      · refine .inl ?_
        rw [h1, h2]
        exact List.mem_cons_self
      · refine .inr ⟨fun z => ?_, h2⟩
        rcases List.mem_cons.mp z with z | z
        · exact h1 z
        · exact q1 z
theorem Upds.own (u : Upds L W L') : ∀ p ∈ W, ∃ f o, f ≠ Fl.r ∧ (p.1, f, o) ∈ L := by
  induction u with
  | nil => intro p m; exact nomatch m
  | @cons L a o o' L1 W L' u _ ih =>
    intro p m
    rcases List.mem_cons.mp m with rfl | m
    · obtain ⟨f, h1, _, h3, _⟩ := u.mem
      exact ⟨f, o, h1, h3⟩
    · obtain ⟨f, v, h1, h2⟩ := ih p m
      obtain ⟨w, q⟩ := u.flag _ h2
      exact ⟨f, w, h1, q⟩
def newE (N : List (Addr × HO)) : List Ent := N.map fun p => (p.1, .n, p.2)
theorem Sh.effW (h : Sh H0 S H L T) (u : Upds L W L') (e : Eff H H' W N) : Sh H0 S H' L' T := by
  refine ⟨fun x m => ?_, by rw [u.dom]; exact h.nd, fun b o hb q => ?_, fun b q => h.lv b (e.lv b q), fun b xs q => e.tp b xs (h.tp b xs q), fun x m q => ?_, fun x m q => ?_, fun φ m => ⟨(h.tf φ m).2 _ _ e.tp (h.tf φ m).1, (h.tf φ m).2⟩⟩
  · rcases u.old h.nd x m with q | ⟨q1, q2⟩
    · exact e.wr _ q
    · exact e.ch _ _ q1 (h.at_ x q2)
  · refine e.ch _ _ (fun z => ?_) (h.fr b o hb q)
    obtain ⟨p, hp, rfl⟩ := List.mem_map.mp z
    obtain ⟨f, v, h1, h2⟩ := u.own p hp
    cases f with
    | n => have := h.nw _ h2 rfl; rw [this] at q; cases q
    | s => exact hb (h.ow _ h2 rfl)
    | r => exact h1 rfl
  · obtain ⟨v, z⟩ := u.flag x m
    exact h.nw (x.1, x.2.1, v) z q
  · obtain ⟨v, z⟩ := u.flag x m
    exact h.ow (x.1, x.2.1, v) z q
theorem Sh.addN (h : Sh H0 S H' L T) (hN : ∀ p ∈ N, H0 p.1 = none ∧ H' p.1 = some p.2 ∧ p.1 ∉ L.map fun e => e.1) (nd : (N.map fun p => p.1).Nodup) : Sh H0 S H' (newE N ++ L) T := by
  induction N with
  | nil => exact h
  | cons p N ih =>
    obtain ⟨n1, n2⟩ := List.nodup_cons.mp nd
    have k := ih (fun q m => hN q (List.mem_cons_of_mem _ m)) n2
    obtain ⟨a1, a2, a3⟩ := hN p List.mem_cons_self
    refine k.addNew a1 a2 fun z => ?_
    rw [List.map_append] at z
    rcases List.mem_append.mp z with z | z
    · refine n1 ?_
      unfold newE at z
      rw [List.map_map] at z
      exact z
    · exact a3 z
theorem Sh.effG (h : Sh H0 S H L T) (u : Upds L W L') (e : Eff H H' W N) : Sh H0 S H' (newE N ++ L') T :=
  (h.effW u e).addN (fun p m => ⟨h.lv _ (e.nw p m).1, (e.nw p m).2, by rw [u.dom]; exact h.freshL (e.nw p m).1⟩) e.nd
theorem AtL.all (m : AtL L W) (h : Sh H0 S H L T) : ∀ p ∈ W, H p.1 = some p.2 := by
  induction m with
  | nil => intro p m; exact nomatch m
  | cons m _ ih =>
    intro p q
    rcases List.mem_cons.mp q with rfl | q
    · exact h.get m
    · exact ih p q
theorem Ith.mem {i : Nat} {e : Ent} (h : Ith L i e) : e ∈ L := List.mem_of_getElem? h.eq
theorem NewL.all {is : List Nat} (m : NewL L is N) (h : Sh H0 S H L T) : ∀ p ∈ N, H0 p.1 = none ∧ H p.1 = some p.2 := by
  induction m with
  | nil => intro p m; exact nomatch m
  | cons m _ ih =>
    intro p q
    rcases List.mem_cons.mp q with rfl | q
    · exact ⟨h.nw _ m.mem rfl, h.at_ _ m.mem⟩
    · exact ih p q
theorem NewL.ix {is : List Nat} (m : NewL L is N) : ∀ p ∈ N, ∃ i ∈ is, (L.map fun e => e.1)[i]? = some p.1 := by
  induction m with
  | nil => intro p m; exact nomatch m
  | cons m _ ih =>
    intro p q
    rcases List.mem_cons.mp q with rfl | q
    · exact ⟨_, List.mem_cons_self, by rw [List.getElem?_map, m.eq]; rfl⟩
    · obtain ⟨i, hi, z⟩ := ih p q
      exact ⟨i, List.mem_cons_of_mem _ hi, z⟩
theorem NewL.nd {is : List Nat} (m : NewL L is N) (hi : is.Nodup) (nd : (L.map fun e => e.1).Nodup) : (N.map fun p => p.1).Nodup := by
  induction m with
  | nil => exact List.nodup_nil
  | @cons i p o is N m mm ih =>
    obtain ⟨n1, n2⟩ := List.nodup_cons.mp hi
    refine List.nodup_cons.mpr ⟨fun z => ?_, ih n2⟩
    obtain ⟨q, hq, e⟩ := List.mem_map.mp z
    obtain ⟨j, hj, ej⟩ := mm.ix q hq
    have e1 : (L.map fun e => e.1)[i]? = some p := by rw [List.getElem?_map, m.eq]; rfl
    have ej : (L.map fun e => e.1)[j]? = some p := by rw [ej]; exact congrArg some e
    exact n1 ((nd_ix nd e1 ej) ▸ hj)
theorem Sh.toEffG {is : List Nat} (h : Sh H0 S H L T) (w : AtL L W) (es : W.map (fun p => p.1) = S) (s : NewL L is N) (hi : decide is.Nodup = true) : Eff H0 H W N :=
  ⟨fun b o hb e => h.fr b o (by rw [← es]; exact hb) e, h.lv, h.tp, w.all h, s.all h, s.nd (of_decide_eq_true hi) h.nd⟩
end
end L3

/-! L3g: isinstance by kinds; the same values. -/
namespace L3
open PySem L2
section
variable {H0 : Hp} {S : List Addr} {L : List Ent} {T : TFs} {Q : VK} {K : PySem.W.Frag}
theorem gi_int_bool {i : Int} (h : Go H0 S L T fun H => Q (.bl false) H) : Go H0 S L T fun H => rIsi K [.int i, .ty "bool"] H Q := fun H s => ⟨.int i, .ty "bool", _, _, false, rfl, .ty "bool", .base (.int i), kit_ty (by decide +kernel), h H s⟩
theorem gi_int_int {i : Int} (h : Go H0 S L T fun H => Q (.bl true) H) : Go H0 S L T fun H => rIsi K [.int i, .ty "int"] H Q := fun H s => ⟨.int i, .ty "int", _, _, true, rfl, .ty "int", .base (.int i), kit_ty (by decide +kernel), h H s⟩
theorem gi_int_str {i : Int} (h : Go H0 S L T fun H => Q (.bl false) H) : Go H0 S L T fun H => rIsi K [.int i, .ty "str"] H Q := fun H s => ⟨.int i, .ty "str", _, _, false, rfl, .ty "str", .base (.int i), kit_ty (by decide +kernel), h H s⟩
theorem gi_int_list {i : Int} (h : Go H0 S L T fun H => Q (.bl false) H) : Go H0 S L T fun H => rIsi K [.int i, .ty "list"] H Q := fun H s => ⟨.int i, .ty "list", _, _, false, rfl, .ty "list", .base (.int i), kit_ty (by decide +kernel), h H s⟩
theorem gi_int_tuple {i : Int} (h : Go H0 S L T fun H => Q (.bl false) H) : Go H0 S L T fun H => rIsi K [.int i, .ty "tuple"] H Q := fun H s => ⟨.int i, .ty "tuple", _, _, false, rfl, .ty "tuple", .base (.int i), kit_ty (by decide +kernel), h H s⟩
theorem gi_int_dict {i : Int} (h : Go H0 S L T fun H => Q (.bl false) H) : Go H0 S L T fun H => rIsi K [.int i, .ty "dict"] H Q := fun H s => ⟨.int i, .ty "dict", _, _, false, rfl, .ty "dict", .base (.int i), kit_ty (by decide +kernel), h H s⟩
theorem gi_bool_bool {i : Bool} (h : Go H0 S L T fun H => Q (.bl true) H) : Go H0 S L T fun H => rIsi K [.bl i, .ty "bool"] H Q := fun H s => ⟨.bl i, .ty "bool", _, _, true, rfl, .ty "bool", .base (.bl i), kit_ty (by decide +kernel), h H s⟩
theorem gi_bool_int {i : Bool} (h : Go H0 S L T fun H => Q (.bl true) H) : Go H0 S L T fun H => rIsi K [.bl i, .ty "int"] H Q := fun H s => ⟨.bl i, .ty "int", _, _, true, rfl, .ty "int", .base (.bl i), kit_ty (by decide +kernel), h H s⟩
theorem gi_bool_str {i : Bool} (h : Go H0 S L T fun H => Q (.bl false) H) : Go H0 S L T fun H => rIsi K [.bl i, .ty "str"] H Q := fun H s => ⟨.bl i, .ty "str", _, _, false, rfl, .ty "str", .base (.bl i), kit_ty (by decide +kernel), h H s⟩
theorem gi_bool_list {i : Bool} (h : Go H0 S L T fun H => Q (.bl false) H) : Go H0 S L T fun H => rIsi K [.bl i, .ty "list"] H Q := fun H s => ⟨.bl i, .ty "list", _, _, false, rfl, .ty "list", .base (.bl i), kit_ty (by decide +kernel), h H s⟩
theorem gi_bool_tuple {i : Bool} (h : Go H0 S L T fun H => Q (.bl false) H) : Go H0 S L T fun H => rIsi K [.bl i, .ty "tuple"] H Q := fun H s => ⟨.bl i, .ty "tuple", _, _, false, rfl, .ty "tuple", .base (.bl i), kit_ty (by decide +kernel), h H s⟩
theorem gi_bool_dict {i : Bool} (h : Go H0 S L T fun H => Q (.bl false) H) : Go H0 S L T fun H => rIsi K [.bl i, .ty "dict"] H Q := fun H s => ⟨.bl i, .ty "dict", _, _, false, rfl, .ty "dict", .base (.bl i), kit_ty (by decide +kernel), h H s⟩
theorem gi_str_bool {i : Str} (h : Go H0 S L T fun H => Q (.bl false) H) : Go H0 S L T fun H => rIsi K [.str i, .ty "bool"] H Q := fun H s => ⟨.str i, .ty "bool", _, _, false, rfl, .ty "bool", .base (.str i), kit_ty (by decide +kernel), h H s⟩
theorem gi_str_int {i : Str} (h : Go H0 S L T fun H => Q (.bl false) H) : Go H0 S L T fun H => rIsi K [.str i, .ty "int"] H Q := fun H s => ⟨.str i, .ty "int", _, _, false, rfl, .ty "int", .base (.str i), kit_ty (by decide +kernel), h H s⟩
theorem gi_str_str {i : Str} (h : Go H0 S L T fun H => Q (.bl true) H) : Go H0 S L T fun H => rIsi K [.str i, .ty "str"] H Q := fun H s => ⟨.str i, .ty "str", _, _, true, rfl, .ty "str", .base (.str i), kit_ty (by decide +kernel), h H s⟩
theorem gi_str_list {i : Str} (h : Go H0 S L T fun H => Q (.bl false) H) : Go H0 S L T fun H => rIsi K [.str i, .ty "list"] H Q := fun H s => ⟨.str i, .ty "list", _, _, false, rfl, .ty "list", .base (.str i), kit_ty (by decide +kernel), h H s⟩
theorem gi_str_tuple {i : Str} (h : Go H0 S L T fun H => Q (.bl false) H) : Go H0 S L T fun H => rIsi K [.str i, .ty "tuple"] H Q := fun H s => ⟨.str i, .ty "tuple", _, _, false, rfl, .ty "tuple", .base (.str i), kit_ty (by decide +kernel), h H s⟩
theorem gi_str_dict {i : Str} (h : Go H0 S L T fun H => Q (.bl false) H) : Go H0 S L T fun H => rIsi K [.str i, .ty "dict"] H Q := fun H s => ⟨.str i, .ty "dict", _, _, false, rfl, .ty "dict", .base (.str i), kit_ty (by decide +kernel), h H s⟩
theorem gi_NoneType_bool  (h : Go H0 S L T fun H => Q (.bl false) H) : Go H0 S L T fun H => rIsi K [.non, .ty "bool"] H Q := fun H s => ⟨.non, .ty "bool", _, _, false, rfl, .ty "bool", .base .non, kit_ty (by decide +kernel), h H s⟩
theorem gi_NoneType_int  (h : Go H0 S L T fun H => Q (.bl false) H) : Go H0 S L T fun H => rIsi K [.non, .ty "int"] H Q := fun H s => ⟨.non, .ty "int", _, _, false, rfl, .ty "int", .base .non, kit_ty (by decide +kernel), h H s⟩
theorem gi_NoneType_str  (h : Go H0 S L T fun H => Q (.bl false) H) : Go H0 S L T fun H => rIsi K [.non, .ty "str"] H Q := fun H s => ⟨.non, .ty "str", _, _, false, rfl, .ty "str", .base .non, kit_ty (by decide +kernel), h H s⟩
theorem gi_NoneType_list  (h : Go H0 S L T fun H => Q (.bl false) H) : Go H0 S L T fun H => rIsi K [.non, .ty "list"] H Q := fun H s => ⟨.non, .ty "list", _, _, false, rfl, .ty "list", .base .non, kit_ty (by decide +kernel), h H s⟩
theorem gi_NoneType_tuple  (h : Go H0 S L T fun H => Q (.bl false) H) : Go H0 S L T fun H => rIsi K [.non, .ty "tuple"] H Q := fun H s => ⟨.non, .ty "tuple", _, _, false, rfl, .ty "tuple", .base .non, kit_ty (by decide +kernel), h H s⟩
theorem gi_NoneType_dict  (h : Go H0 S L T fun H => Q (.bl false) H) : Go H0 S L T fun H => rIsi K [.non, .ty "dict"] H Q := fun H s => ⟨.non, .ty "dict", _, _, false, rfl, .ty "dict", .base .non, kit_ty (by decide +kernel), h H s⟩
theorem gi_list_bool {p : Addr} {xs : List V} (m : Lk H0 S L T p (.lst xs)) (h : Go H0 S L T fun H => Q (.bl false) H) : Go H0 S L T fun H => rIsi K [.ref p, .ty "bool"] H Q := fun H s => ⟨.ref p, .ty "bool", _, _, false, rfl, .ty "bool", .base (.lst (m _ s)), kit_ty (by decide +kernel), h H s⟩
theorem gi_list_int {p : Addr} {xs : List V} (m : Lk H0 S L T p (.lst xs)) (h : Go H0 S L T fun H => Q (.bl false) H) : Go H0 S L T fun H => rIsi K [.ref p, .ty "int"] H Q := fun H s => ⟨.ref p, .ty "int", _, _, false, rfl, .ty "int", .base (.lst (m _ s)), kit_ty (by decide +kernel), h H s⟩
theorem gi_list_str {p : Addr} {xs : List V} (m : Lk H0 S L T p (.lst xs)) (h : Go H0 S L T fun H => Q (.bl false) H) : Go H0 S L T fun H => rIsi K [.ref p, .ty "str"] H Q := fun H s => ⟨.ref p, .ty "str", _, _, false, rfl, .ty "str", .base (.lst (m _ s)), kit_ty (by decide +kernel), h H s⟩
theorem gi_list_list {p : Addr} {xs : List V} (m : Lk H0 S L T p (.lst xs)) (h : Go H0 S L T fun H => Q (.bl true) H) : Go H0 S L T fun H => rIsi K [.ref p, .ty "list"] H Q := fun H s => ⟨.ref p, .ty "list", _, _, true, rfl, .ty "list", .base (.lst (m _ s)), kit_ty (by decide +kernel), h H s⟩
theorem gi_list_tuple {p : Addr} {xs : List V} (m : Lk H0 S L T p (.lst xs)) (h : Go H0 S L T fun H => Q (.bl false) H) : Go H0 S L T fun H => rIsi K [.ref p, .ty "tuple"] H Q := fun H s => ⟨.ref p, .ty "tuple", _, _, false, rfl, .ty "tuple", .base (.lst (m _ s)), kit_ty (by decide +kernel), h H s⟩
theorem gi_list_dict {p : Addr} {xs : List V} (m : Lk H0 S L T p (.lst xs)) (h : Go H0 S L T fun H => Q (.bl false) H) : Go H0 S L T fun H => rIsi K [.ref p, .ty "dict"] H Q := fun H s => ⟨.ref p, .ty "dict", _, _, false, rfl, .ty "dict", .base (.lst (m _ s)), kit_ty (by decide +kernel), h H s⟩
theorem gi_tuple_bool {p : Addr} {xs : List V} (m : Lk H0 S L T p (.tup xs)) (h : Go H0 S L T fun H => Q (.bl false) H) : Go H0 S L T fun H => rIsi K [.ref p, .ty "bool"] H Q := fun H s => ⟨.ref p, .ty "bool", _, _, false, rfl, .ty "bool", .base (.tup (m _ s)), kit_ty (by decide +kernel), h H s⟩
theorem gi_tuple_int {p : Addr} {xs : List V} (m : Lk H0 S L T p (.tup xs)) (h : Go H0 S L T fun H => Q (.bl false) H) : Go H0 S L T fun H => rIsi K [.ref p, .ty "int"] H Q := fun H s => ⟨.ref p, .ty "int", _, _, false, rfl, .ty "int", .base (.tup (m _ s)), kit_ty (by decide +kernel), h H s⟩
theorem gi_tuple_str {p : Addr} {xs : List V} (m : Lk H0 S L T p (.tup xs)) (h : Go H0 S L T fun H => Q (.bl false) H) : Go H0 S L T fun H => rIsi K [.ref p, .ty "str"] H Q := fun H s => ⟨.ref p, .ty "str", _, _, false, rfl, .ty "str", .base (.tup (m _ s)), kit_ty (by decide +kernel), h H s⟩
theorem gi_tuple_list {p : Addr} {xs : List V} (m : Lk H0 S L T p (.tup xs)) (h : Go H0 S L T fun H => Q (.bl false) H) : Go H0 S L T fun H => rIsi K [.ref p, .ty "list"] H Q := fun H s => ⟨.ref p, .ty "list", _, _, false, rfl, .ty "list", .base (.tup (m _ s)), kit_ty (by decide +kernel), h H s⟩
theorem gi_tuple_tuple {p : Addr} {xs : List V} (m : Lk H0 S L T p (.tup xs)) (h : Go H0 S L T fun H => Q (.bl true) H) : Go H0 S L T fun H => rIsi K [.ref p, .ty "tuple"] H Q := fun H s => ⟨.ref p, .ty "tuple", _, _, true, rfl, .ty "tuple", .base (.tup (m _ s)), kit_ty (by decide +kernel), h H s⟩
theorem gi_tuple_dict {p : Addr} {xs : List V} (m : Lk H0 S L T p (.tup xs)) (h : Go H0 S L T fun H => Q (.bl false) H) : Go H0 S L T fun H => rIsi K [.ref p, .ty "dict"] H Q := fun H s => ⟨.ref p, .ty "dict", _, _, false, rfl, .ty "dict", .base (.tup (m _ s)), kit_ty (by decide +kernel), h H s⟩
theorem gi_dict_bool {p : Addr} {xs : List (Key × V)} (m : Lk H0 S L T p (.dK xs)) (h : Go H0 S L T fun H => Q (.bl false) H) : Go H0 S L T fun H => rIsi K [.ref p, .ty "bool"] H Q := fun H s => ⟨.ref p, .ty "bool", _, _, false, rfl, .ty "bool", .base (.dK (m _ s)), kit_ty (by decide +kernel), h H s⟩
theorem gi_dict_int {p : Addr} {xs : List (Key × V)} (m : Lk H0 S L T p (.dK xs)) (h : Go H0 S L T fun H => Q (.bl false) H) : Go H0 S L T fun H => rIsi K [.ref p, .ty "int"] H Q := fun H s => ⟨.ref p, .ty "int", _, _, false, rfl, .ty "int", .base (.dK (m _ s)), kit_ty (by decide +kernel), h H s⟩
theorem gi_dict_str {p : Addr} {xs : List (Key × V)} (m : Lk H0 S L T p (.dK xs)) (h : Go H0 S L T fun H => Q (.bl false) H) : Go H0 S L T fun H => rIsi K [.ref p, .ty "str"] H Q := fun H s => ⟨.ref p, .ty "str", _, _, false, rfl, .ty "str", .base (.dK (m _ s)), kit_ty (by decide +kernel), h H s⟩
theorem gi_dict_list {p : Addr} {xs : List (Key × V)} (m : Lk H0 S L T p (.dK xs)) (h : Go H0 S L T fun H => Q (.bl false) H) : Go H0 S L T fun H => rIsi K [.ref p, .ty "list"] H Q := fun H s => ⟨.ref p, .ty "list", _, _, false, rfl, .ty "list", .base (.dK (m _ s)), kit_ty (by decide +kernel), h H s⟩
theorem gi_dict_tuple {p : Addr} {xs : List (Key × V)} (m : Lk H0 S L T p (.dK xs)) (h : Go H0 S L T fun H => Q (.bl false) H) : Go H0 S L T fun H => rIsi K [.ref p, .ty "tuple"] H Q := fun H s => ⟨.ref p, .ty "tuple", _, _, false, rfl, .ty "tuple", .base (.dK (m _ s)), kit_ty (by decide +kernel), h H s⟩
theorem gi_dict_dict {p : Addr} {xs : List (Key × V)} (m : Lk H0 S L T p (.dK xs)) (h : Go H0 S L T fun H => Q (.bl true) H) : Go H0 S L T fun H => rIsi K [.ref p, .ty "dict"] H Q := fun H s => ⟨.ref p, .ty "dict", _, _, true, rfl, .ty "dict", .base (.dK (m _ s)), kit_ty (by decide +kernel), h H s⟩
/-! the same of the same kinds, n lists or tuples deep -/
def Flat : V → Prop
  | .non => True
  | .bl _ => True
  | .int _ => True
  | .str _ => True
  | _ => False
def Sm (H : Hp) : Nat → V → V → Prop
  | 0, x, y => x = y ∧ Flat y
  | n + 1, x, y => (x = y ∧ Flat y) ∨ (∃ a b xs ys, x = .ref a ∧ y = .ref b ∧ H a = some (.lst xs) ∧ H b = some (.lst ys) ∧ ys.length ≤ 100000 ∧ Paired (Sm H n) xs ys) ∨ ∃ a b xs ys, x = .ref a ∧ y = .ref b ∧ H a = some (.tup xs) ∧ H b = some (.tup ys) ∧ ys.length ≤ 100000 ∧ Paired (Sm H n) xs ys
theorem Sm.flat {H : Hp} {x : V} (f : Flat x) : ∀ n, Sm H n x x
  | 0 => ⟨rfl, f⟩
  | _ + 1 => .inl ⟨rfl, f⟩
theorem Sm.int {H : Hp} {i : Int} {n : Nat} : Sm H n (.int i) (.int i) := Sm.flat (by exact True.intro) n
theorem Sm.bl {H : Hp} {i : Bool} {n : Nat} : Sm H n (.bl i) (.bl i) := Sm.flat (by exact True.intro) n
theorem Sm.str {H : Hp} {i : Str} {n : Nat} : Sm H n (.str i) (.str i) := Sm.flat (by exact True.intro) n
theorem Sm.non {H : Hp} {n : Nat} : Sm H n .non .non := Sm.flat (by exact True.intro) n
theorem Sm.oV {H : Hp} {n : Nat} {o : Option Int} : Sm H n (oV o) (oV o) := by cases o <;> exact Sm.flat (by exact True.intro) n
theorem Paired.get2 {α β : Type} {F : α → β → Prop} : ∀ {l : List α} {m : List β}, Paired F l m → ∀ (i : Nat) (y : β), m[i]? = some y → ∃ x, l[i]? = some x ∧ F x y
  | _, _, .nil, i, y, h => by simp at h
  | _, _, .cons r t, 0, y, h => by simp at h; subst h; exact ⟨_, rfl, r⟩
  | _, _, .cons r t, i + 1, y, h => by
    obtain ⟨x, h1, h2⟩ := Paired.get2 t i y (by simpa using h)
    exact ⟨x, by simpa using h1, h2⟩
theorem Sm.mono {H H' : Hp} (k : ∀ b o, H b = some o → H' b = some o) : ∀ (n : Nat) {x y : V}, Sm H n x y → Sm H' n x y
  | 0, _, _, h => h
  | n + 1, _, _, h => by
    rcases h with h | ⟨a, b, xs, ys, rfl, rfl, h1, h2, hz, h3⟩ | ⟨a, b, xs, ys, rfl, rfl, h1, h2, hz, h3⟩
    · exact .inl h
    · exact .inr (.inl ⟨a, b, xs, ys, rfl, rfl, k _ _ h1, k _ _ h2, hz, Paired.mapP h3 fun _ _ => Sm.mono k n⟩)
    · exact .inr (.inr ⟨a, b, xs, ys, rfl, rfl, k _ _ h1, k _ _ h2, hz, Paired.mapP h3 fun _ _ => Sm.mono k n⟩)
def spSame (n : Nat) : Sp := fun vs H Q _ => ∃ x y, vs = [x, y] ∧ Sm H n x y ∧ ∀ H', Eff H H' [] [] → Q (.bl true) H'
theorem gl_same {n : Nat} {x y : V} {E : XK} (m : ∀ H, Sh H0 S H L T → Sm H n x y) (h : Go H0 S L T fun H => Q (.bl true) H) : Go H0 S L T fun H => spSame n [x, y] H Q E := fun H s => ⟨x, y, rfl, m H s, fun H' e => h H' (s.eff0 e)⟩
end
end L3

/-! L3h: comprehensions; all, any, sum. -/
namespace L3
open PySem L2
section
variable {H0 H : Hp} {S : List Addr} {L L' : List Ent} {T : TFs} {σ : L2.St} {Q : VK} {K : PySem.W.Frag} {a : Addr} {xs : List V}
def qAcc (D : Addr) (Nx : Hp → Prop) (y : V) (H4 : Hp) : Prop := ∃ acc, H4 D = some (.lst acc) ∧ acc.length < sizeLine ∧ Nx (upd H4 D (.lst (acc ++ [y])))
def qLc (g : TG) (tt : TT) (te : TE) (vs : List Nat) (σ : L2.St) (Q : VK) (J : It) (H1 : Hp) : Prop := ∀ D, H1 D = none → ∃ W : Nat → Nat → Hp → Prop, (∃ m, W 0 m (upd H1 D (.lst []))) ∧ ∀ i m H, W i m H →
  (J.stop i H ∧ Q (.ref D) H) ∨ (J.go i H ∧ ∃ Nx : Hp → Prop, (∀ H', Nx H' → ∃ m', m' < m ∧ W (i + 1) m' H') ∧ ∀ x H', J.yld i H x H' → g x (wipe σ vs) H' fun σ2 H2 => wipe σ2 vs = wipe σ vs ∧ tt σ2 H2 fun b H3 => if b = true then te σ2 H3 (qAcc D Nx) else Nx H3)
theorem g_lc {wi : TI} {g : TG} {tt : TT} {te : TE} {vs : List Nat} (h : Go H0 S L T fun H => wi σ H (qLc g tt te vs σ Q)) : Go H0 S L T fun H => tLc wi g tt te vs σ H Q := h
theorem g_yes {q : Bool → Hp → Prop} (h : Go H0 S L T fun H => q true H) : Go H0 S L T fun H => tYes σ H q := h
theorem g_wipe {σ1 σ2 : L2.St} {g : Hp → Prop} (e : σ1 = σ2) (h : Go H0 S L T g) : Go H0 S L T fun H => (σ1 = σ2 ∧ g H) := fun H s => ⟨e, h H s⟩
theorem g_acc {D : Addr} {Nx : Hp → Prop} {y : V} {acc : List V} (u : Upd L D (.lst acc) (.lst (acc ++ [y])) L') (l : acc.length < 100000) (h : Go H0 S L' T Nx) : Go H0 S L T fun H => qAcc D Nx y H := fun H s => ⟨acc, s.getU u, Nat.lt_of_lt_of_le l (by decide), h _ (s.write u)⟩
section
variable {g : TG} {tt : TT} {te : TE} {vs : List Nat}
theorem qLc_R {lo : Int} {n : Nat} (Pv : Addr → Nat → Hp → Prop) (h0 : ∀ D, H D = none → Pv D 0 (upd H D (.lst [])))
    (hs : ∀ D i H, i < n → Pv D i H → g (.int (lo + i)) (wipe σ vs) H fun σ2 H2 => wipe σ2 vs = wipe σ vs ∧ tt σ2 H2 fun b H3 => if b = true then te σ2 H3 (qAcc D (Pv D (i + 1))) else Pv D (i + 1) H3) (hd : ∀ D H, Pv D n H → Q (.ref D) H) : qLc g tt te vs σ Q (Itr lo n) H :=
  fun D hD => lc_range (Pv D) (h0 D hD) (hs D) (hd D)
theorem qLc_L (Pv : Addr → Nat → Hp → Prop) (h0 : ∀ D, H D = none → Pv D 0 (upd H D (.lst []))) (hl : ∀ D i H, i ≤ xs.length → Pv D i H → SqL K H a xs)
    (hs : ∀ D i x H, xs[i]? = some x → Pv D i H → g x (wipe σ vs) H fun σ2 H2 => wipe σ2 vs = wipe σ vs ∧ tt σ2 H2 fun b H3 => if b = true then te σ2 H3 (qAcc D (Pv D (i + 1))) else Pv D (i + 1) H3) (hd : ∀ D H, Pv D xs.length H → Q (.ref D) H) : qLc g tt te vs σ Q (Itl K a) H :=
  fun D hD => lc_list (Pv D) (h0 D hD) (hl D) (hs D) (hd D)
end
theorem g_all {bs : List Bool} (m : Lk H0 S L T a (.lst (bs.map V.bl))) (h : Go H0 S L T fun H => Q (.bl (bs.all id)) H) : Go H0 S L T fun H => rAll K [.ref a] H Q := fun H s => ⟨a, bs, rfl, .inl (.inl (m _ s)), h H s⟩
theorem g_any {bs : List Bool} (m : Lk H0 S L T a (.lst (bs.map V.bl))) (h : Go H0 S L T fun H => Q (.bl (bs.any id)) H) : Go H0 S L T fun H => rAny K [.ref a] H Q := fun H s => ⟨a, bs, rfl, .inl (.inl (m _ s)), h H s⟩
theorem g_sum {ns : List Int} (m : Lk H0 S L T a (.lst (ns.map V.int))) (h : Go H0 S L T fun H => Q (.int ns.sum) H) : Go H0 S L T fun H => rSum K [.ref a] H Q := fun H s => ⟨a, ns, rfl, .inl (.inl (m _ s)), h H s⟩
/-- ix of either kind -/
theorem g_ixA {p : Addr} {xs : List V} {i : Int} {v : V} (m : Lk H0 S L T p (.lst xs)) (e : atI xs i = some v) (h : Go H0 S L T fun H => Q v H) : Go H0 S L T fun H => rIx K (.ref p) (.int i) H Q := fun H s => .inl ⟨p, xs, i, v, rfl, rfl, .inl (.inl (m _ s)), e, h H s⟩
theorem g_ixB {p : Addr} {xs : List V} {i : Int} {v : V} (m : Lk H0 S L T p (.tup xs)) (e : atI xs i = some v) (h : Go H0 S L T fun H => Q v H) : Go H0 S L T fun H => rIx K (.ref p) (.int i) H Q := fun H s => .inr (.inl ⟨p, xs, i, v, rfl, rfl, .inl (.inl (m _ s)), e, h H s⟩)
theorem g_iteD {b : Bool} {A B : Hp → Prop} (c : Bool) (e : b = c) (h : Go H0 S L T fun H => if c = true then A H else B H) : Go H0 S L T fun H => if b = true then A H else B H := by subst e; exact h
def PureI (tc : TE) (σ : L2.St) (c : Int) : Prop := ∀ H (q : VK), q (.int c) H → tc σ H q
/-- a < b < c, the last a plain int: one test -/
theorem g_iteCh {b : Bool} {tc : TE} {y c : Int} {p : Int → Int → Bool} (hp : PureI tc σ c) (h : Go H0 S L T fun H => Q (.bl (b && p y c)) H) : Go H0 S L T fun H => if b = true then tc σ H (fun w H4 => rI0 (fun i j => V.bl (p i j)) (.int y) w H4 Q) else Q (.bl false) H := fun H s => by
  have := h H s
  cases b with
  | true => exact iteT (hp H _ ⟨_, _, rfl, rfl, by simpa using this⟩)
  | false => exact iteF (by simpa using this)
theorem Sh.look0 (h : Sh H0 [] H L T) : ∀ b o, H0 b = some o → H b = some o := fun b o e => h.fr b o (by simp) e
end
end L3

/-! L3i: rules that lean on the written part, with it named. -/
namespace L3
open PySem L2
section
variable {X : Cx} {K : PySem.W.Frag} {e o value : Expr} {f : Str} {pos pos' tpos : Pos} {ta tv to : TE}
theorem kFld (hK : X.K = K) (he : PE X e ta) (hb : attributeBase e f X.env (eval e X.env) = eval e X.env) : PE X (.Attribute e f pos) (tFld K ta f) := by subst hK; exact pe_fld he hb
theorem kSet (hK : X.K = K) (ha : PE X o ta) (hv : PE X value tv) (hs : swapsWith value (some (.Attribute o f pos')) pos.line X.env = pure false) : PS X (.Assign [.Attribute o f pos'] value pos) (sFld K ta tv f) := by subst hK; exact ps_fld ha hv hs
theorem kAug (hK : X.K = K) {op : Operator} {rd : V → V → Hp → VK → Prop} (ha : PE X o ta) (hv : PE X value tv) (hop : InOp X op rd) : PS X (.AugAssign (.Attribute o f tpos) op value pos) (sFldAug K ta tv rd f) := by subst hK; exact ps_fldaug ha hv hop
theorem kAttr (hK : X.K = K) (ho : PE X o to) (ha : ∀ v, assign (.Attribute o f pos) X.env v = (do
    let ov ← holding [v] (eval o X.env)
    standAt pos.atName
    holding [v, ov] (setAttr ov f v)
    release [v, ov] []) := by intro _; rfl) : PG X (.Attribute o f pos) (tFldG K to f) := by subst hK; exact pg_attr ho ha
theorem kIxL (hK : X.K = K) : IxR X (rIxL K) := by subst hK; exact ix_list
theorem kIxT (hK : X.K = K) : IxR X (rIxT K) := by subst hK; exact ix_tup
theorem kIx (hK : X.K = K) : IxR X (rIx K) := by subst hK; exact ix_seq
theorem kSlL (hK : X.K = K) : SlR X (rSlL K) := by subst hK; exact sl_list
theorem kLen (hK : X.K = K) : CallR X (.builtin "len") (rLen K) := by subst hK; exact cLen
theorem kListOf (hK : X.K = K) : CallR X (.type "list") (rListOf K) := by subst hK; exact cListOf
theorem kAll (hK : X.K = K) (hc : X.calm = true) : CallR X (.builtin "all") (rAll K) := by subst hK; exact cr_all hc
theorem kAny (hK : X.K = K) (hc : X.calm = true) : CallR X (.builtin "any") (rAny K) := by subst hK; exact cr_any hc
theorem kSum (hK : X.K = K) (hc : X.calm = true) : CallR X (.builtin "sum") (rSum K) := by subst hK; exact cr_sum hc
theorem kMax (hK : X.K = K) (hc : X.calm = true) : CallR X (.builtin "max") (rMax K) := by subst hK; exact cr_max hc
theorem kMin (hK : X.K = K) (hc : X.calm = true) : CallR X (.builtin "min") (rMin K) := by subst hK; exact cr_min hc
theorem kIsi (hK : X.K = K) : CallR X (.builtin "isinstance") (rIsi K) := by subst hK; exact call_isi
theorem kSortedI (hK : X.K = K) : CallR X (.builtin "sorted") (rSortedI K) := by subst hK; exact cr_sortedI
theorem kIn (hK : X.K = K) : OpR X (compareOp .In) (rIn K false) := by subst hK; exact op_in_seq
theorem kNotIn (hK : X.K = K) : OpR X (compareOp .NotIn) (rIn K true) := by subst hK; exact op_notIn_seq
theorem kEqD (hK : X.K = K) (hu : X.A.units + 64 < cLine) : OpR X (compareOp .Eq) (rEqD K) := by subst hK; exact op_eqD hu
theorem kNeD (hK : X.K = K) (hu : X.A.units + 64 < cLine) : OpR X (compareOp .NotEq) (rNeD K) := by subst hK; exact op_neD hu
theorem kList (hK : X.K = K) {tg l : Expr} {tl : TE} (hl : PE X l tl) : PI X tg l (iList K tl) := by subst hK; exact pi_list hl
theorem kTup (hK : X.K = K) {tg l : Expr} {tl : TE} (hl : PE X l tl) : PI X tg l (iTup K tl) := by subst hK; exact pi_tup hl
theorem kGTup (hK : X.K = K) {es : List Expr} {k : Nat} {t : TGs} {n : Nat} (hc : X.calm = true) (h : PGs X es t)
    (hn : (assignEach es X.env).length = n := by rfl) (hst : (assignEach es X.env).findIdx? (·.1) = none := by rfl) : PG X (.Tuple es k pos) (gTup K n t) := by subst hK; exact pg_tup hc h hn hst
section
variable {es : List Expr} {t : TA} {name : Str} {apos cpos : Pos} {Ty id : String} {r : V → List V → Hp → VK → Prop}
theorem kBM0 (hK : X.K = K) (pa : PlainAttrs Ty) (slot : Slot Ty name id) (hty : typeOf (.builtin id) = pure (.type "method_descriptor")) (hm : MtR X id r) (ho : PE X o to)
    (hbase : attributeBase o name X.env (eval o X.env) = eval o X.env := by rfl) (hline : (apos.endLine == cpos.line) = true := by rfl) : PE X (.Call (.Attribute o name apos) [] [] cpos) (tBM0 K Ty r to) := by
  subst hK; exact pe_bm0 pa slot hty hm ho hbase hline
theorem kBM (hK : X.K = K) (pa : PlainAttrs Ty) (slot : Slot Ty name id) (hty : typeOf (.builtin id) = pure (.type "method_descriptor")) (hm : MtR X id r) (ho : PE X o to) (ha : PA X (e :: es) t)
    (hbase : attributeBase o name X.env (eval o X.env) = eval o X.env := by rfl)
    (hfew : ((backTo cpos (starEach (e :: es) X.env)).all (fun x => !x.1) && (backToKw cpos (keywordEach [] X.env)).all (fun x => x.1.isSome)
      && decide ((e :: es).length + ([] : List Keyword).length + (if ([] : List Keyword).isEmpty then 0 else 1) < 30)) = true := by rfl)
    (hline : (apos.endLine == cpos.line) = true := by rfl) (hs : starEach (e :: es) X.env = (false, eval e X.env) :: starEach es X.env := by rfl) (hplain : (backTo cpos (starEach es X.env)).any (·.1) = false := by rfl) :
    PE X (.Call (.Attribute o name apos) (e :: es) [] cpos) (tBM K Ty r to t) := by
  subst hK; exact pe_bm pa slot hty hm ho ha hbase hfew hline hs hplain
end
end
end L3

local macro_rules | `(tactic| walk_at "at0") => `(tactic| first | exact L3.At.here | (refine L3.At.there ?_; walk_at "at0"))
local macro_rules | `(tactic| walk_at "at") => `(tactic| first | (refine' L3.Lk.at ?h; (case h => walk_at "at0")) | (refine' L3.Lk.tf ?h; (case h => walk_at "in1")) | (refine' L3.Lk.base ?e ?n; (case e => assumption); (case n => first | exact List.not_mem_nil | simp)) | (refine' L3.Lk.baseT ?e; (case e => assumption)))
local macro_rules | `(tactic| walk_at "in1") => `(tactic| first | exact L3.In1.here | (refine L3.In1.there ?_; walk_at "in1"))
local macro_rules | `(tactic| walk_at "upd") => `(tactic| first | exact L3.Upd.here rfl rfl | (refine' L3.Upd.there ?h; (case h => walk_at "upd")))
local macro_rules | `(tactic| walk_at "dec") => `(tactic| first | decide +kernel | rfl)
local macro_rules | `(tactic| walk_at "lk") => `(tactic| first | with_reducible exact L3.lk0 | with_reducible exact L3.lkn | ((with_reducible refine' L3.lk1 ?h1 ?h2); (case h1 => decide +kernel); (case h2 => walk_at "lk")))
local macro_rules | `(tactic| walk_at "pf") => `(tactic| first | with_reducible exact L3.pf0 | with_reducible exact L3.pfn | ((with_reducible refine' L3.pf1 ?h1 ?h2); (case h1 => decide +kernel); (case h2 => walk_at "pf")))
local macro_rules | `(tactic| walk_at "dv") => `(tactic| first | with_reducible exact L3.dv0 | with_reducible exact L3.dvn | ((with_reducible refine' L3.dv1 ?h1 ?h2); (case h1 => decide +kernel); (case h2 => walk_at "dv")))
local macro_rules | `(tactic| walk_at "nok") => `(tactic| first | exact L3.NoK.nil | (refine L3.NoK.cons ?h1 ?h2; (case h1 => decide +kernel); (case h2 => walk_at "nok")))
local macro_rules | `(tactic| walk_at "dp") => `(tactic| first | ((with_reducible refine' L3.PutK.here ?h2); (case h2 => walk_at "nok")) | ((with_reducible refine' L3.PutK.there ?h1 ?h2); (case h1 => decide +kernel); (case h2 => walk_at "dp")))
local macro_rules | `(tactic| walk_at "psk") => `(tactic| first | exact L3.PsK.nil | (refine' L3.PsK.str ?h; (case h => walk_at "psk")) | (refine' L3.PsK.int ?h; (case h => walk_at "psk")))
local macro_rules | `(tactic| walk_at "kof") => `(tactic| first | exact L3.KeysOf.nil | (refine' L3.KeysOf.cons ?h; (case h => walk_at "kof")))
local macro_rules | `(tactic| walk_at "cls") => `(tactic| first | assumption | (rename_i T; exact T.cl))
local macro_rules | `(tactic| walk_at "side") => `(tactic| first | assumption | decide | omega | (simp only [List.length_map, List.length_cons, List.length_nil, List.length_append, List.length_set, List.length_replicate]; omega) | exact Or.inl ⟨by omega, by omega⟩ | exact Or.inr ⟨by omega, by omega⟩ | exact ⟨by omega, by omega⟩ | exact ⟨by omega, by omega, by omega⟩)
local macro_rules | `(tactic| walk_at "bool") => `(tactic| first | rfl | (simp only [Bool.not_eq_true', Bool.not_eq_false', decide_eq_true_eq, decide_eq_false_iff_not, Bool.not_true, Bool.not_false]; first | omega | assumption))
local macro_rules | `(tactic| walk_at "sa") => `(tactic| first | with_reducible exact L3.sa0 | ((with_reducible refine' L3.saS ?h); (case h => walk_at "sa")) | exact L3.sa0 | (refine' L3.saS ?h; (case h => walk_at "sa")))
local macro_rules | `(tactic| walk_at "s1") => `(tactic| first | with_reducible refine L3.g_seq ?_ | with_reducible refine L3.g_asg ?_ | with_reducible refine L3.g_if ?_ | with_reducible refine L3.g_ret ?_ | with_reducible refine L3.g_retN ?_ | with_reducible refine L3.g_drop ?_ | with_reducible refine L3.g_next ?_ | with_reducible refine L3.g_sfld ?_ | with_reducible refine L3.g_saug ?_ | with_reducible refine L3.g_dput ?_ | ((with_reducible refine' L3.g_var ?e ?h); (case e => rfl)) | ((with_reducible refine' L3.g_name ?e ?h); (case e => walk_at "sa")) | with_reducible refine L3.g_c ?_ | with_reducible refine L3.g_op ?_ | with_reducible refine L3.g_un ?_ | with_reducible refine L3.g_fld ?_ | with_reducible refine L3.g_dget ?_ | with_reducible refine L3.g_cons ?_ | with_reducible refine L3.g_nil ?_ | with_reducible refine L3.g_cb ?_ | with_reducible refine L3.g_rI0 ?_ | with_reducible refine L3.g_test ?_ | with_reducible refine L3.g_tB ?_ | with_reducible refine L3.g_qB ?_ | with_reducible refine L3.g_iteT ?_ | with_reducible refine L3.g_iteF ?_ | with_reducible refine L3.g_meth ?_ | with_reducible refine L3.g_call ?_ | with_reducible refine L3.g_make ?_ | with_reducible refine L3.g_tup ?_ | with_reducible refine L3.g_lst ?_ | with_reducible refine L3.g_eqI ?_ | with_reducible refine L3.g_neI ?_ | with_reducible refine L3.g_eqB ?_ | with_reducible refine L3.g_neB ?_ | with_reducible refine L3.g_eqS ?_ | with_reducible refine L3.g_neS ?_ | with_reducible refine L3.g_eqO ?_ | with_reducible refine L3.g_neO ?_ | with_reducible refine L3.g_and ?_ | with_reducible refine L3.g_or ?_ | with_reducible refine L3.g_not ?_ | with_reducible refine L3.g_andV ?_ | with_reducible refine L3.g_orV ?_ | with_reducible refine L3.g_notVV ?_ | with_reducible refine L3.g_ifE ?_ | with_reducible refine L3.g_chain ?_ | with_reducible refine L3.g_rAdd ?_ | with_reducible refine L3.g_rSub ?_ | with_reducible refine L3.g_rU ?_ | with_reducible refine L3.g_par ?_ | with_reducible refine L3.g_two ?_ | with_reducible refine L3.g_gnil ?_ | with_reducible refine L3.g_gcons ?_ | with_reducible refine L3.g_pn ?_ | with_reducible refine L3.g_pc ?_ | with_reducible refine L3.g_bm ?_ | with_reducible refine L3.g_bm0 ?_ | with_reducible refine L3.g_gsub ?_ | with_reducible refine L3.g_fldG ?_ | with_reducible refine L3.g_eqn ?_ | ((with_reducible refine' L3.g_rI ?c ?h); (case c => walk_at "side")) | ((with_reducible refine' L3.g_qfld ?p ?e ?c ?n ?h); (case p => walk_at "at"); (case e => walk_at "lk"); (case c => walk_at "cls"); (case n => assumption)) | ((with_reducible refine' L3.g_qset ?p ?e ?u ?l ?c ?n ?h); (case p => walk_at "at"); (case e => walk_at "pf"); (case u => walk_at "upd"); (case l => rfl); (case c => walk_at "cls"); (case n => assumption)) | ((with_reducible refine' L3.g_qaug ?p ?e ?c ?n ?h); (case p => walk_at "at"); (case e => walk_at "lk"); (case c => walk_at "cls"); (case n => assumption)) | ((with_reducible refine' L3.g_qput ?p ?e ?u ?l ?h); (case p => walk_at "at"); (case e => walk_at "pf"); (case u => walk_at "upd"); (case l => rfl)) | ((with_reducible refine' L3.g_qmeth ?p ?e ?h); (case p => walk_at "at"); (case e => walk_at "lk")) | ((with_reducible refine' L3.g_newT ?c ?_); (case c => rfl); intro p) | ((with_reducible refine' L3.g_new ?_); intro p dx) | ((with_reducible refine' L3.g_newL ?c ?_); (case c => rfl); intro p) | ((with_reducible refine' L3.g_aug ?e ?h); (case e => rfl)) | ((with_reducible refine' L3.g_gtup ?m ?l ?h); (case m => walk_at "at"); (case l => rfl)) | ((with_reducible refine' L3.g_ixT ?m ?e ?h); (case m => walk_at "at"); (case e => rfl)) | ((with_reducible refine' L3.g_ixA ?m ?e ?h); (case m => walk_at "at"); (case e => assumption)) | ((with_reducible refine' L3.g_ixB ?m ?e ?h); (case m => walk_at "at"); (case e => assumption)) | ((with_reducible refine' L3.g_ixL ?m ?e ?h); (case m => walk_at "at"); (case e => assumption)) | ((with_reducible refine' L3.g_rlenM ?m ?h); (case m => walk_at "at")) | ((with_reducible refine' L3.g_rlen ?m ?h); (case m => walk_at "at")) | ((with_reducible refine' L3.g_rlenT ?m ?h); (case m => walk_at "at")) | ((with_reducible refine' L3.g_rlenD ?m ?h); (case m => walk_at "at")) | ((with_reducible refine' L3.g_rlist ?m ?_); (case m => walk_at "at"); intro p) | ((with_reducible refine' L3.g_rlistT ?m ?_); (case m => walk_at "at"); intro p) | ((with_reducible refine' L3.g_rsl ?m ?_); (case m => walk_at "at"); intro p) | ((with_reducible refine' L3.g_rcat ?m ?n ?l ?_); (case m => walk_at "at"); (case n => walk_at "at"); (case l => walk_at "side"); intro p) | ((with_reducible refine' L3.g_raddS ?l ?h); (case l => walk_at "side")) | ((with_reducible refine' L3.g_qrng1 ?c ?h); (case c => walk_at "side")) | ((with_reducible refine' L3.g_qrng2 ?c ?h); (case c => walk_at "side")) | ((with_reducible refine' L3.g_qlst ?m ?h); (case m => walk_at "at")) | ((with_reducible refine' L3.g_qtpl ?m ?h); (case m => walk_at "at")) | ((with_reducible refine' L3.g_iteCh ?hp ?h); (case hp => first | exact fun _ _ q => q | exact fun _ _ q => ⟨_, _, rfl, rfl, q⟩ | exact fun _ _ q => ⟨_, rfl, q⟩)) | with_reducible refine L3.g_par3 ?_ | with_reducible refine L3.g_three ?_ | with_reducible refine L3.g_lc ?_ | with_reducible refine L3.g_yes ?_ | ((with_reducible refine' L3.g_wipe ?e ?h); (case e => rfl)) | ((with_reducible refine' L3.g_acc ?u ?l ?h); (case u => walk_at "upd"); (case l => walk_at "side")) | with_reducible refine L3.g_rint ?_ | with_reducible refine L3.g_rintB ?_ | with_reducible refine L3.g_rabs ?_ | with_reducible refine L3.g_rmax ?_ | with_reducible refine L3.g_rmin ?_ | with_reducible refine L3.g_risO ?_ | with_reducible refine L3.g_rnotO ?_ | with_reducible refine L3.g_risV ?_ | with_reducible refine L3.g_rnotV ?_ | with_reducible refine L3.g_raddIB ?_ | with_reducible refine L3.g_ip ?_ | with_reducible refine L3.g_sl ?_ | with_reducible refine L3.g_part ?_ | with_reducible refine L3.g_qpart ?_ | with_reducible refine L3.g_nopart ?_ | with_reducible refine L3.g_for ?_ | with_reducible refine L3.g_rng1 ?_ | with_reducible refine L3.g_rng2 ?_ | with_reducible refine L3.g_ilist ?_ | with_reducible refine L3.g_itup ?_ | ((with_reducible refine' L3.g_qdget ?p ?e ?h); (case p => walk_at "at"); (case e => walk_at "dv")) | ((with_reducible refine' L3.g_qdputK ?p ?e ?u ?l ?h); (case p => walk_at "at"); (case e => walk_at "dp"); (case u => walk_at "upd"); (case l => rfl)) | ((with_reducible refine' L3.g_tsetD ?p ?e ?u ?l ?h); (case p => walk_at "at"); (case e => walk_at "dp"); (case u => walk_at "upd"); (case l => rfl)) | ((with_reducible refine' L3.g_tyL ?m ?h); (case m => walk_at "at")) | ((with_reducible refine' L3.g_disp ?_); intro p) | ((with_reducible refine' L3.g_dmadeK ?m ?e ?ek ?nd ?l ?u ?h); (case m => walk_at "at"); (case e => walk_at "psk"); (case ek => walk_at "kof"); (case nd => decide +kernel); (case l => rfl); (case u => walk_at "upd")) | ((with_reducible refine' L3.g_app ?m ?l ?u ?h); (case m => walk_at "at"); (case l => walk_at "side"); (case u => walk_at "upd")))
local macro_rules | `(tactic| walk_at "ith") => `(tactic| first | exact L3.Ith.here | (refine' L3.Ith.there ?h; (case h => walk_at "ith")))
local macro_rules | `(tactic| walk_at "sels") => `(tactic| first | exact L3.Sels.nil | (refine' L3.Sels.cons ?h1 ?h2; (case h1 => walk_at "ith"); (case h2 => walk_at "sels")))
local macro_rules | `(tactic| walk_at "subT") => `(tactic| first | exact L3.SubT.nil | (refine' L3.SubT.cons ?h1 ?h2; (case h1 => walk_at "in1"); (case h2 => walk_at "subT")))
local macro_rules | `(tactic| walk_at "keep") => `(tactic| (refine' L3.Sh.keep (by assumption) ?s ?d ?t; (case s => walk_at "sels"); (case d => decide); (case t => walk_at "subT")))
local macro_rules | `(tactic| walk_at "atl") => `(tactic| first | exact L3.AtL.nil | (refine' L3.AtL.cons ?h1 ?h2; (case h1 => walk_at "at0"); (case h2 => walk_at "atl")))
local macro_rules | `(tactic| walk_at "newl") => `(tactic| first | exact L3.NewL.nil | (refine' L3.NewL.cons ?h1 ?h2; (case h1 => walk_at "ith"); (case h2 => walk_at "newl")))
local macro_rules | `(tactic| walk_at "upds") => `(tactic| first | exact L3.Upds.nil | (refine' L3.Upds.cons ?h1 ?h2; (case h1 => walk_at "upd"); (case h2 => walk_at "upds")))
local macro_rules | `(tactic| walk_at "eff") => `(tactic| (refine' L3.Sh.toEffG (by assumption) ?w ?e ?s ?d; (case w => walk_at "atl"); (case e => rfl); (case s => walk_at "newl"); (case d => decide)))
local macro_rules | `(tactic| walk_at "isi") => `(tactic| first | with_reducible refine L3.gi_int_bool ?_ | with_reducible refine L3.gi_int_int ?_ | with_reducible refine L3.gi_int_str ?_ | with_reducible refine L3.gi_int_list ?_ | with_reducible refine L3.gi_int_tuple ?_ | with_reducible refine L3.gi_int_dict ?_ | with_reducible refine L3.gi_bool_bool ?_ | with_reducible refine L3.gi_bool_int ?_ | with_reducible refine L3.gi_bool_str ?_ | with_reducible refine L3.gi_bool_list ?_ | with_reducible refine L3.gi_bool_tuple ?_ | with_reducible refine L3.gi_bool_dict ?_ | with_reducible refine L3.gi_str_bool ?_ | with_reducible refine L3.gi_str_int ?_ | with_reducible refine L3.gi_str_str ?_ | with_reducible refine L3.gi_str_list ?_ | with_reducible refine L3.gi_str_tuple ?_ | with_reducible refine L3.gi_str_dict ?_ | with_reducible refine L3.gi_NoneType_bool ?_ | with_reducible refine L3.gi_NoneType_int ?_ | with_reducible refine L3.gi_NoneType_str ?_ | with_reducible refine L3.gi_NoneType_list ?_ | with_reducible refine L3.gi_NoneType_tuple ?_ | with_reducible refine L3.gi_NoneType_dict ?_ | ((with_reducible refine' L3.gi_list_bool ?m ?h); (case m => walk_at "at")) | ((with_reducible refine' L3.gi_list_int ?m ?h); (case m => walk_at "at")) | ((with_reducible refine' L3.gi_list_str ?m ?h); (case m => walk_at "at")) | ((with_reducible refine' L3.gi_list_list ?m ?h); (case m => walk_at "at")) | ((with_reducible refine' L3.gi_list_tuple ?m ?h); (case m => walk_at "at")) | ((with_reducible refine' L3.gi_list_dict ?m ?h); (case m => walk_at "at")) | ((with_reducible refine' L3.gi_tuple_bool ?m ?h); (case m => walk_at "at")) | ((with_reducible refine' L3.gi_tuple_int ?m ?h); (case m => walk_at "at")) | ((with_reducible refine' L3.gi_tuple_str ?m ?h); (case m => walk_at "at")) | ((with_reducible refine' L3.gi_tuple_list ?m ?h); (case m => walk_at "at")) | ((with_reducible refine' L3.gi_tuple_tuple ?m ?h); (case m => walk_at "at")) | ((with_reducible refine' L3.gi_tuple_dict ?m ?h); (case m => walk_at "at")) | ((with_reducible refine' L3.gi_dict_bool ?m ?h); (case m => walk_at "at")) | ((with_reducible refine' L3.gi_dict_int ?m ?h); (case m => walk_at "at")) | ((with_reducible refine' L3.gi_dict_str ?m ?h); (case m => walk_at "at")) | ((with_reducible refine' L3.gi_dict_list ?m ?h); (case m => walk_at "at")) | ((with_reducible refine' L3.gi_dict_tuple ?m ?h); (case m => walk_at "at")) | ((with_reducible refine' L3.gi_dict_dict ?m ?h); (case m => walk_at "at")))
local macro_rules | `(tactic| walk_at "stp") => `(tactic| repeat walk_at "s1")
local macro_rules | `(tactic| walk_at "iteP") => `(tactic| (refine L3.g_iteP ?e ?h; (case e => walk_at "bool")))
local macro_rules | `(tactic| walk_at "iteN") => `(tactic| (refine L3.g_iteN ?e ?h; (case e => walk_at "bool")))
local macro_rules | `(tactic| walk_at "itD") => `(tactic| first | ((with_reducible refine' L3.g_iteD true ?e ?h); (case e => rfl)) | ((with_reducible refine' L3.g_iteD false ?e2 ?h2); (case e2 => rfl)) | ((with_reducible refine' L3.g_eqV ?e3 ?h3); (case e3 => rfl)))
local macro_rules | `(tactic| walk_at "ds") => `(tactic| (repeat (first | walk_at "s1" | walk_at "isi" | walk_at "itD")))


namespace L3
open PySem L2
def top (i : Nat) : Stmt := PySem.Challenge.pw_callwright_k35_whole_counts_of_packets.main.body.getD i (.Pass ⟨0, 0, 0, 0⟩)
abbrev s_Count_init : Stmt := inClass (top 5) 0
theorem sc_Count_init : FnScope ["self", "number"] ["self", "number"] (defScope s_Count_init) := ⟨rfl, rfl, rfl, by decide +kernel, rfl, by decide +kernel, by decide +kernel⟩
abbrev s_Count_put : Stmt := inClass (top 5) 1
theorem sc_Count_put : FnScope ["self", "number", "time", "arrival", "step"] ["self", "number", "time", "arrival"] (defScope s_Count_put) := ⟨rfl, rfl, rfl, by decide +kernel, rfl, by decide +kernel, by decide +kernel⟩
abbrev s_Count_measure : Stmt := inClass (top 5) 2
theorem sc_Count_measure : FnScope ["self", "time", "arrival", "way", "step"] ["self", "time", "arrival"] (defScope s_Count_measure) := ⟨rfl, rfl, rfl, by decide +kernel, rfl, by decide +kernel, by decide +kernel⟩
abbrev s_Count_highest : Stmt := inClass (top 5) 3
theorem sc_Count_highest : FnScope ["self"] ["self"] (defScope s_Count_highest) := ⟨rfl, rfl, rfl, by decide +kernel, rfl, by decide +kernel, by decide +kernel⟩
abbrev s_Count_due : Stmt := inClass (top 5) 4
theorem sc_Count_due : FnScope ["self"] ["self"] (defScope s_Count_due) := ⟨rfl, rfl, rfl, by decide +kernel, rfl, by decide +kernel, by decide +kernel⟩
abbrev s_Count_lost : Stmt := inClass (top 5) 5
theorem sc_Count_lost : FnScope ["self"] ["self"] (defScope s_Count_lost) := ⟨rfl, rfl, rfl, by decide +kernel, rfl, by decide +kernel, by decide +kernel⟩
abbrev s_Count_share : Stmt := inClass (top 5) 6
theorem sc_Count_share : FnScope ["self", "due", "many"] ["self"] (defScope s_Count_share) := ⟨rfl, rfl, rfl, by decide +kernel, rfl, by decide +kernel, by decide +kernel⟩
abbrev s_Count_unevenness : Stmt := inClass (top 5) 7
theorem sc_Count_unevenness : FnScope ["self"] ["self"] (defScope s_Count_unevenness) := ⟨rfl, rfl, rfl, by decide +kernel, rfl, by decide +kernel, by decide +kernel⟩
abbrev s_law_draws : Stmt := top 7
theorem sc_law_draws : FnScope ["script", "numbers", "cell", "rest", "mixed", "k"] ["script"] (defScope s_law_draws) := ⟨rfl, rfl, rfl, by decide +kernel, rfl, by decide +kernel, by decide +kernel⟩
abbrev s_law_next : Stmt := top 8
theorem sc_law_next : FnScope ["draws", "bound", "at"] ["draws", "bound"] (defScope s_law_next) := ⟨rfl, rfl, rfl, by decide +kernel, rfl, by decide +kernel, by decide +kernel⟩
abbrev s_law_pick : Stmt := top 9
theorem sc_law_pick : FnScope ["draws", "things"] ["draws", "things"] (defScope s_law_pick) := ⟨rfl, rfl, rfl, by decide +kernel, rfl, by decide +kernel, by decide +kernel⟩
abbrev s_law_same : Stmt := top 10
theorem sc_law_same : FnScope ["x", "due", "key", "k"] ["x", "due"] (defScope s_law_same) := ⟨rfl, rfl, rfl, by decide +kernel, rfl, by decide +kernel, by decide +kernel⟩
abbrev s_law_put : Stmt := top 11
theorem sc_law_put : FnScope ["model", "number", "time", "arrival", "ahead", "behind", "way", "apart"] ["model", "number", "time", "arrival"] (defScope s_law_put) := ⟨rfl, rfl, rfl, by decide +kernel, rfl, by decide +kernel, by decide +kernel⟩
abbrev s_law : Stmt := top 12
theorem sc_law : FnScope ["script", "draws", "turn", "begin", "count", "model", "number", "time", "arrival", "step", "due", "more", "got", "share"] ["script"] (defScope s_law) := ⟨rfl, rfl, rfl, by decide +kernel, rfl, by decide +kernel, by decide +kernel⟩

def NumOk (ns : List Int) : Prop := 0 < ns.length ∧ ns.length ≤ 1000 ∧ ∀ m ∈ ns, 0 ≤ m
abbrev drD (l : Addr) (n : Int) : List (Key × V) := [(Sum.inr "numbers", .ref l), (Sum.inr "at", .int n)]
def spNext : Sp := fun vs H Q _ => ∃ (d l : Addr) (n : Int) (ns : List Int) (b : Int), vs = [.ref d, .int b] ∧ H d = some (.dK (drD l n)) ∧ H l = some (.lst (ns.map V.int)) ∧ NumOk ns ∧ 0 ≤ n ∧ 0 < b ∧
  ∀ v H', 0 ≤ v → v < b → Eff H H' [(d, .dK (drD l (n + 1)))] [] → Q (.int v) H'
def spPick : Sp := fun vs H Q _ => ∃ (d l t : Addr) (n : Int) (ns : List Int) (xs : List V), vs = [.ref d, .ref t] ∧ H d = some (.dK (drD l n)) ∧ H l = some (.lst (ns.map V.int)) ∧ NumOk ns ∧ 0 ≤ n ∧ H t = some (.lst xs) ∧ l ≠ t ∧ 0 < xs.length ∧
  ∀ x H', x ∈ xs → Eff H H' [(d, .dK (drD l (n + 1)))] [] → Q x H'
def spDraws (K : PySem.W.Frag) : Sp := fun vs H Q _ => ∃ (a : Addr) (ns : List Int), vs = [.ref a] ∧ SqL K H a (ns.map V.int) ∧
  ∀ d l ms H', NumOk ms → Eff H H' [] [(d, .dK (drD l 0)), (l, .lst (ms.map V.int))] → Q (.ref d) H'
section
variable {H0 : Hp} {S : List Addr} {L L' : List Ent} {T : TFs} {Q : VK} {E : XK}
theorem gl_next {d l : Addr} {n b : Int} {ns : List Int} (u : Upd L d (.dK (drD l n)) (.dK (drD l (n + 1))) L') (m : Lk H0 S L T l (.lst (ns.map V.int))) (o : NumOk ns) (h0 : 0 ≤ n) (hb : 0 < b) (h : ∀ v, 0 ≤ v → v < b → Go H0 S L' T fun H => Q (.int v) H) :
    Go H0 S L T fun H => spNext [.ref d, .int b] H Q E := fun H s => ⟨d, l, n, ns, b, rfl, s.getU u, (m _ s), o, h0, hb, fun v H' h1 h2 e => h v h1 h2 H' (s.eff1 u e)⟩
theorem gl_pick {d l t : Addr} {n : Int} {ns : List Int} {xs : List V} {fl ft : Fl} {i j : Nat} (u : Upd L d (.dK (drD l n)) (.dK (drD l (n + 1))) L') (m : Ith L i (l, fl, .lst (ns.map V.int))) (o : NumOk ns) (h0 : 0 ≤ n) (mt : Ith L j (t, ft, .lst xs)) (hij : decide (i = j) = false) (hx : 0 < xs.length) (h : ∀ x, x ∈ xs → Go H0 S L' T fun H => Q x H) :
    Go H0 S L T fun H => spPick [.ref d, .ref t] H Q E := fun H s => ⟨d, l, t, n, ns, xs, rfl, s.getU u, s.at_ _ m.mem, o, h0, s.at_ _ mt.mem, fun q => (of_decide_eq_false hij) (by
      have e1 : (L.map fun e => e.1)[i]? = some l := by rw [List.getElem?_map, m.eq]; rfl
      have e2 : (L.map fun e => e.1)[j]? = some l := by rw [List.getElem?_map, mt.eq]; exact congrArg some q.symm
      exact nd_ix s.nd e1 e2), hx, fun x H' h1 e => h x h1 H' (s.eff1 u e)⟩
end
structure Txt (K : PySem.W.Frag) (mg : Str → Option Value) (C_Count : Addr) : Prop where
  z_abs : mg "abs" = none
  z_all : mg "all" = none
  z_bool : mg "bool" = none
  z_dict : mg "dict" = none
  z_int : mg "int" = none
  z_isinstance : mg "isinstance" = none
  z_len : mg "len" = none
  z_list : mg "list" = none
  z_min : mg "min" = none
  z_range : mg "range" = none
  z_str : mg "str" = none
  z_tuple : mg "tuple" = none
  c_NUMBERS : ∃ t, mg "NUMBERS" = some (.int 65536 t)
  c_TIMES : ∃ t, mg "TIMES" = some (.int 4294967296 t)
  c_LOST : ∃ t, mg "LOST" = some (.int 3000 t)
  c_LATE : ∃ t, mg "LATE" = some (.int 100 t)
  cl_Count : Cls K C_Count
  na_Count_base : NoAttr K C_Count "base"
  na_Count_top : NoAttr K C_Count "top"
  na_Count_rounds : NoAttr K C_Count "rounds"
  na_Count_many : NoAttr K C_Count "many"
  na_Count_odd : NoAttr K C_Count "odd"
  na_Count_before : NoAttr K C_Count "before"
  na_Count_way : NoAttr K C_Count "way"
  na_Count_uneven : NoAttr K C_Count "uneven"

section
variable {P : Program} {w : World} {K : PySem.W.Frag} {mg : Str → Option Value} {base : Heap} {f : Addr} {fd : FuncData} {C_Count : Addr}
theorem ok_next (F : Fun K "_law_next" "_law_next" s_law_next f fd) (T : Txt K mg C_Count) : FnOk P w K mg base CX0 1 f fd ["draws", "bound"] spNext := by
  refine F.ok sc_law_next (fun vs H Q E h => ?_) (fun cdv A outer s H vs Q E hr h => ?_)
  · obtain ⟨d, l, n, ns, b, rfl, _⟩ := h; rfl
  · obtain ⟨d, l, n, ns, b, rfl, hd, hl, ⟨o1, o2, o3⟩, h0, hb, k⟩ := h
    refine ⟨_, (pss_cons (ps_set (i := 2) sc_law_next.nd rfl (Or.inl rfl) (pe_callTy cInt (by rfl) T.z_int (by decide +kernel) (pa_cons (pe_dget (hu_of hr) (pv 0) pe_str (fun _ _ => rfl)) pa_nil)))
  (pss_cons (ps_dput (hu_of hr) (pv 0) pe_str (pe_op op_add (pv 2) pe_int) rfl)
  (pss_one (ps_ret (pe_op op_mod (pe_callTy cInt (by rfl) T.z_int (by decide +kernel) (pa_cons (pe_op op_add (pe_ix (kIxL (K := K) rfl) (pe_dget (hu_of hr) (pv 0) pe_str (fun _ _ => rfl)) (pe_op op_mod (pv 2) (pe_callB (kLen (K := K) rfl) (by rfl) T.z_len (by decide +kernel) (pa_cons (pe_dget (hu_of hr) (pv 0) pe_str (fun _ _ => rfl)) pa_nil))) (fun _ _ => rfl)) (pe_op op_mul pe_int (pe_op op_fdiv (pv 2) (pe_callB (kLen (K := K) rfl) (by rfl) T.z_len (by decide +kernel) (pa_cons (pe_dget (hu_of hr) (pv 0) pe_str (fun _ _ => rfl)) pa_nil))))) pa_nil)) (pv 1)))))), ?_⟩
    rw [show start ["draws", "bound", "at"] _ = [some (V.ref d), some (V.int b), none] from rfl]
    refine ((Sh.start1 hd).arg hl (by simpa using ne_of hl hd (by simp))).go ?_
    walk_at "stp"
    have hz : 0 < (ns.length : Int) := by omega
    refine g_ixL (by walk_at "at") (atI_map (Int.emod_nonneg _ (by omega)) (Int.emod_lt_of_pos _ hz)) ?_
    walk_at "stp"
    intro H1 hs
    exact k _ _ (Int.emod_nonneg _ (by omega)) (Int.emod_lt_of_pos _ hb) (by walk_at "eff")
theorem ok_pick (F : Fun K "_law_pick" "_law_pick" s_law_pick f fd) (T : Txt K mg C_Count) (F_law_next : FnF P w K mg base "_law_next" 1 ["draws", "bound"] spNext) : FnOk P w K mg base CX0 2 f fd ["draws", "things"] spPick := by
  refine F.ok sc_law_pick (fun vs H Q E h => ?_) (fun cdv A outer s H vs Q E hr h => ?_)
  · obtain ⟨d, l, t, n, ns, xs, rfl, _⟩ := h; rfl
  · obtain ⟨d, l, t, n, ns, xs, rfl, hd, hl, o, h0, ht, hlt, hx, k⟩ := h
    refine ⟨_, (pss_one (ps_ret (pe_ix (kIxL (K := K) rfl) (pv 1) (pe_callF F_law_next (hr.mono (by first | decide | omega)) rfl (pa_cons (pv 0) (pa_cons (pe_callB (kLen (K := K) rfl) (by rfl) T.z_len (by decide +kernel) (pa_cons (pv 1) pa_nil)) pa_nil))) (fun _ _ => rfl)))), ?_⟩
    rw [show start ["draws", "things"] _ = [some (V.ref d), some (V.ref t)] from rfl]
    have n1 := ne_of hl hd (by simp)
    have n2 := ne_of ht hd (by simp)
    refine (((Sh.start1 hd).arg hl (by simpa using n1)).arg ht (by simp; exact ⟨fun q => hlt q.symm, n2⟩)).go ?_
    walk_at "stp"
    refine gl_next (by walk_at "upd") (by walk_at "at") o h0 (by omega) fun v v0 v1 => ?_
    have hv : v.toNat < xs.length := by omega
    refine g_ixL (by walk_at "at") (atI_int v0 (List.getElem?_eq_getElem hv)) ?_
    intro H1 hs
    exact k _ _ (List.getElem_mem hv) (by walk_at "eff")
theorem cut_map {ns : List Int} : ∃ cs : List Int, cutV (ns.map V.int) none (some 8) = cs.map V.int ∧ cs.length ≤ 8 := by
  refine ⟨(ns.drop (HT.sIx ns.length 0 none)).take (HT.sIx ns.length ns.length (some 8) - HT.sIx ns.length 0 none), ?_, ?_⟩
  · unfold cutV
    rw [List.length_map, List.map_take, List.map_drop]
  · rw [List.length_take]
    have : HT.sIx ns.length ns.length (some 8) ≤ 8 := by
      simp [HT.sIx]
      omega
    omega
theorem ok_draws (F : Fun K "_law_draws" "_law_draws" s_law_draws f fd) (T : Txt K mg C_Count) : FnOk P w K mg base CX0 1 f fd ["script"] (spDraws K) := by
  refine F.ok sc_law_draws (fun vs H Q E h => ?_) (fun cdv A outer s H vs Q E hr h => ?_)
  · obtain ⟨a, ns, rfl, _⟩ := h; rfl
  · obtain ⟨a, ns, rfl, hS, k⟩ := h
    refine ⟨_, (pss_cons (ps_set (i := 1) sc_law_draws.nd rfl (Or.inl rfl) (pe_lst pa_nil))
  (pss_cons (ps_for PassesOwn.never rfl (kList (K := K) rfl (pe_op op_cat (pe_callTy (kListOf (K := K) rfl) (by rfl) T.z_list (by decide +kernel) (pa_cons (pe_slice (kSlL (K := K) rfl) (pv 0) po_none (po_some pe_int)) pa_nil)) (pe_lst (pa_cons pe_int pa_nil)))) (pg_name (i := 2) sc_law_draws.nd rfl (Or.inl rfl))
  (pss_cons (ps_set (i := 3) sc_law_draws.nd rfl (Or.inl rfl) (pe_callB cAbs (by rfl) T.z_abs (by decide +kernel) (pa_cons (pe_callTy cInt (by rfl) T.z_int (by decide +kernel) (pa_cons (pv 2) pa_nil)) pa_nil)))
  (pss_cons (ps_set (i := 4) sc_law_draws.nd rfl (Or.inl rfl) (pe_op op_add (pe_op op_mod (pe_callTy cInt (by rfl) T.z_int (by decide +kernel) (pa_cons (pv 2) pa_nil)) pe_int) pe_int))
  (pss_one (ps_for PassesOwn.never rfl (pi_range1 rfl T.z_range (pa_cons pe_int pa_nil)) (pg_name (i := 5) sc_law_draws.nd rfl (Or.inl rfl))
  (pss_one (ps_if (pt_cmpR op_ge (pv 3) pe_int (nomark _))
  (pss_cons (ps_expr (kBM (K := K) rfl PySem.F.plainAttrs_list PySem.F.slot_list_append PySem.F.type_list_append mt_append (pv 1) (pa_cons (pe_op op_mod (pe_callTy cInt (by rfl) T.z_int (by decide +kernel) (pa_cons (pv 3) pa_nil)) pe_int) pa_nil)))
  (pss_one (ps_set (i := 3) sc_law_draws.nd rfl (Or.inl rfl) (pe_op op_fdiv (pv 3) pe_int))))
  (pss_cons (ps_set (i := 4) sc_law_draws.nd rfl (Or.inl rfl) (pe_op op_mod (pe_callTy cInt (by rfl) T.z_int (by decide +kernel) (pa_cons (pe_op op_add (pe_op op_add (pe_op op_add (pe_op op_mul (pv 4) pe_int) (pe_op op_mul pe_int (pv 5))) pe_int) (pv 3)) pa_nil)) pe_int))
  (pss_one (ps_expr (kBM (K := K) rfl PySem.F.plainAttrs_list PySem.F.slot_list_append PySem.F.type_list_append mt_append (pv 1) (pa_cons (pe_op op_mod (pe_callTy cInt (by rfl) T.z_int (by decide +kernel) (pa_cons (pe_op op_fdiv (pe_op op_mul (pv 4) pe_int) pe_int) pa_nil)) pe_int) pa_nil))))))))))))
  (pss_one (ps_ret (pe_disp (pps_cons pe_str (pv 1) (pps_cons pe_str pe_int pps_nil)) (by rfl) (by rfl) (fun z => by cases z) (by decide)))))), ?_⟩
    rw [show start ["script", "numbers", "cell", "rest", "mixed", "k"] _ = [some (V.ref a), none, none, none, none, none] from rfl]
    refine Sh.start.go ?_
    walk_at "stp"
    rename_i nl
    obtain ⟨cs0, ec, lc⟩ := cut_map (ns := ns)
    refine g_rslS hS (by simp) fun p => ?_
    rw [ec]
    walk_at "stp"
    rename_i l1 l2 cl
    have es : cs0.map V.int ++ [V.int 7] = (cs0 ++ [7]).map V.int := by simp
    rw [es]
    generalize hcs : cs0 ++ [7] = cs
    have lcs : 0 < cs.length ∧ cs.length ≤ 9 := by rw [← hcs]; simp; omega
    intro H1 h1
    refine qFor_L (xs := cs.map V.int) (fun i σ H2 => ∃ (ms : List Int) (c r m q : Option V), σ = [some (.ref a), some (.ref nl), c, r, m, q] ∧ Sh H [] H2 [(nl, .n, .lst (ms.map V.int)), (cl, .n, .lst (cs.map V.int))] [] ∧ ms.length = 40 * i ∧ ∀ x ∈ ms, 0 ≤ x) ?_ ?_ ?_ ?_
    · exact ⟨[], none, none, none, none, rfl, by walk_at "keep", rfl, fun _ m => nomatch m⟩
    · rintro i σ H2 _ ⟨ms, c, r, m, q, rfl, h2, _⟩
      exact seqL h2 (by walk_at "at")
    · rintro i x σ H2 hx ⟨ms, c, r, m, q, rfl, h2, lm, pm⟩
      have hi : i < cs.length := by
        have := (List.getElem?_eq_some_iff.mp hx).1
        simpa using this
      obtain ⟨z, rfl⟩ : ∃ z, x = V.int z := by
        rw [List.getElem?_map] at hx
        cases e : cs[i]? with
        | none => rw [e] at hx; cases hx
        | some z => rw [e] at hx; exact ⟨z, (Option.some.inj hx).symm⟩
      apply h2.go
      walk_at "stp"
      intro H3 h3
      have r0 : 0 ≤ (if z < 0 then -z else z) := by split <;> omega
      have m0 : 0 ≤ z % 1000003 + 1 := by have := Int.emod_nonneg z (b := 1000003) (by decide); omega
      generalize (if z < 0 then -z else z) = r1 at *
      generalize z % 1000003 + 1 = m1 at *
      refine qFor_R (fun j σ H2 => ∃ (ms : List Int) (r m : Int) (q : Option V), σ = [some (.ref a), some (.ref nl), some (.int z), some (.int r), some (.int m), q] ∧ Sh H [] H2 [(nl, .n, .lst (ms.map V.int)), (cl, .n, .lst (cs.map V.int))] [] ∧ ms.length = 40 * i + j ∧ (∀ x ∈ ms, 0 ≤ x) ∧ 0 ≤ r ∧ 0 ≤ m) ?_ ?_ ?_
      · exact ⟨ms, r1, m1, _, rfl, h3, lm, pm, r0, m0⟩
      · rintro j σ H4 hj ⟨ms, r, m, q, rfl, h4, lm, pm, r0, m0⟩
        have hj : j < 40 := hj
        apply h4.go
        walk_at "stp"
        have st : ∀ (y r' m' : Int) q', 0 ≤ y → 0 ≤ r' → 0 ≤ m' → Go H [] [(nl, .n, .lst (ms.map V.int ++ [V.int y])), (cl, .n, .lst (cs.map V.int))] [] fun H2 =>
          (∃ (ms : List Int) (r m : Int) (q : Option V), [some (V.ref a), some (.ref nl), some (.int z), some (.int r'), some (.int m'), q'] = [some (.ref a), some (.ref nl), some (.int z), some (.int r), some (.int m), q] ∧ Sh H [] H2 [(nl, .n, .lst (ms.map V.int)), (cl, .n, .lst (cs.map V.int))] [] ∧ ms.length = 40 * i + (j + 1) ∧ (∀ x ∈ ms, 0 ≤ x) ∧ 0 ≤ r ∧ 0 ≤ m) := fun y r' m' q' y0 r0 m0 H5 h5 => by
          refine ⟨ms ++ [y], r', m', q', rfl, by simpa using h5, by simp; omega, fun x hx => ?_, r0, m0⟩
          rcases List.mem_append.mp hx with hx | hx
          · exact pm x hx
          · simp at hx; omega
        refine g_ite (fun hc => ?_) (fun hc => ?_)
        · walk_at "stp"
          exact st _ _ _ _ (Int.emod_nonneg _ (by decide)) (Int.ediv_nonneg r0 (by decide)) m0
        · walk_at "stp"
          exact st _ _ _ _ (Int.emod_nonneg _ (by decide)) r0 (Int.emod_nonneg _ (by decide))
      · rintro σ H4 ⟨ms, r, m, q, rfl, h4, lm, pm, r0, m0⟩
        exact ⟨ms, _, _, _, _, rfl, h4, by simpa [Nat.mul_add] using lm, pm⟩
    · rintro σ H2 ⟨ms, c, r, m, q, rfl, h2, lm, pm⟩
      rw [List.length_map] at lm
      apply h2.go
      walk_at "stp"
      intro H3 h3
      exact k _ _ _ _ ⟨by omega, by omega, pm⟩ (by walk_at "eff")
end
end L3

namespace L3
open PySem L2
section
variable {P : Program} {w : World} {K : PySem.W.Frag} {mg : Str → Option Value} {base : Heap} {f : Addr} {fd : FuncData} {C_Count : Addr}
theorem ok_same0 (F : Fun K "_law_same" "_law_same" s_law_same f fd) (T : Txt K mg C_Count) : FnOk P w K mg base CX0 1 f fd ["x", "due"] (spSame 0) := by
  refine F.ok sc_law_same (fun vs H Q E h => ?_) (fun cdv A outer s H vs Q E hr h => ?_)
  · obtain ⟨x, y, rfl, _⟩ := h; rfl
  · obtain ⟨x, y, rfl, ⟨rfl, fl⟩, k⟩ := h
    refine ⟨_, (pss_cons (ps_if (pt_cmpR oIsN (pv 1) pe_non (nomark _))
  (pss_one (ps_ret (pe_cmpR oIsN (pv 0) pe_non (nomark _))))
  pss_nil)
  (pss_cons (ps_if (pt_val (pe_callB (kIsi (K := K) rfl) (by rfl) T.z_isinstance (by decide +kernel) (pa_cons (pv 1) (pa_cons (pe_bltn (v := .ty "bool") (by rfl) T.z_bool (by decide +kernel) rfl) pa_nil))))
  (pss_one (ps_ret (pe_and (pe_callB (kIsi (K := K) rfl) (by rfl) T.z_isinstance (by decide +kernel) (pa_cons (pv 0) (pa_cons (pe_bltn (v := .ty "bool") (by rfl) T.z_bool (by decide +kernel) rfl) pa_nil))) (pe_one (pe_cmpR op_eq (pv 0) (pv 1) (nomark _))))))
  pss_nil)
  (pss_cons (ps_if (pt_val (pe_callB (kIsi (K := K) rfl) (by rfl) T.z_isinstance (by decide +kernel) (pa_cons (pv 1) (pa_cons (pe_bltn (v := .ty "int") (by rfl) T.z_int (by decide +kernel) rfl) pa_nil))))
  (pss_one (ps_ret (pe_and (pe_callB (kIsi (K := K) rfl) (by rfl) T.z_isinstance (by decide +kernel) (pa_cons (pv 0) (pa_cons (pe_bltn (v := .ty "int") (by rfl) T.z_int (by decide +kernel) rfl) pa_nil))) (pe_and (pe_not (pe_callB (kIsi (K := K) rfl) (by rfl) T.z_isinstance (by decide +kernel) (pa_cons (pv 0) (pa_cons (pe_bltn (v := .ty "bool") (by rfl) T.z_bool (by decide +kernel) rfl) pa_nil)))) (pe_one (pe_cmpR op_eq (pv 0) (pv 1) (nomark _)))))))
  pss_nil)
  (pss_cons (ps_if (pt_val (pe_callB (kIsi (K := K) rfl) (by rfl) T.z_isinstance (by decide +kernel) (pa_cons (pv 1) (pa_cons (pe_bltn (v := .ty "str") (by rfl) T.z_str (by decide +kernel) rfl) pa_nil))))
  (pss_one (ps_ret (pe_and (pe_callB (kIsi (K := K) rfl) (by rfl) T.z_isinstance (by decide +kernel) (pa_cons (pv 0) (pa_cons (pe_bltn (v := .ty "str") (by rfl) T.z_str (by decide +kernel) rfl) pa_nil))) (pe_one (pe_cmpR op_eq (pv 0) (pv 1) (nomark _))))))
  pss_nil)
  (pss_cons (ps_if (pt_val (pe_callB (kIsi (K := K) rfl) (by rfl) T.z_isinstance (by decide +kernel) (pa_cons (pv 1) (pa_cons (pe_bltn (v := .ty "dict") (by rfl) T.z_dict (by decide +kernel) rfl) pa_nil)))) pss_never pss_nil)
  (pss_cons (ps_if (pt_val (pe_callB (kIsi (K := K) rfl) (by rfl) T.z_isinstance (by decide +kernel) (pa_cons (pv 1) (pa_cons (pe_bltn (v := .ty "list") (by rfl) T.z_list (by decide +kernel) rfl) pa_nil)))) pss_never pss_nil)
  (pss_one ps_never))))))), ?_⟩
    rw [show start ["x", "due", "key", "k"] _ = [some (x), some (x), none, none] from rfl]
    have fin : Go H [] [] [] fun H' => Q (.bl true) H' := fun H1 hs => k _ (by walk_at "eff")
    apply Sh.start.go
    cases x with
    | non =>
      walk_at "ds"
      exact fin
    | bl b =>
      walk_at "ds"
      simpa using fin
    | int i =>
      walk_at "ds"
      simpa using fin
    | str z =>
      walk_at "ds"
      simpa using fin
    | byt _ => exact fl.elim
    | flt _ => exact fl.elim
    | ref _ => exact fl.elim
    | ty _ => exact fl.elim
theorem ok_sameS {n j : Nat} (F : Fun K "_law_same" "_law_same" s_law_same f fd) (T : Txt K mg C_Count) (F_law_same : FnF P w K mg base "_law_same" j ["x", "due"] (spSame n)) : FnOk P w K mg base CX0 (j + 1) f fd ["x", "due"] (spSame (n + 1)) := by
  refine F.ok sc_law_same (fun vs H Q E h => ?_) (fun cdv A outer s H vs Q E hr h => ?_)
  · obtain ⟨x, y, rfl, _⟩ := h; rfl
  · obtain ⟨x, y, rfl, sm, k⟩ := h
    have hrj : Room j _ := hr
    refine ⟨_, (pss_cons (ps_if (pt_cmpR oIsN (pv 1) pe_non (nomark _))
  (pss_one (ps_ret (pe_cmpR oIsN (pv 0) pe_non (nomark _))))
  pss_nil)
  (pss_cons (ps_if (pt_val (pe_callB (kIsi (K := K) rfl) (by rfl) T.z_isinstance (by decide +kernel) (pa_cons (pv 1) (pa_cons (pe_bltn (v := .ty "bool") (by rfl) T.z_bool (by decide +kernel) rfl) pa_nil))))
  (pss_one (ps_ret (pe_and (pe_callB (kIsi (K := K) rfl) (by rfl) T.z_isinstance (by decide +kernel) (pa_cons (pv 0) (pa_cons (pe_bltn (v := .ty "bool") (by rfl) T.z_bool (by decide +kernel) rfl) pa_nil))) (pe_one (pe_cmpR op_eq (pv 0) (pv 1) (nomark _))))))
  pss_nil)
  (pss_cons (ps_if (pt_val (pe_callB (kIsi (K := K) rfl) (by rfl) T.z_isinstance (by decide +kernel) (pa_cons (pv 1) (pa_cons (pe_bltn (v := .ty "int") (by rfl) T.z_int (by decide +kernel) rfl) pa_nil))))
  (pss_one (ps_ret (pe_and (pe_callB (kIsi (K := K) rfl) (by rfl) T.z_isinstance (by decide +kernel) (pa_cons (pv 0) (pa_cons (pe_bltn (v := .ty "int") (by rfl) T.z_int (by decide +kernel) rfl) pa_nil))) (pe_and (pe_not (pe_callB (kIsi (K := K) rfl) (by rfl) T.z_isinstance (by decide +kernel) (pa_cons (pv 0) (pa_cons (pe_bltn (v := .ty "bool") (by rfl) T.z_bool (by decide +kernel) rfl) pa_nil)))) (pe_one (pe_cmpR op_eq (pv 0) (pv 1) (nomark _)))))))
  pss_nil)
  (pss_cons (ps_if (pt_val (pe_callB (kIsi (K := K) rfl) (by rfl) T.z_isinstance (by decide +kernel) (pa_cons (pv 1) (pa_cons (pe_bltn (v := .ty "str") (by rfl) T.z_str (by decide +kernel) rfl) pa_nil))))
  (pss_one (ps_ret (pe_and (pe_callB (kIsi (K := K) rfl) (by rfl) T.z_isinstance (by decide +kernel) (pa_cons (pv 0) (pa_cons (pe_bltn (v := .ty "str") (by rfl) T.z_str (by decide +kernel) rfl) pa_nil))) (pe_one (pe_cmpR op_eq (pv 0) (pv 1) (nomark _))))))
  pss_nil)
  (pss_cons (ps_if (pt_val (pe_callB (kIsi (K := K) rfl) (by rfl) T.z_isinstance (by decide +kernel) (pa_cons (pv 1) (pa_cons (pe_bltn (v := .ty "dict") (by rfl) T.z_dict (by decide +kernel) rfl) pa_nil)))) pss_never pss_nil)
  (pss_cons (ps_if (pt_val (pe_callB (kIsi (K := K) rfl) (by rfl) T.z_isinstance (by decide +kernel) (pa_cons (pv 1) (pa_cons (pe_bltn (v := .ty "list") (by rfl) T.z_list (by decide +kernel) rfl) pa_nil))))
  (pss_one (ps_ret (pe_and (pe_callB (kIsi (K := K) rfl) (by rfl) T.z_isinstance (by decide +kernel) (pa_cons (pv 0) (pa_cons (pe_bltn (v := .ty "list") (by rfl) T.z_list (by decide +kernel) rfl) pa_nil))) (pe_and (pe_cmpR op_eq (pe_callB (kLen (K := K) rfl) (by rfl) T.z_len (by decide +kernel) (pa_cons (pv 0) pa_nil)) (pe_callB (kLen (K := K) rfl) (by rfl) T.z_len (by decide +kernel) (pa_cons (pv 1) pa_nil)) (nomark _)) (pe_one (pe_callB (kAll (K := K) rfl rfl) (by rfl) T.z_all (by decide +kernel) (pa_cons (pe_lc (own := [("k", 3)]) (g := gName 3) rfl sc_law_same.nd (pi_range1 rfl T.z_range (pa_cons (pe_callB (kLen (K := K) rfl) (by rfl) T.z_len (by decide +kernel) (pa_cons (pv 1) pa_nil)) pa_nil)) (blkOk_by (own := [("k", 3)]) (N := ["x", "due", "key", "k"]) (sc := defScope s_law_same) (by decide +kernel)) (fun _ _ _ _ _ => (pg_name (i := 3) sc_law_same.nd rfl (Or.inl rfl))) (fun _ _ _ _ _ => pts_nil) (fun _ _ _ _ _ => (pe_callF F_law_same (hr.mono (by first | decide | omega)) rfl (pa_cons (pe_ix (kIx (K := K) rfl) (pv 0) (pv 3) (fun _ _ => rfl)) (pa_cons (pe_ix (kIx (K := K) rfl) (pv 1) (pv 3) (fun _ _ => rfl)) pa_nil))))) pa_nil)))))))
  pss_nil)
  (pss_one (ps_ret (pe_and (pe_callB (kIsi (K := K) rfl) (by rfl) T.z_isinstance (by decide +kernel) (pa_cons (pv 0) (pa_cons (pe_bltn (v := .ty "tuple") (by rfl) T.z_tuple (by decide +kernel) rfl) pa_nil))) (pe_and (pe_cmpR op_eq (pe_callB (kLen (K := K) rfl) (by rfl) T.z_len (by decide +kernel) (pa_cons (pv 0) pa_nil)) (pe_callB (kLen (K := K) rfl) (by rfl) T.z_len (by decide +kernel) (pa_cons (pv 1) pa_nil)) (nomark _)) (pe_one (pe_callB (kAll (K := K) rfl rfl) (by rfl) T.z_all (by decide +kernel) (pa_cons (pe_lc (own := [("k", 3)]) (g := gName 3) rfl sc_law_same.nd (pi_range1 rfl T.z_range (pa_cons (pe_callB (kLen (K := K) rfl) (by rfl) T.z_len (by decide +kernel) (pa_cons (pv 1) pa_nil)) pa_nil)) (blkOk_by (own := [("k", 3)]) (N := ["x", "due", "key", "k"]) (sc := defScope s_law_same) (by decide +kernel)) (fun _ _ _ _ _ => (pg_name (i := 3) sc_law_same.nd rfl (Or.inl rfl))) (fun _ _ _ _ _ => pts_nil) (fun _ _ _ _ _ => (pe_callF F_law_same (hr.mono (by first | decide | omega)) rfl (pa_cons (pe_ix (kIx (K := K) rfl) (pv 0) (pv 3) (fun _ _ => rfl)) (pa_cons (pe_ix (kIx (K := K) rfl) (pv 1) (pv 3) (fun _ _ => rfl)) pa_nil))))) pa_nil))))))))))))), ?_⟩
    rw [show start ["x", "due", "key", "k"] _ = [some (x), some (y), none, none] from rfl]
    have fin : Go H [] [] [] fun H' => Q (.bl true) H' := fun H1 hs => k _ (by walk_at "eff")
    have turn : ∀ (xs ys : List V) (i : Nat), Paired (Sm H n) xs ys → i < ys.length → ∃ u v, atI xs (0 + (i : Int)) = some u ∧ atI ys (0 + (i : Int)) = some v ∧ Sm H n u v := fun xs ys i pr hi => by
      obtain ⟨u, h1, h2⟩ := Paired.get2 pr i ys[i] (List.getElem?_eq_getElem hi)
      refine ⟨u, ys[i], ?_, ?_, h2⟩
      · rw [Int.zero_add]; exact atI_nat h1
      · rw [Int.zero_add]; exact atI_nat (List.getElem?_eq_getElem hi)
    rcases sm with ⟨rfl, fl⟩ | ⟨a, b, xs, ys, rfl, rfl, hx, hy, hz, pr⟩ | ⟨a, b, xs, ys, rfl, rfl, hx, hy, hz, pr⟩
    · apply Sh.start.go
      cases x with
      | non =>
        walk_at "ds"
        exact fin
      | bl b =>
        walk_at "ds"
        simpa using fin
      | int i =>
        walk_at "ds"
        simpa using fin
      | str z =>
        walk_at "ds"
        simpa using fin
      | byt _ => exact fl.elim
      | flt _ => exact fl.elim
      | ref _ => exact fl.elim
      | ty _ => exact fl.elim
    all_goals
      have hl := Paired.length pr
      apply Sh.start.go
      walk_at "ds"
      refine g_iteP (decide_eq_true (by rw [hl])) ?_
      walk_at "ds"
      intro H1 h1
      refine qLc_R (fun D i H2 => Sh H [] H2 [(D, .n, .lst (List.replicate i (V.bl true)))] []) (fun D hD => h1.alloc hD _) (fun D i H2 hi h2 => ?_) (fun D H2 h2 => ?_)
      · obtain ⟨u, v, e1, e2, sv⟩ := turn xs ys i pr (by omega)
        apply h2.go
        walk_at "ds"
        refine gl_same (fun H' s' => Sm.mono s'.look0 _ sv) ?_
        walk_at "ds"
        intro H5 h5
        rw [List.replicate_succ']
        exact h5
      · apply h2.go
        walk_at "ds"
        refine g_all (bs := List.replicate ((ys.length : Int)).toNat true) (by rw [List.map_replicate]; walk_at "at") ?_
        rw [show (List.replicate ((ys.length : Int)).toNat true).all id = true by simp]
        intro H5 hs
        exact k _ (by walk_at "eff")
end

end L3


namespace L3
open PySem L2
structure Ct where
  base : Int
  top : Int
  rounds : Int
  many : Int
  odd : Option Int
  b0 : Int
  b1 : Int
  way : Option Int
  un : Int
abbrev CtF (c : Ct) (t : Addr) : List (Str × V) := [("base", .int c.base), ("top", .int c.top), ("rounds", .int c.rounds), ("many", .int c.many), ("odd", oV c.odd), ("before", .ref t), ("way", oV c.way), ("uneven", .int c.un)]
def absI (i : Int) : Int := if i < 0 then -i else i
def meas (c : Ct) (tm ar : Int) : Ct := { c with way := some ((ar - tm) % 4294967296), un := match c.way with | none => c.un | some w => c.un + (absI (((ar - tm) % 4294967296 - w + 4294967296 / 2) % 4294967296 - 4294967296 / 2) - (c.un + 8) / 16) }
inductive CPut (c : Ct) (n tm ar : Int) : Bool → Ct → Prop where
  | turn (h1 : 0 < (n - c.top) % 65536) (h2 : (n - c.top) % 65536 < 3000) (h3 : n < c.top) : CPut c n tm ar true (meas { c with top := n, rounds := c.rounds + 1, odd := none, many := c.many + 1 } tm ar)
  | up (h1 : 0 < (n - c.top) % 65536) (h2 : (n - c.top) % 65536 < 3000) (h3 : ¬ n < c.top) : CPut c n tm ar true (meas { c with top := n, odd := none, many := c.many + 1 } tm ar)
  | far (h0 : ¬ (0 < (n - c.top) % 65536 ∧ (n - c.top) % 65536 < 3000)) (h1 : 3000 ≤ (n - c.top) % 65536) (h2 : (n - c.top) % 65536 ≤ 65436) (h3 : ¬ c.odd = some n) : CPut c n tm ar false { c with odd := some ((n + 1) % 65536) }
  | new (h0 : ¬ (0 < (n - c.top) % 65536 ∧ (n - c.top) % 65536 < 3000)) (h1 : 3000 ≤ (n - c.top) % 65536) (h2 : (n - c.top) % 65536 ≤ 65436) (h3 : c.odd = some n) : CPut c n tm ar true (meas { c with base := n, top := n, rounds := 0, many := 1, b0 := 0, b1 := 0, odd := none } tm ar)
  | late (h0 : ¬ (0 < (n - c.top) % 65536 ∧ (n - c.top) % 65536 < 3000)) (h1 : ¬ (3000 ≤ (n - c.top) % 65536 ∧ (n - c.top) % 65536 ≤ 65436)) : CPut c n tm ar true (meas { c with odd := none, many := c.many + 1 } tm ar)
def spInit (C : Addr) : Sp := fun vs H Q _ => ∃ (p dx : Addr) (n : Int), vs = [.ref p, .int n] ∧ H p = some (.ins C dx []) ∧
  ∀ t H', H' t = some (.tup [.int 0, .int 0]) → Eff H H' [(p, .ins C dx (CtF ⟨n, n, 0, 1, none, 0, 0, none, 0⟩ t))] [] → Q .non H'
def spMeas (C : Addr) : Sp := fun vs H Q _ => ∃ (p dx t : Addr) (c : Ct) (tm ar : Int), vs = [.ref p, .int tm, .int ar] ∧ H p = some (.ins C dx (CtF c t)) ∧
  ∀ H', Eff H H' [(p, .ins C dx (CtF (meas c tm ar) t))] [] → Q .non H'
def spPut (C : Addr) : Sp := fun vs H Q _ => ∃ (p dx t : Addr) (c : Ct) (n tm ar : Int), vs = [.ref p, .int n, .int tm, .int ar] ∧ H p = some (.ins C dx (CtF c t)) ∧ H t = some (.tup [.int c.b0, .int c.b1]) ∧
  ∀ r c' t' H', CPut c n tm ar r c' → H' t' = some (.tup [.int c'.b0, .int c'.b1]) → Eff H H' [(p, .ins C dx (CtF c' t'))] [] → Q (.bl r) H'
def spGet (C : Addr) (g : Ct → Int) : Sp := fun vs H Q _ => ∃ (p dx t : Addr) (c : Ct), vs = [.ref p] ∧ H p = some (.ins C dx (CtF c t)) ∧ ∀ H', Eff H H' [] [] → Q (.int (g c)) H'
def chigh (c : Ct) : Int := c.rounds * 65536 + c.top
def cdue (c : Ct) : Int := chigh c - c.base + 1
def clost (c : Ct) : Int := cdue c - c.many
def cunev (c : Ct) : Int := c.un / 16
def shareOf (more got : Int) : Int := if more ≤ 0 ∨ more ≤ got then 0 else (more - got) * 256 / more
def spShare (C : Addr) : Sp := fun vs H Q _ => ∃ (p dx t : Addr) (c : Ct), vs = [.ref p] ∧ H p = some (.ins C dx (CtF c t)) ∧ H t = some (.tup [.int c.b0, .int c.b1]) ∧ cdue c - c.b0 < 1073741824 ∧
  ∀ t' H', H' t' = some (.tup [.int (cdue c), .int c.many]) → Eff H H' [(p, .ins C dx (CtF { c with b0 := cdue c, b1 := c.many } t'))] [] → Q (.int (shareOf (cdue c - c.b0) (c.many - c.b1))) H'
section
variable {H0 : Hp} {S : List Addr} {L L' : List Ent} {T : TFs} {Q : VK} {E : XK} {C p dx t : Addr} {c : Ct}
theorem gl_init {n : Int} {L'' : Addr → List Ent} (u : ∀ t, Upd L p (.ins C dx []) (.ins C dx (CtF ⟨n, n, 0, 1, none, 0, 0, none, 0⟩ t)) (L'' t)) (h : ∀ t, Go H0 S (L'' t) (TF t [.int 0, .int 0] :: T) fun H => Q .non H) : Go H0 S L T fun H => spInit C [.ref p, .int n] H Q E :=
  fun H s => ⟨p, dx, n, rfl, s.getU (u 0), fun t H' ht e => h t H' (((s.eff1 (u t) e)).fact ht TF.stab)⟩
theorem gl_meas {tm ar : Int} (u : Upd L p (.ins C dx (CtF c t)) (.ins C dx (CtF (meas c tm ar) t)) L') (h : Go H0 S L' T fun H => Q .non H) : Go H0 S L T fun H => spMeas C [.ref p, .int tm, .int ar] H Q E :=
  fun H s => ⟨p, dx, t, c, tm, ar, rfl, s.getU u, fun H' e => h H' (s.eff1 u e)⟩
theorem gl_put {n tm ar : Int} {L'' : Ct → Addr → List Ent} (u : ∀ c' t', Upd L p (.ins C dx (CtF c t)) (.ins C dx (CtF c' t')) (L'' c' t')) (m : Lk H0 S L T t (.tup [.int c.b0, .int c.b1])) (h : ∀ r c' t', CPut c n tm ar r c' → Go H0 S (L'' c' t') (TF t' [.int c'.b0, .int c'.b1] :: T) fun H => Q (.bl r) H) :
    Go H0 S L T fun H => spPut C [.ref p, .int n, .int tm, .int ar] H Q E :=
  fun H s => ⟨p, dx, t, c, n, tm, ar, rfl, s.getU (u c t), m _ s, fun r c' t' H' hc ht e => h r c' t' hc H' ((s.eff1 (u c' t') e).fact ht TF.stab)⟩
theorem gl_get {g : Ct → Int} (m : Lk H0 S L T p (.ins C dx (CtF c t))) (h : Go H0 S L T fun H => Q (.int (g c)) H) : Go H0 S L T fun H => spGet C g [.ref p] H Q E :=
  fun H s => ⟨p, dx, t, c, rfl, m _ s, fun H' e => h H' (s.eff0 e)⟩
end
section
variable {P : Program} {w : World} {K : PySem.W.Frag} {mg : Str → Option Value} {base : Heap} {f : Addr} {fd : FuncData} {C_Count : Addr}
theorem ok_init (F : Fun K "__init__" "Count.__init__" s_Count_init f fd) (T : Txt K mg C_Count) : FnOk P w K mg base CX0 1 f fd ["self", "number"] (spInit C_Count) := by
  refine F.ok sc_Count_init (fun vs H Q E h => ?_) (fun cdv A outer s H vs Q E hr h => ?_)
  · obtain ⟨p, dx, n, rfl, _⟩ := h; rfl
  · obtain ⟨p, dx, n, rfl, hp, k⟩ := h
    have na_base := T.na_Count_base
    have na_top := T.na_Count_top
    have na_rounds := T.na_Count_rounds
    have na_many := T.na_Count_many
    have na_odd := T.na_Count_odd
    have na_before := T.na_Count_before
    have na_way := T.na_Count_way
    have na_uneven := T.na_Count_uneven
    have cl_Count := T.cl_Count
    refine ⟨_, (pss_cons (kSet (K := K) rfl (pv 0) (pv 1) rfl)
  (pss_cons (kSet (K := K) rfl (pv 0) (pv 1) rfl)
  (pss_cons (kSet (K := K) rfl (pv 0) pe_int rfl)
  (pss_cons (kSet (K := K) rfl (pv 0) pe_int rfl)
  (pss_cons (kSet (K := K) rfl (pv 0) pe_non rfl)
  (pss_cons (kSet (K := K) rfl (pv 0) (pe_tup (pa_cons pe_int (pa_cons pe_int pa_nil))) rfl)
  (pss_cons (kSet (K := K) rfl (pv 0) pe_non rfl)
  (pss_one (kSet (K := K) rfl (pv 0) pe_int rfl))))))))), ?_⟩
    rw [show start ["self", "number"] _ = [some (V.ref p), some (V.int n)] from rfl]
    apply (Sh.start1 hp).go
    walk_at "stp"
    rename_i t
    intro H1 hs
    exact k t _ (hs.tup (by walk_at "in1")) (by walk_at "eff")
theorem ok_meas (F : Fun K "measure" "Count.measure" s_Count_measure f fd) (T : Txt K mg C_Count) : FnOk P w K mg base CX0 1 f fd ["self", "time", "arrival"] (spMeas C_Count) := by
  refine F.ok sc_Count_measure (fun vs H Q E h => ?_) (fun cdv A outer s H vs Q E hr h => ?_)
  · obtain ⟨p, dx, t, c, tm, ar, rfl, _⟩ := h; rfl
  · obtain ⟨p, dx, t, c, tm, ar, rfl, hp, k⟩ := h
    have na_base := T.na_Count_base
    have na_top := T.na_Count_top
    have na_rounds := T.na_Count_rounds
    have na_many := T.na_Count_many
    have na_odd := T.na_Count_odd
    have na_before := T.na_Count_before
    have na_way := T.na_Count_way
    have na_uneven := T.na_Count_uneven
    have cl_Count := T.cl_Count
    refine ⟨_, (pss_cons (ps_set (i := 3) sc_Count_measure.nd rfl (Or.inl rfl) (pe_op op_mod (pe_op op_sub (pv 2) (pv 1)) (pe_globI rfl T.c_TIMES)))
  (pss_cons (ps_if (pt_cmpR oNotN (kFld (K := K) rfl (pv 0) rfl) pe_non (nomark _))
  (pss_cons (ps_set (i := 4) sc_Count_measure.nd rfl (Or.inl rfl) (pe_callB cAbs (by rfl) T.z_abs (by decide +kernel) (pa_cons (pe_op op_sub (pe_op op_mod (pe_op op_add (pe_op op_sub (pv 3) (kFld (K := K) rfl (pv 0) rfl)) (pe_op op_fdiv (pe_globI rfl T.c_TIMES) pe_int)) (pe_globI rfl T.c_TIMES)) (pe_op op_fdiv (pe_globI rfl T.c_TIMES) pe_int)) pa_nil)))
  (pss_one (kAug (K := K) rfl (pv 0) (pe_op op_sub (pv 4) (pe_op op_fdiv (pe_op op_add (kFld (K := K) rfl (pv 0) rfl) pe_int) pe_int)) in_add)))
  pss_nil)
  (pss_one (kSet (K := K) rfl (pv 0) (pv 3) rfl)))), ?_⟩
    rw [show start ["self", "time", "arrival", "way", "step"] _ = [some (V.ref p), some (V.int tm), some (V.int ar), none, none] from rfl]
    have fin : ∀ (un' : Int), un' = (meas c tm ar).un → Go H [p] [(p, Fl.s, HO.ins C_Count dx [("base", .int c.base), ("top", .int c.top), ("rounds", .int c.rounds), ("many", .int c.many), ("odd", oV c.odd), ("before", .ref t), ("way", .int ((ar - tm) % 4294967296)), ("uneven", .int un')])] [] fun H' => Q .non H' := fun un' e H1 hs => by
      subst e
      exact k _ (hs.toEffG (.cons .here .nil) rfl .nil (by decide))
    apply (Sh.start1 hp).go
    walk_at "stp"
    cases hw : c.way with
    | none =>
      refine g_iteN (by simp) ?_
      walk_at "stp"
      exact fin _ (by unfold meas; rw [hw])
    | some wy =>
      refine g_iteP (by simp) ?_
      walk_at "stp"
      rw [show oV c.way = V.int wy by rw [hw]; rfl]
      walk_at "stp"
      exact fin _ (by unfold meas absI; rw [hw])
theorem ok_put (F : Fun K "put" "Count.put" s_Count_put f fd) (T : Txt K mg C_Count) (F_Count_measure : MtF P w K mg base C_Count "measure" 1 ["self", "time", "arrival"] (spMeas C_Count)) : FnOk P w K mg base CX0 2 f fd ["self", "number", "time", "arrival"] (spPut C_Count) := by
  refine F.ok sc_Count_put (fun vs H Q E h => ?_) (fun cdv A outer s H vs Q E hr h => ?_)
  · obtain ⟨p, dx, t, c, n, tm, ar, rfl, _⟩ := h; rfl
  · obtain ⟨p, dx, t, c, n, tm, ar, rfl, hp, ht, k⟩ := h
    have na_base := T.na_Count_base
    have na_top := T.na_Count_top
    have na_rounds := T.na_Count_rounds
    have na_many := T.na_Count_many
    have na_odd := T.na_Count_odd
    have na_before := T.na_Count_before
    have na_way := T.na_Count_way
    have na_uneven := T.na_Count_uneven
    have cl_Count := T.cl_Count
    refine ⟨_, (pss_cons (ps_set (i := 4) sc_Count_put.nd rfl (Or.inl rfl) (pe_op op_mod (pe_op op_sub (pv 1) (kFld (K := K) rfl (pv 0) rfl)) (pe_globI rfl T.c_NUMBERS)))
  (pss_cons (ps_if (pt_chain op_lt op_lt pe_int (pv 4) (pe_globI rfl T.c_LOST))
  (pss_cons (ps_if (pt_cmpR op_lt (pv 1) (kFld (K := K) rfl (pv 0) rfl) (nomark _))
  (pss_one (kAug (K := K) rfl (pv 0) pe_int in_add))
  pss_nil)
  (pss_one (kSet (K := K) rfl (pv 0) (pv 1) rfl)))
  (pss_one (ps_if (pt_chain op_le op_le (pe_globI rfl T.c_LOST) (pv 4) (pe_op op_sub (pe_globI rfl T.c_NUMBERS) (pe_globI rfl T.c_LATE)))
  (pss_cons (ps_if (pt_cmpR op_ne (kFld (K := K) rfl (pv 0) rfl) (pv 1) (nomark _))
  (pss_cons (kSet (K := K) rfl (pv 0) (pe_op op_mod (pe_op op_add (pv 1) pe_int) (pe_globI rfl T.c_NUMBERS)) rfl)
  (pss_one (ps_ret pe_bl)))
  pss_nil)
  (pss_one (ps_asg (pe_tup (pa_cons (pv 1) (pa_cons (pv 1) (pa_cons pe_int (pa_cons pe_int (pa_cons (pe_tup (pa_cons pe_int (pa_cons pe_int pa_nil))) pa_nil)))))) (kGTup (K := K) (n := 5) rfl rfl (pgs_cons (kAttr (K := K) rfl (pv 0)) (pgs_cons (kAttr (K := K) rfl (pv 0)) (pgs_cons (kAttr (K := K) rfl (pv 0)) (pgs_cons (kAttr (K := K) rfl (pv 0)) (pgs_cons (kAttr (K := K) rfl (pv 0)) pgs_nil)))))))))
  pss_nil)))
  (pss_cons (kSet (K := K) rfl (pv 0) pe_non rfl)
  (pss_cons (kAug (K := K) rfl (pv 0) pe_int in_add)
  (pss_cons (ps_expr (pe_methF T.cl_Count F_Count_measure (hr.mono (by first | decide | omega)) (pv 0) (pa_cons (pv 2) (pa_cons (pv 3) pa_nil))))
  (pss_one (ps_ret pe_bl))))))), ?_⟩
    rw [show start ["self", "number", "time", "arrival", "step"] _ = [some (V.ref p), some (V.int n), some (V.int tm), some (V.int ar), none] from rfl]
    apply (Sh.start1 hp).go
    walk_at "stp"
    refine g_ite (fun h1 => ?_) (fun h1 => ?_)
    · obtain ⟨h1, h2⟩ : 0 < (n - c.top) % 65536 ∧ (n - c.top) % 65536 < 3000 := by simpa using h1
      walk_at "stp"
      refine g_ite (fun h3 => ?_) (fun h3 => ?_)
      · walk_at "stp"
        refine gl_meas (c := { c with top := n, rounds := c.rounds + 1, odd := none, many := c.many + 1 }) (by walk_at "upd") ?_
        walk_at "stp"
        intro H1 hs
        exact k true _ t _ (.turn h1 h2 (of_decide_eq_true h3)) (hs.tp _ _ ht) (by walk_at "eff")
      · walk_at "stp"
        refine gl_meas (c := { c with top := n, odd := none, many := c.many + 1 }) (by walk_at "upd") ?_
        walk_at "stp"
        intro H1 hs
        exact k true _ t _ (.up h1 h2 (of_decide_eq_false h3)) (hs.tp _ _ ht) (by walk_at "eff")
    · have h0 : ¬ (0 < (n - c.top) % 65536 ∧ (n - c.top) % 65536 < 3000) := by simpa using h1
      walk_at "stp"
      refine g_ite (fun h2 => ?_) (fun h2 => ?_)
      · obtain ⟨h2, h3⟩ : 3000 ≤ (n - c.top) % 65536 ∧ (n - c.top) % 65536 ≤ 65436 := by
          have : 3000 ≤ (n - c.top) % 65536 ∧ (n - c.top) % 65536 ≤ 65536 - 100 := by simpa using h2
          omega
        walk_at "stp"
        refine g_ite (fun h4 => ?_) (fun h4 => ?_)
        · walk_at "stp"
          intro H1 hs
          exact k false { c with odd := some ((n + 1) % 65536) } t _ (.far h0 h2 h3 (by simpa using h4)) (hs.tp _ _ ht) (by walk_at "eff")
        · walk_at "stp"
          rename_i tz tu
          refine gl_meas (t := tz) (c := { c with base := n, top := n, rounds := 0, many := 1, b0 := 0, b1 := 0, odd := none }) (by walk_at "upd") ?_
          walk_at "stp"
          intro H1 hs
          exact k true _ tz _ (.new h0 h2 h3 (by simpa using h4)) (Lk.tf (p := tz) (by walk_at "in1") _ hs) (by walk_at "eff")
      · have h2 : ¬ (3000 ≤ (n - c.top) % 65536 ∧ (n - c.top) % 65536 ≤ 65436) := by
          have : ¬ (3000 ≤ (n - c.top) % 65536 ∧ (n - c.top) % 65536 ≤ 65536 - 100) := by simpa using h2
          omega
        walk_at "stp"
        refine gl_meas (c := { c with odd := none, many := c.many + 1 }) (by walk_at "upd") ?_
        walk_at "stp"
        intro H1 hs
        exact k true _ t _ (.late h0 h2) (hs.tp _ _ ht) (by walk_at "eff")
theorem ok_high (F : Fun K "highest" "Count.highest" s_Count_highest f fd) (T : Txt K mg C_Count) : FnOk P w K mg base CX0 1 f fd ["self"] (spGet C_Count chigh) := by
  refine F.ok sc_Count_highest (fun vs H Q E h => ?_) (fun cdv A outer s H vs Q E hr h => ?_)
  · obtain ⟨p, dx, t, c, rfl, _⟩ := h; rfl
  · obtain ⟨p, dx, t, c, rfl, hp, k⟩ := h
    have na_base := T.na_Count_base
    have na_top := T.na_Count_top
    have na_rounds := T.na_Count_rounds
    have na_many := T.na_Count_many
    have na_odd := T.na_Count_odd
    have na_before := T.na_Count_before
    have na_way := T.na_Count_way
    have na_uneven := T.na_Count_uneven
    have cl_Count := T.cl_Count
    refine ⟨_, (pss_one (ps_ret (pe_op op_add (pe_op op_mul (kFld (K := K) rfl (pv 0) rfl) (pe_globI rfl T.c_NUMBERS)) (kFld (K := K) rfl (pv 0) rfl)))), ?_⟩
    rw [show start ["self"] _ = [some (V.ref p)] from rfl]
    apply Sh.start.go
    walk_at "stp"
    intro H1 hs
    exact k _ (by walk_at "eff")
theorem ok_due (F : Fun K "due" "Count.due" s_Count_due f fd) (T : Txt K mg C_Count) (F_Count_highest : MtF P w K mg base C_Count "highest" 1 ["self"] (spGet C_Count chigh)) : FnOk P w K mg base CX0 2 f fd ["self"] (spGet C_Count cdue) := by
  refine F.ok sc_Count_due (fun vs H Q E h => ?_) (fun cdv A outer s H vs Q E hr h => ?_)
  · obtain ⟨p, dx, t, c, rfl, _⟩ := h; rfl
  · obtain ⟨p, dx, t, c, rfl, hp, k⟩ := h
    have na_base := T.na_Count_base
    have na_top := T.na_Count_top
    have na_rounds := T.na_Count_rounds
    have na_many := T.na_Count_many
    have na_odd := T.na_Count_odd
    have na_before := T.na_Count_before
    have na_way := T.na_Count_way
    have na_uneven := T.na_Count_uneven
    have cl_Count := T.cl_Count
    refine ⟨_, (pss_one (ps_ret (pe_op op_add (pe_op op_sub (pe_meth0F T.cl_Count F_Count_highest (hr.mono (by first | decide | omega)) (pv 0)) (kFld (K := K) rfl (pv 0) rfl)) pe_int))), ?_⟩
    rw [show start ["self"] _ = [some (V.ref p)] from rfl]
    apply Sh.start.go
    walk_at "stp"
    refine gl_get (c := c) (t := t) (by walk_at "at") ?_
    walk_at "stp"
    intro H1 hs
    exact k _ (by walk_at "eff")
theorem ok_lost (F : Fun K "lost" "Count.lost" s_Count_lost f fd) (T : Txt K mg C_Count) (F_Count_due : MtF P w K mg base C_Count "due" 2 ["self"] (spGet C_Count cdue)) : FnOk P w K mg base CX0 3 f fd ["self"] (spGet C_Count clost) := by
  refine F.ok sc_Count_lost (fun vs H Q E h => ?_) (fun cdv A outer s H vs Q E hr h => ?_)
  · obtain ⟨p, dx, t, c, rfl, _⟩ := h; rfl
  · obtain ⟨p, dx, t, c, rfl, hp, k⟩ := h
    have na_base := T.na_Count_base
    have na_top := T.na_Count_top
    have na_rounds := T.na_Count_rounds
    have na_many := T.na_Count_many
    have na_odd := T.na_Count_odd
    have na_before := T.na_Count_before
    have na_way := T.na_Count_way
    have na_uneven := T.na_Count_uneven
    have cl_Count := T.cl_Count
    refine ⟨_, (pss_one (ps_ret (pe_op op_sub (pe_meth0F T.cl_Count F_Count_due (hr.mono (by first | decide | omega)) (pv 0)) (kFld (K := K) rfl (pv 0) rfl)))), ?_⟩
    rw [show start ["self"] _ = [some (V.ref p)] from rfl]
    apply Sh.start.go
    walk_at "stp"
    refine gl_get (c := c) (t := t) (by walk_at "at") ?_
    walk_at "stp"
    intro H1 hs
    exact k _ (by walk_at "eff")
theorem ok_unev (F : Fun K "unevenness" "Count.unevenness" s_Count_unevenness f fd) (T : Txt K mg C_Count) : FnOk P w K mg base CX0 1 f fd ["self"] (spGet C_Count cunev) := by
  refine F.ok sc_Count_unevenness (fun vs H Q E h => ?_) (fun cdv A outer s H vs Q E hr h => ?_)
  · obtain ⟨p, dx, t, c, rfl, _⟩ := h; rfl
  · obtain ⟨p, dx, t, c, rfl, hp, k⟩ := h
    have na_base := T.na_Count_base
    have na_top := T.na_Count_top
    have na_rounds := T.na_Count_rounds
    have na_many := T.na_Count_many
    have na_odd := T.na_Count_odd
    have na_before := T.na_Count_before
    have na_way := T.na_Count_way
    have na_uneven := T.na_Count_uneven
    have cl_Count := T.cl_Count
    refine ⟨_, (pss_one (ps_ret (pe_op op_fdiv (kFld (K := K) rfl (pv 0) rfl) pe_int))), ?_⟩
    rw [show start ["self"] _ = [some (V.ref p)] from rfl]
    apply Sh.start.go
    walk_at "stp"
    intro H1 hs
    exact k _ (by walk_at "eff")
theorem ok_share (F : Fun K "share" "Count.share" s_Count_share f fd) (T : Txt K mg C_Count) (F_Count_due : MtF P w K mg base C_Count "due" 2 ["self"] (spGet C_Count cdue)) : FnOk P w K mg base CX0 3 f fd ["self"] (spShare C_Count) := by
  refine F.ok sc_Count_share (fun vs H Q E h => ?_) (fun cdv A outer s H vs Q E hr h => ?_)
  · obtain ⟨p, dx, t, c, rfl, _⟩ := h; rfl
  · obtain ⟨p, dx, t, c, rfl, hp, ht, hb, k⟩ := h
    have na_base := T.na_Count_base
    have na_top := T.na_Count_top
    have na_rounds := T.na_Count_rounds
    have na_many := T.na_Count_many
    have na_odd := T.na_Count_odd
    have na_before := T.na_Count_before
    have na_way := T.na_Count_way
    have na_uneven := T.na_Count_uneven
    have cl_Count := T.cl_Count
    refine ⟨_, (pss_cons (ps_par (i := 1) (j := 2) rfl sc_Count_share.nd rfl rfl (by decide) rfl rfl (pa_cons (pe_op op_sub (pe_meth0F T.cl_Count F_Count_due (hr.mono (by first | decide | omega)) (pv 0)) (pe_ix (kIxT (K := K) rfl) (kFld (K := K) rfl (pv 0) rfl) pe_int (fun _ _ => rfl))) (pa_cons (pe_op op_sub (kFld (K := K) rfl (pv 0) rfl) (pe_ix (kIxT (K := K) rfl) (kFld (K := K) rfl (pv 0) rfl) pe_int (fun _ _ => rfl))) pa_nil)) rfl)
  (pss_cons (kSet (K := K) rfl (pv 0) (pe_tup (pa_cons (pe_meth0F T.cl_Count F_Count_due (hr.mono (by first | decide | omega)) (pv 0)) (pa_cons (kFld (K := K) rfl (pv 0) rfl) pa_nil))) rfl)
  (pss_cons (ps_if (PW.pt (pw_or (pt_cmpR op_le (pv 1) pe_int (nomark _)) (pw_or1 (pt_cmpR op_ge (pv 2) (pv 1) (nomark _)))))
  (pss_one (ps_ret pe_int))
  pss_nil)
  (pss_one (ps_ret (pe_op op_fdiv (pe_op op_mul (pe_op op_sub (pv 1) (pv 2)) pe_int) (pv 1))))))), ?_⟩
    rw [show start ["self", "due", "many"] _ = [some (V.ref p), none, none] from rfl]
    apply (Sh.start1 hp).go
    walk_at "stp"
    refine gl_get (c := c) (t := t) (by walk_at "at") ?_
    walk_at "stp"
    refine gl_get (c := c) (t := t) (by walk_at "at") ?_
    walk_at "stp"
    rename_i t2
    refine g_ite (fun h1 => ?_) (fun h1 => ?_)
    · walk_at "stp"
      intro H1 hs
      have e : shareOf (cdue c - c.b0) (c.many - c.b1) = 0 := if_pos (.inl (of_decide_eq_true h1))
      exact e ▸ k t2 _ (Lk.tf (by walk_at "in1") _ hs) (by walk_at "eff")
    · walk_at "stp"
      refine g_ite (fun h2 => ?_) (fun h2 => ?_)
      · walk_at "stp"
        intro H1 hs
        have e : shareOf (cdue c - c.b0) (c.many - c.b1) = 0 := if_pos (.inr (of_decide_eq_true h2))
        exact e ▸ k t2 _ (Lk.tf (by walk_at "in1") _ hs) (by walk_at "eff")
      · have h3 := of_decide_eq_false h1
        have h4 := of_decide_eq_false h2
        walk_at "stp"
        intro H1 hs
        have e : shareOf (cdue c - c.b0) (c.many - c.b1) = (cdue c - c.b0 - (c.many - c.b1)) * 256 / (cdue c - c.b0) := if_neg (by omega)
        exact e ▸ k t2 _ (Lk.tf (by walk_at "in1") _ hs) (by walk_at "eff")
end

end L3


namespace L3
open PySem L2
structure Md where
  top : Int
  first : Int
  high : Int
  many : Int
  odd : Option Int
  a0 : Int
  a1 : Int
  way : Option Int
  sum : Int
  last : Int
abbrev MdF (m : Md) (t : Addr) : List (Key × V) := [(Sum.inr "top", .int m.top), (Sum.inr "first", .int m.first), (Sum.inr "high", .int m.high), (Sum.inr "many", .int m.many), (Sum.inr "odd", oV m.odd), (Sum.inr "asked", .ref t), (Sum.inr "way", oV m.way), (Sum.inr "sum", .int m.sum), (Sum.inr "last", .int m.last)]
def minI (i j : Int) : Int := if j < i then j else i
def msum (m : Md) (tm ar : Int) : Int := match m.way with | none => m.sum | some w => m.sum + minI (((ar - tm) % 4294967296 - w) % 4294967296) (4294967296 - ((ar - tm) % 4294967296 - w) % 4294967296) - (m.last + 8) / 16
def mmeas (m : Md) (tm ar : Int) : Md := { m with way := some ((ar - tm) % 4294967296), sum := msum m tm ar, last := msum m tm ar }
inductive MPut (m : Md) (n tm ar : Int) : Bool → Md → Prop where
  | up (h : 1 ≤ (n - m.top) % 65536 ∧ (n - m.top) % 65536 < 3000) : MPut m n tm ar true (mmeas { m with high := m.high + (n - m.top) % 65536, top := n, odd := none, many := m.many + 1 } tm ar)
  | far (h : ¬ (1 ≤ (n - m.top) % 65536 ∧ (n - m.top) % 65536 < 3000)) (h2 : (m.top - n) % 65536 > 99) (h3 : ¬ m.odd = some n) : MPut m n tm ar false { m with odd := some ((n + 1) % 65536) }
  | new (h : ¬ (1 ≤ (n - m.top) % 65536 ∧ (n - m.top) % 65536 < 3000)) (h2 : (m.top - n) % 65536 > 99) (h3 : m.odd = some n) : MPut m n tm ar true (mmeas { m with top := n, first := n, high := n, many := 1, a0 := 0, a1 := 0, odd := none } tm ar)
  | late (h : ¬ (1 ≤ (n - m.top) % 65536 ∧ (n - m.top) % 65536 < 3000)) (h2 : ¬ (m.top - n) % 65536 > 99) : MPut m n tm ar true (mmeas { m with odd := none, many := m.many + 1 } tm ar)
def spMPut : Sp := fun vs H Q _ => ∃ (p t : Addr) (m : Md) (n tm ar : Int), vs = [.ref p, .int n, .int tm, .int ar] ∧ H p = some (.dK (MdF m t)) ∧ H t = some (.tup [.int m.a0, .int m.a1]) ∧
  ∀ r m' t' H', MPut m n tm ar r m' → H' t' = some (.tup [.int m'.a0, .int m'.a1]) → Eff H H' [(p, .dK (MdF m' t'))] [] → Q (.bl r) H'
section
variable {H0 : Hp} {S : List Addr} {L L' : List Ent} {T : TFs} {Q : VK} {E : XK} {p t : Addr} {m : Md}
theorem gl_mput {n tm ar : Int} {L'' : Md → Addr → List Ent} (u : ∀ m' t', Upd L p (.dK (MdF m t)) (.dK (MdF m' t')) (L'' m' t')) (lk : Lk H0 S L T t (.tup [.int m.a0, .int m.a1])) (h : ∀ r m' t', MPut m n tm ar r m' → Go H0 S (L'' m' t') (TF t' [.int m'.a0, .int m'.a1] :: T) fun H => Q (.bl r) H) :
    Go H0 S L T fun H => spMPut [.ref p, .int n, .int tm, .int ar] H Q E :=
  fun H s => ⟨p, t, m, n, tm, ar, rfl, s.getU (u m t), lk _ s, fun r m' t' H' hc ht e => h r m' t' hc H' ((s.eff1 (u m' t') e).fact ht TF.stab)⟩
end
section
variable {P : Program} {w : World} {K : PySem.W.Frag} {mg : Str → Option Value} {base : Heap} {f : Addr} {fd : FuncData} {C_Count : Addr}
theorem ok_mput (F : Fun K "_law_put" "_law_put" s_law_put f fd) (T : Txt K mg C_Count) : FnOk P w K mg base CX0 1 f fd ["model", "number", "time", "arrival"] spMPut := by
  refine F.ok sc_law_put (fun vs H Q E h => ?_) (fun cdv A outer s H vs Q E hr h => ?_)
  · obtain ⟨p, t, m, n, tm, ar, rfl, _⟩ := h; rfl
  · obtain ⟨p, t, m, n, tm, ar, rfl, hp, ht, k⟩ := h
    refine ⟨_, (pss_cons (ps_set (i := 4) sc_law_put.nd rfl (Or.inl rfl) (pe_op op_mod (pe_callTy cInt (by rfl) T.z_int (by decide +kernel) (pa_cons (pe_op op_sub (pv 1) (pe_dget (hu_of hr) (pv 0) pe_str (fun _ _ => rfl))) pa_nil)) pe_int))
  (pss_cons (ps_set (i := 5) sc_law_put.nd rfl (Or.inl rfl) (pe_op op_mod (pe_callTy cInt (by rfl) T.z_int (by decide +kernel) (pa_cons (pe_op op_sub (pe_dget (hu_of hr) (pv 0) pe_str (fun _ _ => rfl)) (pv 1)) pa_nil)) pe_int))
  (pss_cons (ps_if (pt_chain op_le op_lt pe_int (pv 4) pe_int)
  (pss_cons (ps_dput (hu_of hr) (pv 0) pe_str (pe_op op_add (pe_dget (hu_of hr) (pv 0) pe_str (fun _ _ => rfl)) (pv 4)) rfl)
  (pss_one (ps_dput (hu_of hr) (pv 0) pe_str (pv 1) rfl)))
  (pss_one (ps_if (pt_cmpR op_gt (pv 5) pe_int (nomark _))
  (pss_cons (ps_if (pt_cmpR op_ne (pe_dget (hu_of hr) (pv 0) pe_str (fun _ _ => rfl)) (pv 1) (nomark _))
  (pss_cons (ps_dput (hu_of hr) (pv 0) pe_str (pe_op op_mod (pe_callTy cInt (by rfl) T.z_int (by decide +kernel) (pa_cons (pe_op op_add (pv 1) pe_int) pa_nil)) pe_int) rfl)
  (pss_one (ps_ret pe_bl)))
  pss_nil)
  (pss_cons (ps_asg (pe_tup (pa_cons (pv 1) (pa_cons (pv 1) (pa_cons (pv 1) pa_nil)))) (kGTup (K := K) (n := 3) rfl rfl (pgs_cons (pg_sub (pv 0) pe_str (set_dict (hu_of hr))) (pgs_cons (pg_sub (pv 0) pe_str (set_dict (hu_of hr))) (pgs_cons (pg_sub (pv 0) pe_str (set_dict (hu_of hr))) pgs_nil)))))
  (pss_one (ps_asg (pe_tup (pa_cons pe_int (pa_cons (pe_tup (pa_cons pe_int (pa_cons pe_int pa_nil))) pa_nil))) (kGTup (K := K) (n := 2) rfl rfl (pgs_cons (pg_sub (pv 0) pe_str (set_dict (hu_of hr))) (pgs_cons (pg_sub (pv 0) pe_str (set_dict (hu_of hr))) pgs_nil)))))))
  pss_nil)))
  (pss_cons (ps_dput (hu_of hr) (pv 0) pe_str pe_non rfl)
  (pss_cons (ps_dput (hu_of hr) (pv 0) pe_str (pe_op op_add (pe_dget (hu_of hr) (pv 0) pe_str (fun _ _ => rfl)) pe_int) rfl)
  (pss_cons (ps_set (i := 6) sc_law_put.nd rfl (Or.inl rfl) (pe_op op_mod (pe_callTy cInt (by rfl) T.z_int (by decide +kernel) (pa_cons (pe_op op_sub (pv 3) (pv 2)) pa_nil)) pe_int))
  (pss_cons (ps_if (pt_cmpR oNotN (pe_dget (hu_of hr) (pv 0) pe_str (fun _ _ => rfl)) pe_non (nomark _))
  (pss_cons (ps_set (i := 7) sc_law_put.nd rfl (Or.inl rfl) (pe_op op_mod (pe_callTy cInt (by rfl) T.z_int (by decide +kernel) (pa_cons (pe_op op_sub (pv 6) (pe_dget (hu_of hr) (pv 0) pe_str (fun _ _ => rfl))) pa_nil)) pe_int))
  (pss_cons (ps_dput (hu_of hr) (pv 0) pe_str (pe_op op_add (pe_dget (hu_of hr) (pv 0) pe_str (fun _ _ => rfl)) (pe_callB (cMin2 rfl) (by rfl) T.z_min (by decide +kernel) (pa_cons (pv 7) (pa_cons (pe_op op_sub pe_int (pv 7)) pa_nil)))) rfl)
  (pss_one (ps_dput (hu_of hr) (pv 0) pe_str (pe_op op_sub (pe_dget (hu_of hr) (pv 0) pe_str (fun _ _ => rfl)) (pe_op op_fdiv (pe_op op_add (pe_dget (hu_of hr) (pv 0) pe_str (fun _ _ => rfl)) pe_int) pe_int)) rfl))))
  pss_nil)
  (pss_cons (ps_asg (pe_tup (pa_cons (pv 6) (pa_cons (pe_dget (hu_of hr) (pv 0) pe_str (fun _ _ => rfl)) pa_nil))) (kGTup (K := K) (n := 2) rfl rfl (pgs_cons (pg_sub (pv 0) pe_str (set_dict (hu_of hr))) (pgs_cons (pg_sub (pv 0) pe_str (set_dict (hu_of hr))) pgs_nil))))
  (pss_one (ps_ret pe_bl)))))))))), ?_⟩
    rw [show start ["model", "number", "time", "arrival", "ahead", "behind", "way", "apart"] _ = [some (V.ref p), some (V.int n), some (V.int tm), some (V.int ar), none, none, none, none] from rfl]
    have fin : ∀ (m1 : Md) (t1 : Addr) (T1 : TFs) (s' : Int), MPut m n tm ar true (mmeas m1 tm ar) → (∀ H1 L1, Sh H [p] H1 L1 T1 → H1 t1 = some (.tup [.int m1.a0, .int m1.a1])) → s' = msum m1 tm ar →
        Go H [p] [(p, Fl.s, HO.dK [(Sum.inr "top", .int m1.top), (Sum.inr "first", .int m1.first), (Sum.inr "high", .int m1.high), (Sum.inr "many", .int m1.many), (Sum.inr "odd", oV m1.odd), (Sum.inr "asked", .ref t1), (Sum.inr "way", .int ((ar - tm) % 4294967296)), (Sum.inr "sum", .int s'), (Sum.inr "last", .int s')])] T1 fun H' => Q (.bl true) H' := fun m1 t1 T1 s' h1 h2 e H1 hs => by
      subst e
      exact k true (mmeas m1 tm ar) t1 _ h1 (h2 _ _ hs) (hs.toEffG (.cons .here .nil) rfl .nil (by decide))
    apply (Sh.start1 hp).go
    walk_at "stp"
    refine g_ite (fun h1 => ?_) (fun h1 => ?_)
    · have h1 : 1 ≤ (n - m.top) % 65536 ∧ (n - m.top) % 65536 < 3000 := by simpa using h1
      walk_at "stp"
      cases hw : m.way with
      | none =>
        refine g_iteN (by simp) ?_
        walk_at "stp"
        exact fin { m with high := m.high + (n - m.top) % 65536, top := n, odd := none, many := m.many + 1 } t _ _ (.up h1) (fun H1 L1 hs => hs.tp _ _ ht) (by unfold msum; rw [hw])
      | some wy =>
        refine g_iteP (by simp) ?_
        walk_at "stp"
        simp only [oV, hw]
        walk_at "stp"
        exact fin { m with high := m.high + (n - m.top) % 65536, top := n, odd := none, many := m.many + 1 } t _ _ (.up h1) (fun H1 L1 hs => hs.tp _ _ ht) (by unfold msum minI; rw [hw])
    · have h1 : ¬ (1 ≤ (n - m.top) % 65536 ∧ (n - m.top) % 65536 < 3000) := by simpa using h1
      walk_at "stp"
      refine g_ite (fun h2 => ?_) (fun h2 => ?_)
      · have h2 := of_decide_eq_true h2
        walk_at "stp"
        refine g_ite (fun h3 => ?_) (fun h3 => ?_)
        · walk_at "stp"
          intro H1 hs
          exact k false { m with odd := some ((n + 1) % 65536) } t _ (.far h1 h2 (by simpa using h3)) (hs.tp _ _ ht) (by walk_at "eff")
        · walk_at "stp"
          rename_i u1 tz u2
          cases hw : m.way with
          | none =>
            refine g_iteN (by simp) ?_
            walk_at "stp"
            exact fin { m with top := n, first := n, high := n, many := 1, a0 := 0, a1 := 0, odd := none } tz _ _ (.new h1 h2 (by simpa using h3)) (fun H1 L1 hs => Lk.tf (p := tz) (by walk_at "in1") _ hs) (by unfold msum; rw [hw])
          | some wy =>
            refine g_iteP (by simp) ?_
            walk_at "stp"
            simp only [oV, hw]
            walk_at "stp"
            exact fin { m with top := n, first := n, high := n, many := 1, a0 := 0, a1 := 0, odd := none } tz _ _ (.new h1 h2 (by simpa using h3)) (fun H1 L1 hs => Lk.tf (p := tz) (by walk_at "in1") _ hs) (by unfold msum minI; rw [hw])
      · have h2 := of_decide_eq_false h2
        walk_at "stp"
        cases hw : m.way with
        | none =>
          refine g_iteN (by simp) ?_
          walk_at "stp"
          exact fin { m with odd := none, many := m.many + 1 } t _ _ (.late h1 (by omega)) (fun H1 L1 hs => hs.tp _ _ ht) (by unfold msum; rw [hw])
        | some wy =>
          refine g_iteP (by simp) ?_
          walk_at "stp"
          simp only [oV, hw]
          walk_at "stp"
          exact fin { m with odd := none, many := m.many + 1 } t _ _ (.late h1 (by omega)) (fun H1 L1 hs => hs.tp _ _ ht) (by unfold msum minI; rw [hw])
end

end L3


namespace L3
open PySem L2
structure Rl (c : Ct) (m : Md) : Prop where
  base : c.base = m.first
  high : c.rounds * 65536 + c.top = m.high
  top : c.top = m.top
  many : c.many = m.many
  odd : c.odd = m.odd
  b0 : c.b0 = m.a0
  b1 : c.b1 = m.a1
  way : c.way = m.way
  un : c.un = m.sum
  last : m.last = m.sum
  t0 : 0 ≤ c.top
  t1 : c.top < 65536
theorem abs_min (x w : Int) : absI ((x - w + 4294967296 / 2) % 4294967296 - 4294967296 / 2) = minI ((x - w) % 4294967296) (4294967296 - (x - w) % 4294967296) := by
  unfold absI minI
  split <;> split <;> omega
theorem rl_meas {c : Ct} {m : Md} (h : Rl c m) (tm ar : Int) : Rl (meas c tm ar) (mmeas m tm ar) := by
  obtain ⟨h1, h2, h3, h4, h5, h6, h7, h8, h9, h10, h11, h12⟩ := h
  refine ⟨h1, h2, h3, h4, h5, h6, h7, rfl, ?_, rfl, h11, h12⟩
  show (match c.way with | none => c.un | some w => _) = msum m tm ar
  unfold msum
  rw [h8]
  cases m.way with
  | none => exact h9
  | some w =>
    simp only []
    rw [abs_min, h9, h10]
    omega
theorem rl_put {c c' : Ct} {m m' : Md} {n tm ar : Int} {r r' : Bool} (h : Rl c m) (n0 : 0 ≤ n) (n1 : n < 65536) (p : CPut c n tm ar r c') (q : MPut m n tm ar r' m') :
    r = r' ∧ Rl c' m' ∧ (∀ b, 0 ≤ b → m.high - m.first ≤ b → m'.high - m'.first ≤ b + 3000) ∧ (0 ≤ m.a0 ∧ m.first ≤ m.high → 0 ≤ m'.a0 ∧ m'.first ≤ m'.high) := by
  have hh := h
  obtain ⟨h1, h2, h3, h4, h5, h6, h7, h8, h9, h10, h11, h12⟩ := h
  cases p with
  | turn a1 a2 a3 =>
    cases q with
    | up b =>
      refine ⟨rfl, rl_meas ?_ tm ar, fun b hb hd => ?_, fun z => ⟨z.1, by show m.first ≤ m.high + (n - m.top) % 65536; omega⟩⟩
      · refine ⟨h1, ?_, rfl, ?_, rfl, h6, h7, h8, h9, h10, n0, n1⟩
        · show (c.rounds + 1) * 65536 + n = m.high + (n - m.top) % 65536
          omega
        · show c.many + 1 = m.many + 1
          omega
      · show m.high + (n - m.top) % 65536 - m.first ≤ b + 3000
        omega
    | far b1 => omega
    | new b1 => omega
    | late b1 => omega
  | up a1 a2 a3 =>
    cases q with
    | up b =>
      refine ⟨rfl, rl_meas ?_ tm ar, fun b hb hd => ?_, fun z => ⟨z.1, by show m.first ≤ m.high + (n - m.top) % 65536; omega⟩⟩
      · refine ⟨h1, ?_, rfl, ?_, rfl, h6, h7, h8, h9, h10, n0, n1⟩
        · show c.rounds * 65536 + n = m.high + (n - m.top) % 65536
          omega
        · show c.many + 1 = m.many + 1
          omega
      · show m.high + (n - m.top) % 65536 - m.first ≤ b + 3000
        omega
    | far b1 => omega
    | new b1 => omega
    | late b1 => omega
  | far a0 a1 a2 a3 =>
    cases q with
    | up b => omega
    | far b1 b2 b3 => exact ⟨rfl, ⟨h1, h2, h3, h4, rfl, h6, h7, h8, h9, h10, h11, h12⟩, fun b hb hd => by show m.high - m.first ≤ b + 3000; omega, fun z => z⟩
    | new b1 b2 b3 => exact absurd (h5.trans b3) a3
    | late b1 b2 => omega
  | new a0 a1 a2 a3 =>
    cases q with
    | up b => omega
    | far b1 b2 b3 => exact absurd (h5.symm.trans a3) b3
    | new b1 b2 b3 =>
      refine ⟨rfl, rl_meas ?_ tm ar, fun b hb hd => ?_, fun _ => ⟨Int.le_refl 0, Int.le_refl n⟩⟩
      · refine ⟨rfl, ?_, rfl, rfl, rfl, rfl, rfl, h8, h9, h10, n0, n1⟩
        show (0 : Int) * 65536 + n = n
        omega
      · show n - n ≤ b + 3000
        omega
    | late b1 b2 => omega
  | late a0 a1 =>
    cases q with
    | up b => omega
    | far b1 b2 b3 => omega
    | new b1 b2 b3 => omega
    | late b1 b2 =>
      refine ⟨rfl, rl_meas ?_ tm ar, fun b hb hd => ?_, fun z => z⟩
      · refine ⟨h1, h2, h3, ?_, rfl, h6, h7, h8, h9, h10, h11, h12⟩
        show c.many + 1 = m.many + 1
        omega
      · show m.high - m.first ≤ b + 3000
        omega
def spLaw (K : PySem.W.Frag) : Sp := fun vs H Q _ => ∃ (a : Addr) (ns : List Int), vs = [.ref a] ∧ SqL K H a (ns.map V.int) ∧ ns.length ≤ 63 ∧ ∀ H', Q (.bl true) H'
section
variable {H0 : Hp} {S : List Addr} {L L' : List Ent} {T : TFs} {Q : VK} {E : XK} {K : PySem.W.Frag}
theorem gl_draws {a : Addr} {ns : List Int} (q : SqL K H0 a (ns.map V.int)) (ha : a ∉ S) (h : ∀ d l ms, NumOk ms → Go H0 S ((d, .n, .dK (drD l 0)) :: (l, .n, .lst (ms.map V.int)) :: L) T fun H => Q (.ref d) H) : Go H0 S L T fun H => spDraws K [.ref a] H Q E :=
  fun H s => ⟨a, ns, rfl, s.sql q ha, fun d l ms H' ok e => h d l ms ok H' (s.eff0nn e)⟩
theorem gl_share {C p dx t : Addr} {c : Ct} {L'' : Addr → List Ent} (u : ∀ t', Upd L p (.ins C dx (CtF c t)) (.ins C dx (CtF { c with b0 := cdue c, b1 := c.many } t')) (L'' t')) (lk : Lk H0 S L T t (.tup [.int c.b0, .int c.b1])) (hb : cdue c - c.b0 < 1073741824)
    (h : ∀ t', Go H0 S (L'' t') (TF t' [.int (cdue c), .int c.many] :: T) fun H => Q (.int (shareOf (cdue c - c.b0) (c.many - c.b1))) H) : Go H0 S L T fun H => spShare C [.ref p] H Q E :=
  fun H s => ⟨p, dx, t, c, rfl, s.getU (u 0), lk _ s, hb, fun t' H' ht e => h t' H' ((s.eff1 (u t') e).fact ht TF.stab)⟩
end
section
variable {P : Program} {w : World} {K : PySem.W.Frag} {mg : Str → Option Value} {base : Heap} {f : Addr} {fd : FuncData} {C_Count : Addr}
theorem ok_law (F : Fun K "law" "law" s_law f fd) (T : Txt K mg C_Count) (F_law_draws : FnF P w K mg base "_law_draws" 1 ["script"] (spDraws K)) (F_law_next : FnF P w K mg base "_law_next" 1 ["draws", "bound"] spNext) (F_law_pick : FnF P w K mg base "_law_pick" 2 ["draws", "things"] spPick) (F_law_same : FnF P w K mg base "_law_same" 2 ["x", "due"] (spSame 1)) (F_law_put : FnF P w K mg base "_law_put" 1 ["model", "number", "time", "arrival"] spMPut)
    (F_Count_init : MkF P w K mg base "Count" C_Count 1 ["self", "number"] (spInit C_Count)) (F_Count_put : MtF P w K mg base C_Count "put" 2 ["self", "number", "time", "arrival"] (spPut C_Count)) (F_Count_highest : MtF P w K mg base C_Count "highest" 1 ["self"] (spGet C_Count chigh)) (F_Count_due : MtF P w K mg base C_Count "due" 2 ["self"] (spGet C_Count cdue)) (F_Count_lost : MtF P w K mg base C_Count "lost" 3 ["self"] (spGet C_Count clost)) (F_Count_unevenness : MtF P w K mg base C_Count "unevenness" 1 ["self"] (spGet C_Count cunev)) (F_Count_share : MtF P w K mg base C_Count "share" 3 ["self"] (spShare C_Count)) : FnOk P w K mg base CX0 5 f fd ["script"] (spLaw K) := by
  refine F.ok sc_law (fun vs H Q E h => ?_) (fun cdv A outer s H vs Q E hr h => ?_)
  · obtain ⟨a, ns, rfl, _⟩ := h; rfl
  · obtain ⟨a, ns, rfl, hS, hl, k⟩ := h
    have na_base := T.na_Count_base
    have na_top := T.na_Count_top
    have na_rounds := T.na_Count_rounds
    have na_many := T.na_Count_many
    have na_odd := T.na_Count_odd
    have na_before := T.na_Count_before
    have na_way := T.na_Count_way
    have na_uneven := T.na_Count_uneven
    have cl_Count := T.cl_Count
    refine ⟨_, (pss_cons (ps_set (i := 1) sc_law.nd rfl (Or.inl rfl) (pe_callF F_law_draws (hr.mono (by first | decide | omega)) rfl (pa_cons (pv 0) pa_nil)))
  (pss_cons (ps_for PassesOwn.never rfl (pi_range1 rfl T.z_range (pa_cons pe_int pa_nil)) (pg_name (i := 2) sc_law.nd rfl (Or.inl rfl))
  (pss_cons (ps_set (i := 3) sc_law.nd rfl (Or.inl rfl) (pe_callF F_law_pick (hr.mono (by first | decide | omega)) rfl (pa_cons (pv 1) (pa_cons (pe_lst (pa_cons pe_int (pa_cons pe_int (pa_cons pe_int (pa_cons pe_int (pa_cons (pe_callF F_law_next (hr.mono (by first | decide | omega)) rfl (pa_cons (pv 1) (pa_cons pe_int pa_nil))) pa_nil)))))) pa_nil))))
  (pss_cons (ps_set (i := 4) sc_law.nd rfl (Or.inl rfl) (pe_makeF F_Count_init (hr.mono (by first | decide | omega)) rfl (pa_cons (pv 3) pa_nil)))
  (pss_cons (ps_set (i := 5) sc_law.nd rfl (Or.inl rfl) (pe_disp (pps_cons pe_str (pv 3) (pps_cons pe_str (pv 3) (pps_cons pe_str (pv 3) (pps_cons pe_str pe_int (pps_cons pe_str pe_non (pps_cons pe_str (pe_tup (pa_cons pe_int (pa_cons pe_int pa_nil))) (pps_cons pe_str pe_non (pps_cons pe_str pe_int (pps_cons pe_str pe_int pps_nil))))))))) (by rfl) (by rfl) (fun z => by cases z) (by decide)))
  (pss_cons (ps_par3 (i := 6) (j := 7) (l := 8) rfl sc_law.nd rfl rfl rfl (by decide) (by decide) (by decide) rfl rfl rfl (pa_cons (pv 3) (pa_cons (pe_callF F_law_next (hr.mono (by first | decide | omega)) rfl (pa_cons (pv 1) (pa_cons pe_int pa_nil))) (pa_cons pe_int pa_nil))) rfl)
  (pss_one (ps_for PassesOwn.never rfl (pi_range1 rfl T.z_range (pa_cons pe_int pa_nil)) (pg_name (i := 9) sc_law.nd rfl (Or.inl rfl))
  (pss_cons (ps_set (i := 6) sc_law.nd rfl (Or.inl rfl) (pe_op op_mod (pe_callTy cInt (by rfl) T.z_int (by decide +kernel) (pa_cons (pe_op op_add (pv 6) (pe_callF F_law_pick (hr.mono (by first | decide | omega)) rfl (pa_cons (pv 1) (pa_cons (pe_lst (pa_cons pe_int (pa_cons pe_int (pa_cons pe_int (pa_cons pe_int (pa_cons pe_int (pa_cons pe_int (pa_cons pe_int (pa_cons pe_int (pa_cons pe_int (pa_cons (pe_un un_neg pe_int) (pa_cons (pe_un un_neg pe_int) (pa_cons (pe_un un_neg pe_int) (pa_cons (pe_un un_neg pe_int) (pa_cons pe_int pa_nil))))))))))))))) pa_nil)))) pa_nil)) pe_int))
  (pss_cons (ps_set (i := 7) sc_law.nd rfl (Or.inl rfl) (pe_op op_mod (pe_callTy cInt (by rfl) T.z_int (by decide +kernel) (pa_cons (pe_op op_add (pv 7) (pe_callF F_law_pick (hr.mono (by first | decide | omega)) rfl (pa_cons (pv 1) (pa_cons (pe_lst (pa_cons pe_int (pa_cons pe_int (pa_cons pe_int (pa_cons pe_int pa_nil))))) pa_nil)))) pa_nil)) pe_int))
  (pss_cons (ps_set (i := 8) sc_law.nd rfl (Or.inl rfl) (pe_op op_mod (pe_callTy cInt (by rfl) T.z_int (by decide +kernel) (pa_cons (pe_op op_add (pe_op op_add (pv 8) pe_int) (pe_callF F_law_next (hr.mono (by first | decide | omega)) rfl (pa_cons (pv 1) (pa_cons pe_int pa_nil)))) pa_nil)) pe_int))
  (pss_cons (ps_if (pt_not (pt_val (pe_callF F_law_same (hr.mono (by first | decide | omega)) rfl (pa_cons (pe_methF T.cl_Count F_Count_put (hr.mono (by first | decide | omega)) (pv 4) (pa_cons (pv 6) (pa_cons (pv 7) (pa_cons (pv 8) pa_nil)))) (pa_cons (pe_callF F_law_put (hr.mono (by first | decide | omega)) rfl (pa_cons (pv 5) (pa_cons (pv 6) (pa_cons (pv 7) (pa_cons (pv 8) pa_nil))))) pa_nil)))))
  (pss_one (ps_ret pe_bl))
  pss_nil)
  (pss_cons (ps_set (i := 10) sc_law.nd rfl (Or.inl rfl) (pe_op op_add (pe_op op_sub (pe_dget (hu_of hr) (pv 5) pe_str (fun _ _ => rfl)) (pe_dget (hu_of hr) (pv 5) pe_str (fun _ _ => rfl))) pe_int))
  (pss_cons (ps_if (pt_not (pt_val (pe_callF F_law_same (hr.mono (by first | decide | omega)) rfl (pa_cons (pe_lst (pa_cons (pe_meth0F T.cl_Count F_Count_highest (hr.mono (by first | decide | omega)) (pv 4)) (pa_cons (pe_meth0F T.cl_Count F_Count_due (hr.mono (by first | decide | omega)) (pv 4)) (pa_cons (pe_meth0F T.cl_Count F_Count_lost (hr.mono (by first | decide | omega)) (pv 4)) (pa_cons (pe_meth0F T.cl_Count F_Count_unevenness (hr.mono (by first | decide | omega)) (pv 4)) pa_nil))))) (pa_cons (pe_lst (pa_cons (pe_dget (hu_of hr) (pv 5) pe_str (fun _ _ => rfl)) (pa_cons (pv 10) (pa_cons (pe_op op_sub (pv 10) (pe_dget (hu_of hr) (pv 5) pe_str (fun _ _ => rfl))) (pa_cons (pe_op op_fdiv (pe_dget (hu_of hr) (pv 5) pe_str (fun _ _ => rfl)) pe_int) pa_nil))))) pa_nil)))))
  (pss_one (ps_ret pe_bl))
  pss_nil)
  (pss_one (ps_if (pt_cmpR op_eq (pe_callF F_law_next (hr.mono (by first | decide | omega)) rfl (pa_cons (pv 1) (pa_cons pe_int pa_nil))) pe_int (nomark _))
  (pss_cons (ps_par (i := 11) (j := 12) rfl sc_law.nd rfl rfl (by decide) rfl rfl (pa_cons (pe_op op_sub (pv 10) (pe_ix (kIxT (K := K) rfl) (pe_dget (hu_of hr) (pv 5) pe_str (fun _ _ => rfl)) pe_int (fun _ _ => rfl))) (pa_cons (pe_op op_sub (pe_dget (hu_of hr) (pv 5) pe_str (fun _ _ => rfl)) (pe_ix (kIxT (K := K) rfl) (pe_dget (hu_of hr) (pv 5) pe_str (fun _ _ => rfl)) pe_int (fun _ _ => rfl))) pa_nil)) rfl)
  (pss_cons (ps_set (i := 13) sc_law.nd rfl (Or.inl rfl) (pe_ifExp (PW.pt (pw_or (pt_cmpR op_le (pv 11) pe_int (nomark _)) (pw_or1 (pt_cmpR op_ge (pv 12) (pv 11) (nomark _))))) pe_int (pe_op op_fdiv (pe_op op_mul (pe_op op_sub (pv 11) (pv 12)) pe_int) (pv 11))))
  (pss_cons (ps_if (pt_not (pt_val (pe_callF F_law_same (hr.mono (by first | decide | omega)) rfl (pa_cons (pe_meth0F T.cl_Count F_Count_share (hr.mono (by first | decide | omega)) (pv 4)) (pa_cons (pv 13) pa_nil)))))
  (pss_one (ps_ret pe_bl))
  pss_nil)
  (pss_one (ps_dput (hu_of hr) (pv 5) pe_str (pe_tup (pa_cons (pv 10) (pa_cons (pe_dget (hu_of hr) (pv 5) pe_str (fun _ _ => rfl)) pa_nil))) rfl)))))
  pss_nil)))))))))))))))
  (pss_one (ps_ret pe_bl)))), ?_⟩
    rw [show start ["script", "draws", "turn", "begin", "count", "model", "number", "time", "arrival", "step", "due", "more", "got", "share"] _ = [some (V.ref a), none, none, none, none, none, none, none, none, none, none, none, none, none] from rfl]
    apply Sh.start.go
    walk_at "stp"
    refine gl_draws hS (by simp) fun d l ms ok => ?_
    walk_at "stp"
    intro H1 h1
    refine qFor_R (fun i σ H2 => ∃ (n : Int) (x0 x1 x2 x3 x4 x5 x6 x7 x8 x9 x10 x11 : Option V), σ = [some (.ref a), some (.ref d), x0, x1, x2, x3, x4, x5, x6, x7, x8, x9, x10, x11] ∧ Sh H [] H2 [(d, .n, .dK (drD l n)), (l, .n, .lst (ms.map V.int))] [] ∧ 0 ≤ n) ?_ ?_ ?_
    · exact ⟨0, none, none, none, none, none, none, none, none, none, none, none, none, rfl, h1, Int.le_refl 0⟩
    · rintro i σ H2 _ ⟨n, x0, x1, x2, x3, x4, x5, x6, x7, x8, x9, x10, x11, rfl, h2, n0⟩
      apply h2.go
      walk_at "stp"
      refine gl_next (by walk_at "upd") (by walk_at "at") ok n0 (by decide) fun v v0 v1 => ?_
      walk_at "stp"
      refine gl_pick (by walk_at "upd") (by walk_at "ith") ok (by omega) (by walk_at "ith") (by rfl) (by simp) fun x hx => ?_
      obtain ⟨b, rfl, b0, b1⟩ : ∃ b, x = V.int b ∧ 0 ≤ b ∧ b < 65536 := by
        simp only [List.mem_cons, List.not_mem_nil, or_false] at hx
        rcases hx with rfl | rfl | rfl | rfl | rfl <;> exact ⟨_, rfl, by omega, by omega⟩
      walk_at "stp"
      rename_i pl cp cx
      refine gl_init (fun t => by walk_at "upd") fun tc => ?_
      walk_at "stp"
      rename_i mp ta
      refine gl_next (by walk_at "upd") (by walk_at "at") ok (by omega) (by decide) fun ti ti0 ti1 => ?_
      walk_at "stp"
      intro H3 h3
      refine qFor_R (fun j σ H4 => ∃ (n : Int) (c : Ct) (m : Md) (tc ta : Addr) (nb ti ar : Int) (y0 y1 y2 y3 y4 : Option V), σ = [some (.ref a), some (.ref d), some (.int (0 + ↑i)), some (.int b), some (.ref cp), some (.ref mp), some (.int nb), some (.int ti), some (.int ar), y0, y1, y2, y3, y4] ∧
        Sh H [] H4 [(d, .n, .dK (drD l n)), (l, .n, .lst (ms.map V.int)), (cp, .n, .ins C_Count cx (CtF c tc)), (mp, .n, .dK (MdF m ta))] [TF tc [.int c.b0, .int c.b1], TF ta [.int m.a0, .int m.a1]] ∧ 0 ≤ n ∧ Rl c m ∧ m.high - m.first ≤ 3000 * j ∧ 0 ≤ m.a0 ∧ m.first ≤ m.high) ?_ ?_ ?_
      · exact ⟨_, ⟨b, b, 0, 1, none, 0, 0, none, 0⟩, ⟨b, b, b, 1, none, 0, 0, none, 0, 0⟩, tc, ta, b, ti, 0, _, _, _, _, _, rfl, by walk_at "keep", by omega, ⟨rfl, by show 0 * 65536 + b = b; omega, rfl, rfl, rfl, rfl, rfl, rfl, rfl, rfl, b0, b1⟩, by show b - b ≤ _; omega, Int.le_refl 0, Int.le_refl b⟩
      · rintro j σ H4 hj ⟨n, c, m, tc, ta, nb, ti, ar, y0, y1, y2, y3, y4, rfl, h4, n0, rl, hb, ha0⟩
        have hj : j < 16 := hj
        apply h4.go
        walk_at "stp"
        refine gl_pick (by walk_at "upd") (by walk_at "ith") ok n0 (by walk_at "ith") (by rfl) (by simp) fun x hx => ?_
        obtain ⟨z, rfl⟩ : ∃ z, x = V.int z := by
          simp only [List.mem_cons, List.not_mem_nil, or_false] at hx
          rcases hx with rfl | rfl | rfl | rfl | rfl | rfl | rfl | rfl | rfl | rfl | rfl | rfl | rfl | rfl <;> exact ⟨_, rfl⟩
        walk_at "stp"
        refine gl_pick (by walk_at "upd") (by walk_at "ith") ok (by omega) (by walk_at "ith") (by rfl) (by simp) fun x hx => ?_
        obtain ⟨z2, rfl⟩ : ∃ z, x = V.int z := by
          simp only [List.mem_cons, List.not_mem_nil, or_false] at hx
          rcases hx with rfl | rfl | rfl | rfl <;> exact ⟨_, rfl⟩
        walk_at "stp"
        refine gl_next (by walk_at "upd") (by walk_at "at") ok (by omega) (by decide) fun v2 _ _ => ?_
        walk_at "stp"
        refine gl_put (fun c' t' => by walk_at "upd") (by walk_at "at") fun r c1 tc1 cput => ?_
        walk_at "ds"
        refine gl_mput (fun m' t' => by walk_at "upd") (by walk_at "at") fun r1 m1 ta1 mput => ?_
        obtain ⟨rfl, rl1, hb1, ha1⟩ := rl_put rl (Int.emod_nonneg _ (by decide)) (Int.emod_lt_of_pos _ (by decide)) cput mput
        have hb1 := hb1 _ (by omega) hb
        have ha1 := ha1 ha0
        have e1 : chigh c1 = m1.high := rl1.high
        have e2 : cdue c1 = m1.high - m1.first + 1 := by unfold cdue; rw [e1, rl1.base]
        have e3 : clost c1 = m1.high - m1.first + 1 - m1.many := by unfold clost; rw [e2, rl1.many]
        have e4 : cunev c1 = m1.sum / 16 := by unfold cunev; rw [rl1.un]
        walk_at "ds"
        refine gl_same (fun _ _ => Sm.bl) ?_
        walk_at "ds"
        refine gl_get (c := c1) (t := tc1) (by walk_at "at") ?_
        walk_at "ds"
        refine gl_get (c := c1) (t := tc1) (by walk_at "at") ?_
        walk_at "ds"
        refine gl_get (c := c1) (t := tc1) (by walk_at "at") ?_
        walk_at "ds"
        refine gl_get (c := c1) (t := tc1) (by walk_at "at") ?_
        walk_at "ds"
        rw [e1, e2, e3, e4]
        refine gl_same (fun H' s' => .inr (.inl ⟨_, _, _, _, rfl, rfl, s'.get (by walk_at "at0"), s'.get (by walk_at "at0"), by simp, .cons Sm.int (.cons Sm.int (.cons Sm.int (.cons Sm.int .nil)))⟩)) ?_
        walk_at "ds"
        refine gl_next (by walk_at "upd") (by walk_at "at") ok (by omega) (by decide) fun v3 _ _ => ?_
        walk_at "ds"
        refine g_ite (fun h5 => ?_) (fun h5 => ?_)
        · walk_at "ds"
          have sh : shareOf (cdue c1 - c1.b0) (c1.many - c1.b1) = shareOf (m1.high - m1.first + 1 - m1.a0) (m1.many - m1.a1) := by rw [e2, rl1.b0, rl1.many, rl1.b1]
          refine g_ite (fun h6 => ?_) (fun h6 => ?_)
          · have h7 : shareOf (m1.high - m1.first + 1 - m1.a0) (m1.many - m1.a1) = 0 := if_pos (.inl (of_decide_eq_true h6))
            walk_at "ds"
            refine gl_share (fun t' => by walk_at "upd") (by walk_at "at") (by rw [e2, rl1.b0]; omega) fun t2 => ?_
            walk_at "ds"
            rw [sh, h7]
            refine gl_same (fun _ _ => Sm.int) ?_
            walk_at "ds"
            intro H5 h5
            exact ⟨_, { c1 with b0 := cdue c1, b1 := c1.many }, { m1 with a0 := m1.high - m1.first + 1, a1 := m1.many }, t2, _, _, _, _, _, _, _, _, _, rfl, by walk_at "keep", by omega, ⟨rl1.base, rl1.high, rl1.top, rl1.many, rl1.odd, e2, rl1.many, rl1.way, rl1.un, rl1.last, rl1.t0, rl1.t1⟩, by show m1.high - m1.first ≤ _; omega, by show 0 ≤ m1.high - m1.first + 1; omega, ha1.2⟩
          · have h6 := of_decide_eq_false h6
            walk_at "ds"
            refine g_ite (fun h8 => ?_) (fun h8 => ?_)
            · have h7 : shareOf (m1.high - m1.first + 1 - m1.a0) (m1.many - m1.a1) = 0 := if_pos (.inr (of_decide_eq_true h8))
              walk_at "ds"
              refine gl_share (fun t' => by walk_at "upd") (by walk_at "at") (by rw [e2, rl1.b0]; omega) fun t2 => ?_
              walk_at "ds"
              rw [sh, h7]
              refine gl_same (fun _ _ => Sm.int) ?_
              walk_at "ds"
              intro H5 h5
              exact ⟨_, { c1 with b0 := cdue c1, b1 := c1.many }, { m1 with a0 := m1.high - m1.first + 1, a1 := m1.many }, t2, _, _, _, _, _, _, _, _, _, rfl, by walk_at "keep", by omega, ⟨rl1.base, rl1.high, rl1.top, rl1.many, rl1.odd, e2, rl1.many, rl1.way, rl1.un, rl1.last, rl1.t0, rl1.t1⟩, by show m1.high - m1.first ≤ _; omega, by show 0 ≤ m1.high - m1.first + 1; omega, ha1.2⟩
            · have h8 := of_decide_eq_false h8
              have h7 : shareOf (m1.high - m1.first + 1 - m1.a0) (m1.many - m1.a1) = (m1.high - m1.first + 1 - m1.a0 - (m1.many - m1.a1)) * 256 / (m1.high - m1.first + 1 - m1.a0) := if_neg (by omega)
              walk_at "ds"
              refine gl_share (fun t' => by walk_at "upd") (by walk_at "at") (by rw [e2, rl1.b0]; omega) fun t2 => ?_
              walk_at "ds"
              rw [sh, h7]
              refine gl_same (fun _ _ => Sm.int) ?_
              walk_at "ds"
              intro H5 h5
              exact ⟨_, { c1 with b0 := cdue c1, b1 := c1.many }, { m1 with a0 := m1.high - m1.first + 1, a1 := m1.many }, t2, _, _, _, _, _, _, _, _, _, rfl, by walk_at "keep", by omega, ⟨rl1.base, rl1.high, rl1.top, rl1.many, rl1.odd, e2, rl1.many, rl1.way, rl1.un, rl1.last, rl1.t0, rl1.t1⟩, by show m1.high - m1.first ≤ _; omega, by show 0 ≤ m1.high - m1.first + 1; omega, ha1.2⟩
        · walk_at "ds"
          intro H5 h5
          exact ⟨_, c1, m1, tc1, ta1, _, _, _, _, _, _, _, _, rfl, by walk_at "keep", by omega, rl1, by omega, ha1⟩
      · rintro σ H4 ⟨n, c, m, tc, ta, nb, ti, ar, y0, y1, y2, y3, y4, rfl, h4, n0, rl, hb, ha0⟩
        exact ⟨n, _, _, _, _, _, _, _, _, _, _, _, _, rfl, by walk_at "keep", n0⟩
    · rintro σ H2 ⟨n, x0, x1, x2, x3, x4, x5, x6, x7, x8, x9, x10, x11, rfl, h2, n0⟩
      apply h2.go
      walk_at "stp"
      exact fun _ _ => k _
end

end L3

namespace L3
open PySem L2
theorem all_mk {l : PySem.W.OpenLaw} {w : World} {K : PySem.W.Frag} {h : Heap} {mg : Str → Option Value} {fa : Addr} {C_Count : Addr}  (X : K.In h) (G : h.Ns mainGlobals mg) (hfa : mg "law" = some (.ref fa))
    {f_law_next : Addr} {od0 an0 : Option Addr} {sl0 : Array (Option Value)} {oc0 kV0 dc0 pm0 cd0 ct0 : Value}
    {f_law_pick : Addr} {od1 an1 : Option Addr} {sl1 : Array (Option Value)} {oc1 kV1 dc1 pm1 cd1 ct1 : Value}
    {f_law_draws : Addr} {od2 an2 : Option Addr} {sl2 : Array (Option Value)} {oc2 kV2 dc2 pm2 cd2 ct2 : Value}
    {f_law_same : Addr} {od3 an3 : Option Addr} {sl3 : Array (Option Value)} {oc3 kV3 dc3 pm3 cd3 ct3 : Value}
    {f_law_put : Addr} {od4 an4 : Option Addr} {sl4 : Array (Option Value)} {oc4 kV4 dc4 pm4 cd4 ct4 : Value}
    {f_Count_init : Addr} {od5 an5 : Option Addr} {sl5 : Array (Option Value)} {oc5 kV5 dc5 pm5 cd5 ct5 : Value}
    {f_Count_measure : Addr} {od6 an6 : Option Addr} {sl6 : Array (Option Value)} {oc6 kV6 dc6 pm6 cd6 ct6 : Value}
    {f_Count_put : Addr} {od7 an7 : Option Addr} {sl7 : Array (Option Value)} {oc7 kV7 dc7 pm7 cd7 ct7 : Value}
    {f_Count_highest : Addr} {od8 an8 : Option Addr} {sl8 : Array (Option Value)} {oc8 kV8 dc8 pm8 cd8 ct8 : Value}
    {f_Count_due : Addr} {od9 an9 : Option Addr} {sl9 : Array (Option Value)} {oc9 kV9 dc9 pm9 cd9 ct9 : Value}
    {f_Count_lost : Addr} {od10 an10 : Option Addr} {sl10 : Array (Option Value)} {oc10 kV10 dc10 pm10 cd10 ct10 : Value}
    {f_Count_unevenness : Addr} {od11 an11 : Option Addr} {sl11 : Array (Option Value)} {oc11 kV11 dc11 pm11 cd11 ct11 : Value}
    {f_Count_share : Addr} {od12 an12 : Option Addr} {sl12 : Array (Option Value)} {oc12 kV12 dc12 pm12 cd12 ct12 : Value}
    {f_law : Addr} {od13 an13 : Option Addr} {sl13 : Array (Option Value)} {oc13 kV13 dc13 pm13 cd13 ct13 : Value}
    {t_NUMBERS : Tok}
    {t_TIMES : Tok}
    {t_LOST : Tok}
    {t_LATE : Tok}
    (aC_Count : PySem.W.nsIn K mainGlobals "Count" = some (some (.ref C_Count)))
    (pg_Count : PySem.W.plainGet K C_Count Str.empty = true)
    (hd_Count : PySem.W.hasDictIn K C_Count = true)
    (po_Count : PySem.W.plainOver K C_Count = true)
    (sa_Count : PySem.W.findIn K (.ref C_Count) "__setattr__" = some (some (.builtin "object.__setattr__")))
    (mk_Count : PySem.W.makesIn K C_Count = true)
    (kc_Count : PySem.W.keepIn K (.ref C_Count) = true)
    (na_Count_base : PySem.W.findIn K (.ref C_Count) "base" = some none)
    (na_Count_top : PySem.W.findIn K (.ref C_Count) "top" = some none)
    (na_Count_rounds : PySem.W.findIn K (.ref C_Count) "rounds" = some none)
    (na_Count_many : PySem.W.findIn K (.ref C_Count) "many" = some none)
    (na_Count_odd : PySem.W.findIn K (.ref C_Count) "odd" = some none)
    (na_Count_before : PySem.W.findIn K (.ref C_Count) "before" = some none)
    (na_Count_way : PySem.W.findIn K (.ref C_Count) "way" = some none)
    (na_Count_uneven : PySem.W.findIn K (.ref C_Count) "uneven" = some none)
    (a_law_next : PySem.W.nsIn K mainGlobals "_law_next" = some (some (.ref f_law_next)))
    (l_law_next : K.lookup f_law_next = some ⟨oc0, od0, .func (PySem.W.fnOf "_law_next" "_law_next" (defArgs s_law_next) (defBody s_law_next) (defScope s_law_next) .none kV0 dc0 pm0 an0 cd0 ct0), sl0⟩)
    (c_law_next : PySem.W.codeIn K cd0 "_law_next" = true)
    (k_law_next : PySem.W.keepIn K (.ref f_law_next) = true)
    (a_law_pick : PySem.W.nsIn K mainGlobals "_law_pick" = some (some (.ref f_law_pick)))
    (l_law_pick : K.lookup f_law_pick = some ⟨oc1, od1, .func (PySem.W.fnOf "_law_pick" "_law_pick" (defArgs s_law_pick) (defBody s_law_pick) (defScope s_law_pick) .none kV1 dc1 pm1 an1 cd1 ct1), sl1⟩)
    (c_law_pick : PySem.W.codeIn K cd1 "_law_pick" = true)
    (k_law_pick : PySem.W.keepIn K (.ref f_law_pick) = true)
    (a_law_draws : PySem.W.nsIn K mainGlobals "_law_draws" = some (some (.ref f_law_draws)))
    (l_law_draws : K.lookup f_law_draws = some ⟨oc2, od2, .func (PySem.W.fnOf "_law_draws" "_law_draws" (defArgs s_law_draws) (defBody s_law_draws) (defScope s_law_draws) .none kV2 dc2 pm2 an2 cd2 ct2), sl2⟩)
    (c_law_draws : PySem.W.codeIn K cd2 "_law_draws" = true)
    (k_law_draws : PySem.W.keepIn K (.ref f_law_draws) = true)
    (a_law_same : PySem.W.nsIn K mainGlobals "_law_same" = some (some (.ref f_law_same)))
    (l_law_same : K.lookup f_law_same = some ⟨oc3, od3, .func (PySem.W.fnOf "_law_same" "_law_same" (defArgs s_law_same) (defBody s_law_same) (defScope s_law_same) .none kV3 dc3 pm3 an3 cd3 ct3), sl3⟩)
    (c_law_same : PySem.W.codeIn K cd3 "_law_same" = true)
    (k_law_same : PySem.W.keepIn K (.ref f_law_same) = true)
    (a_law_put : PySem.W.nsIn K mainGlobals "_law_put" = some (some (.ref f_law_put)))
    (l_law_put : K.lookup f_law_put = some ⟨oc4, od4, .func (PySem.W.fnOf "_law_put" "_law_put" (defArgs s_law_put) (defBody s_law_put) (defScope s_law_put) .none kV4 dc4 pm4 an4 cd4 ct4), sl4⟩)
    (c_law_put : PySem.W.codeIn K cd4 "_law_put" = true)
    (k_law_put : PySem.W.keepIn K (.ref f_law_put) = true)
    (a_Count_init : PySem.W.findIn K (.ref C_Count) "__init__" = some (some (.ref f_Count_init)))
    (i_Count_init : PySem.W.isFn K (.ref f_Count_init) = true)
    (l_Count_init : K.lookup f_Count_init = some ⟨oc5, od5, .func (PySem.W.fnOf "__init__" "Count.__init__" (defArgs s_Count_init) (defBody s_Count_init) (defScope s_Count_init) .none kV5 dc5 pm5 an5 cd5 ct5), sl5⟩)
    (c_Count_init : PySem.W.codeIn K cd5 "Count.__init__" = true)
    (k_Count_init : PySem.W.keepIn K (.ref f_Count_init) = true)
    (a_Count_measure : PySem.W.findIn K (.ref C_Count) "measure" = some (some (.ref f_Count_measure)))
    (i_Count_measure : PySem.W.isFn K (.ref f_Count_measure) = true)
    (l_Count_measure : K.lookup f_Count_measure = some ⟨oc6, od6, .func (PySem.W.fnOf "measure" "Count.measure" (defArgs s_Count_measure) (defBody s_Count_measure) (defScope s_Count_measure) .none kV6 dc6 pm6 an6 cd6 ct6), sl6⟩)
    (c_Count_measure : PySem.W.codeIn K cd6 "Count.measure" = true)
    (k_Count_measure : PySem.W.keepIn K (.ref f_Count_measure) = true)
    (a_Count_put : PySem.W.findIn K (.ref C_Count) "put" = some (some (.ref f_Count_put)))
    (i_Count_put : PySem.W.isFn K (.ref f_Count_put) = true)
    (l_Count_put : K.lookup f_Count_put = some ⟨oc7, od7, .func (PySem.W.fnOf "put" "Count.put" (defArgs s_Count_put) (defBody s_Count_put) (defScope s_Count_put) .none kV7 dc7 pm7 an7 cd7 ct7), sl7⟩)
    (c_Count_put : PySem.W.codeIn K cd7 "Count.put" = true)
    (k_Count_put : PySem.W.keepIn K (.ref f_Count_put) = true)
    (a_Count_highest : PySem.W.findIn K (.ref C_Count) "highest" = some (some (.ref f_Count_highest)))
    (i_Count_highest : PySem.W.isFn K (.ref f_Count_highest) = true)
    (l_Count_highest : K.lookup f_Count_highest = some ⟨oc8, od8, .func (PySem.W.fnOf "highest" "Count.highest" (defArgs s_Count_highest) (defBody s_Count_highest) (defScope s_Count_highest) .none kV8 dc8 pm8 an8 cd8 ct8), sl8⟩)
    (c_Count_highest : PySem.W.codeIn K cd8 "Count.highest" = true)
    (k_Count_highest : PySem.W.keepIn K (.ref f_Count_highest) = true)
    (a_Count_due : PySem.W.findIn K (.ref C_Count) "due" = some (some (.ref f_Count_due)))
    (i_Count_due : PySem.W.isFn K (.ref f_Count_due) = true)
    (l_Count_due : K.lookup f_Count_due = some ⟨oc9, od9, .func (PySem.W.fnOf "due" "Count.due" (defArgs s_Count_due) (defBody s_Count_due) (defScope s_Count_due) .none kV9 dc9 pm9 an9 cd9 ct9), sl9⟩)
    (c_Count_due : PySem.W.codeIn K cd9 "Count.due" = true)
    (k_Count_due : PySem.W.keepIn K (.ref f_Count_due) = true)
    (a_Count_lost : PySem.W.findIn K (.ref C_Count) "lost" = some (some (.ref f_Count_lost)))
    (i_Count_lost : PySem.W.isFn K (.ref f_Count_lost) = true)
    (l_Count_lost : K.lookup f_Count_lost = some ⟨oc10, od10, .func (PySem.W.fnOf "lost" "Count.lost" (defArgs s_Count_lost) (defBody s_Count_lost) (defScope s_Count_lost) .none kV10 dc10 pm10 an10 cd10 ct10), sl10⟩)
    (c_Count_lost : PySem.W.codeIn K cd10 "Count.lost" = true)
    (k_Count_lost : PySem.W.keepIn K (.ref f_Count_lost) = true)
    (a_Count_unevenness : PySem.W.findIn K (.ref C_Count) "unevenness" = some (some (.ref f_Count_unevenness)))
    (i_Count_unevenness : PySem.W.isFn K (.ref f_Count_unevenness) = true)
    (l_Count_unevenness : K.lookup f_Count_unevenness = some ⟨oc11, od11, .func (PySem.W.fnOf "unevenness" "Count.unevenness" (defArgs s_Count_unevenness) (defBody s_Count_unevenness) (defScope s_Count_unevenness) .none kV11 dc11 pm11 an11 cd11 ct11), sl11⟩)
    (c_Count_unevenness : PySem.W.codeIn K cd11 "Count.unevenness" = true)
    (k_Count_unevenness : PySem.W.keepIn K (.ref f_Count_unevenness) = true)
    (a_Count_share : PySem.W.findIn K (.ref C_Count) "share" = some (some (.ref f_Count_share)))
    (i_Count_share : PySem.W.isFn K (.ref f_Count_share) = true)
    (l_Count_share : K.lookup f_Count_share = some ⟨oc12, od12, .func (PySem.W.fnOf "share" "Count.share" (defArgs s_Count_share) (defBody s_Count_share) (defScope s_Count_share) .none kV12 dc12 pm12 an12 cd12 ct12), sl12⟩)
    (c_Count_share : PySem.W.codeIn K cd12 "Count.share" = true)
    (k_Count_share : PySem.W.keepIn K (.ref f_Count_share) = true)
    (a_law : PySem.W.nsIn K mainGlobals "law" = some (some (.ref f_law)))
    (l_law : K.lookup f_law = some ⟨oc13, od13, .func (PySem.W.fnOf "law" "law" (defArgs s_law) (defBody s_law) (defScope s_law) .none kV13 dc13 pm13 an13 cd13 ct13), sl13⟩)
    (c_law : PySem.W.codeIn K cd13 "law" = true)
    (k_law : PySem.W.keepIn K (.ref f_law) = true)
    (z_abs : PySem.W.nsIn K mainGlobals "abs" = some none)
    (z_all : PySem.W.nsIn K mainGlobals "all" = some none)
    (z_bool : PySem.W.nsIn K mainGlobals "bool" = some none)
    (z_dict : PySem.W.nsIn K mainGlobals "dict" = some none)
    (z_int : PySem.W.nsIn K mainGlobals "int" = some none)
    (z_isinstance : PySem.W.nsIn K mainGlobals "isinstance" = some none)
    (z_len : PySem.W.nsIn K mainGlobals "len" = some none)
    (z_list : PySem.W.nsIn K mainGlobals "list" = some none)
    (z_min : PySem.W.nsIn K mainGlobals "min" = some none)
    (z_range : PySem.W.nsIn K mainGlobals "range" = some none)
    (z_str : PySem.W.nsIn K mainGlobals "str" = some none)
    (z_tuple : PySem.W.nsIn K mainGlobals "tuple" = some none)
    (g_NUMBERS : PySem.W.nsIn K mainGlobals "NUMBERS" = some (some (.int 65536 t_NUMBERS)))
    (g_TIMES : PySem.W.nsIn K mainGlobals "TIMES" = some (some (.int 4294967296 t_TIMES)))
    (g_LOST : PySem.W.nsIn K mainGlobals "LOST" = some (some (.int 3000 t_LOST)))
    (g_LATE : PySem.W.nsIn K mainGlobals "LATE" = some (some (.int 100 t_LATE)))
    : ∃ fd : FuncData, (∀ (s : Shared) (v : Value), BindsTo s fd ⟨[v], []⟩ [("script", v)]) ∧ ∀ base : Heap, K.In base → base.Ns mainGlobals mg → FnOk l.prog w K mg base CX0 5 fa fd ["script"] (spLaw K) := by
  have e := hfa.symm.trans (PySem.W.mg_of X G a_law)
  cases e
  have T : Txt K mg C_Count := {
    z_abs := PySem.W.mg_none_of X G z_abs,
    z_all := PySem.W.mg_none_of X G z_all,
    z_bool := PySem.W.mg_none_of X G z_bool,
    z_dict := PySem.W.mg_none_of X G z_dict,
    z_int := PySem.W.mg_none_of X G z_int,
    z_isinstance := PySem.W.mg_none_of X G z_isinstance,
    z_len := PySem.W.mg_none_of X G z_len,
    z_list := PySem.W.mg_none_of X G z_list,
    z_min := PySem.W.mg_none_of X G z_min,
    z_range := PySem.W.mg_none_of X G z_range,
    z_str := PySem.W.mg_none_of X G z_str,
    z_tuple := PySem.W.mg_none_of X G z_tuple,
    c_NUMBERS := ⟨_, PySem.W.mg_of X G g_NUMBERS⟩,
    c_TIMES := ⟨_, PySem.W.mg_of X G g_TIMES⟩,
    c_LOST := ⟨_, PySem.W.mg_of X G g_LOST⟩,
    c_LATE := ⟨_, PySem.W.mg_of X G g_LATE⟩,
    cl_Count := ⟨pg_Count, hd_Count, po_Count, sa_Count⟩,
    na_Count_base := na_Count_base,
    na_Count_top := na_Count_top,
    na_Count_rounds := na_Count_rounds,
    na_Count_many := na_Count_many,
    na_Count_odd := na_Count_odd,
    na_Count_before := na_Count_before,
    na_Count_way := na_Count_way,
    na_Count_uneven := na_Count_uneven }
  have D_law_next := fun_mk (st := s_law_next) l_law_next c_law_next k_law_next
  have B_law_next := D_law_next.binds (ps := ["draws", "bound"]) fun _ _ _ _ _ _ us hl => match us, hl with | [_, _], _ => rfl
  have D_law_pick := fun_mk (st := s_law_pick) l_law_pick c_law_pick k_law_pick
  have B_law_pick := D_law_pick.binds (ps := ["draws", "things"]) fun _ _ _ _ _ _ us hl => match us, hl with | [_, _], _ => rfl
  have D_law_draws := fun_mk (st := s_law_draws) l_law_draws c_law_draws k_law_draws
  have B_law_draws := D_law_draws.binds (ps := ["script"]) fun _ _ _ _ _ _ us hl => match us, hl with | [_], _ => rfl
  have D_law_same := fun_mk (st := s_law_same) l_law_same c_law_same k_law_same
  have B_law_same := D_law_same.binds (ps := ["x", "due"]) fun _ _ _ _ _ _ us hl => match us, hl with | [_, _], _ => rfl
  have D_law_put := fun_mk (st := s_law_put) l_law_put c_law_put k_law_put
  have B_law_put := D_law_put.binds (ps := ["model", "number", "time", "arrival"]) fun _ _ _ _ _ _ us hl => match us, hl with | [_, _, _, _], _ => rfl
  have D_Count_init := fun_mk (st := s_Count_init) l_Count_init c_Count_init k_Count_init
  have B_Count_init := D_Count_init.binds (ps := ["self", "number"]) fun _ _ _ _ _ _ us hl => match us, hl with | [_, _], _ => rfl
  have D_Count_measure := fun_mk (st := s_Count_measure) l_Count_measure c_Count_measure k_Count_measure
  have B_Count_measure := D_Count_measure.binds (ps := ["self", "time", "arrival"]) fun _ _ _ _ _ _ us hl => match us, hl with | [_, _, _], _ => rfl
  have D_Count_put := fun_mk (st := s_Count_put) l_Count_put c_Count_put k_Count_put
  have B_Count_put := D_Count_put.binds (ps := ["self", "number", "time", "arrival"]) fun _ _ _ _ _ _ us hl => match us, hl with | [_, _, _, _], _ => rfl
  have D_Count_highest := fun_mk (st := s_Count_highest) l_Count_highest c_Count_highest k_Count_highest
  have B_Count_highest := D_Count_highest.binds (ps := ["self"]) fun _ _ _ _ _ _ us hl => match us, hl with | [_], _ => rfl
  have D_Count_due := fun_mk (st := s_Count_due) l_Count_due c_Count_due k_Count_due
  have B_Count_due := D_Count_due.binds (ps := ["self"]) fun _ _ _ _ _ _ us hl => match us, hl with | [_], _ => rfl
  have D_Count_lost := fun_mk (st := s_Count_lost) l_Count_lost c_Count_lost k_Count_lost
  have B_Count_lost := D_Count_lost.binds (ps := ["self"]) fun _ _ _ _ _ _ us hl => match us, hl with | [_], _ => rfl
  have D_Count_unevenness := fun_mk (st := s_Count_unevenness) l_Count_unevenness c_Count_unevenness k_Count_unevenness
  have B_Count_unevenness := D_Count_unevenness.binds (ps := ["self"]) fun _ _ _ _ _ _ us hl => match us, hl with | [_], _ => rfl
  have D_Count_share := fun_mk (st := s_Count_share) l_Count_share c_Count_share k_Count_share
  have B_Count_share := D_Count_share.binds (ps := ["self"]) fun _ _ _ _ _ _ us hl => match us, hl with | [_], _ => rfl
  have D_law := fun_mk (st := s_law) l_law c_law k_law
  refine ⟨PySem.W.fnOf "law" "law" (defArgs s_law) (defBody s_law) (defScope s_law) .none kV13 dc13 pm13 an13 cd13 ct13, fun s v => .of_eq rfl, fun base _ _ => ?_⟩
  have F_next : FnF l.prog w K mg base "_law_next" 1 ["draws", "bound"] (spNext) := ⟨_, _, ok_next D_law_next T, PySem.W.mg_of X G a_law_next, k_law_next, B_law_next⟩
  have F_pick : FnF l.prog w K mg base "_law_pick" 2 ["draws", "things"] (spPick) := ⟨_, _, ok_pick D_law_pick T F_next, PySem.W.mg_of X G a_law_pick, k_law_pick, B_law_pick⟩
  have F_draws : FnF l.prog w K mg base "_law_draws" 1 ["script"] (spDraws K) := ⟨_, _, ok_draws D_law_draws T, PySem.W.mg_of X G a_law_draws, k_law_draws, B_law_draws⟩
  have F_same0 : FnF l.prog w K mg base "_law_same" 1 ["x", "due"] (spSame 0) := ⟨_, _, ok_same0 D_law_same T, PySem.W.mg_of X G a_law_same, k_law_same, B_law_same⟩
  have F_same : FnF l.prog w K mg base "_law_same" 2 ["x", "due"] (spSame 1) := ⟨_, _, ok_sameS D_law_same T F_same0, PySem.W.mg_of X G a_law_same, k_law_same, B_law_same⟩
  have F_mput : FnF l.prog w K mg base "_law_put" 1 ["model", "number", "time", "arrival"] (spMPut) := ⟨_, _, ok_mput D_law_put T, PySem.W.mg_of X G a_law_put, k_law_put, B_law_put⟩
  have F_init : MkF l.prog w K mg base "Count" C_Count 1 ["self", "number"] (spInit C_Count) := ⟨_, _, ok_init D_Count_init T, ⟨mk_Count, a_Count_init, i_Count_init, kc_Count⟩, PySem.W.mg_of X G aC_Count, B_Count_init⟩
  have F_meas : MtF l.prog w K mg base C_Count "measure" 1 ["self", "time", "arrival"] (spMeas C_Count) := ⟨_, _, ok_meas D_Count_measure T, ⟨a_Count_measure, i_Count_measure, k_Count_measure⟩, B_Count_measure⟩
  have F_put : MtF l.prog w K mg base C_Count "put" 2 ["self", "number", "time", "arrival"] (spPut C_Count) := ⟨_, _, ok_put D_Count_put T F_meas, ⟨a_Count_put, i_Count_put, k_Count_put⟩, B_Count_put⟩
  have F_high : MtF l.prog w K mg base C_Count "highest" 1 ["self"] (spGet C_Count chigh) := ⟨_, _, ok_high D_Count_highest T, ⟨a_Count_highest, i_Count_highest, k_Count_highest⟩, B_Count_highest⟩
  have F_due : MtF l.prog w K mg base C_Count "due" 2 ["self"] (spGet C_Count cdue) := ⟨_, _, ok_due D_Count_due T F_high, ⟨a_Count_due, i_Count_due, k_Count_due⟩, B_Count_due⟩
  have F_lost : MtF l.prog w K mg base C_Count "lost" 3 ["self"] (spGet C_Count clost) := ⟨_, _, ok_lost D_Count_lost T F_due, ⟨a_Count_lost, i_Count_lost, k_Count_lost⟩, B_Count_lost⟩
  have F_unev : MtF l.prog w K mg base C_Count "unevenness" 1 ["self"] (spGet C_Count cunev) := ⟨_, _, ok_unev D_Count_unevenness T, ⟨a_Count_unevenness, i_Count_unevenness, k_Count_unevenness⟩, B_Count_unevenness⟩
  have F_share : MtF l.prog w K mg base C_Count "share" 3 ["self"] (spShare C_Count) := ⟨_, _, ok_share D_Count_share T F_due, ⟨a_Count_share, i_Count_share, k_Count_share⟩, B_Count_share⟩
  exact ok_law D_law T F_draws F_next F_pick F_same F_mput F_init F_put F_high F_due F_lost F_unev F_share
theorem walk {l : PySem.W.OpenLaw} {q : Program} {loose : List Str} {XP : (Str → Option Value) → Heap → Prop} {YP : World → Heap → Prop} {d : DefRec} {K : Params → PySem.W.Frag} (hn : l.most = some 63) (hdf : d.params.defaults = [])
    (hY : ∀ (w : World) (h : Heap), YP w h → (K w.params).In h)
    (F : ∀ (w : World) (mg : Str → Option Value) (fa : Addr) (h : Heap), (K w.params).In h → h.Ns mainGlobals mg → mg d.name = some (.ref fa) →
      ∃ fd : FuncData, (∀ (s : Shared) (u : Value), BindsTo s fd ⟨[u], []⟩ [("script", u)]) ∧ ∀ base : Heap, (K w.params).In base → base.Ns mainGlobals mg → FnOk l.prog w (K w.params) mg base CX0 5 fa fd ["script"] (spLaw (K w.params))) :
    PySem.W.WalkO q loose XP YP l.row.toRowW d [] (fun f vs => PySem.call f vs) :=
  L2.walk_of (n := 63) (k := 5) (x := "script") (CX := fun _ => CX0) (sp := fun w => spLaw (K w.params)) hn (by decide) hdf ⟨rfl, by decide, by decide⟩ hY F (fun _ _ a ns hl _ hS => ⟨a, ns, rfl, hS, hl, fun _ => rfl⟩) fun _ _ _ _ _ z => z
end L3

open PySem PySem.W PyProof.Rows in
set_option maxRecDepth 100000 in
set_option maxHeartbeats 0 in
theorem PySem.Challenge.cw_callwright_k35_whole_counts_of_packets_holds : PySem.Challenge.rw_callwright_k35_whole_counts_of_packets.Holds := by
  w_on; o_law; k_head; (case hw => w_witness2)
  k_fill
  refine L3.walk (l := PySem.Challenge.rw_callwright_k35_whole_counts_of_packets) rfl rfl (fun w h Y => PySem.W.kIn_of Y) ?F
  case F =>
    intro w mg fa h KX G hmg
    refine' L3.all_mk KX G hmg ?aC_Count ?pg_Count ?hd_Count ?po_Count ?sa_Count ?mk_Count ?kc_Count ?na_Count_base ?na_Count_top ?na_Count_rounds ?na_Count_many ?na_Count_odd ?na_Count_before ?na_Count_way ?na_Count_uneven ?a_law_next ?l_law_next ?c_law_next ?k_law_next ?a_law_pick ?l_law_pick ?c_law_pick ?k_law_pick ?a_law_draws ?l_law_draws ?c_law_draws ?k_law_draws ?a_law_same ?l_law_same ?c_law_same ?k_law_same ?a_law_put ?l_law_put ?c_law_put ?k_law_put ?a_Count_init ?i_Count_init ?l_Count_init ?c_Count_init ?k_Count_init ?a_Count_measure ?i_Count_measure ?l_Count_measure ?c_Count_measure ?k_Count_measure ?a_Count_put ?i_Count_put ?l_Count_put ?c_Count_put ?k_Count_put ?a_Count_highest ?i_Count_highest ?l_Count_highest ?c_Count_highest ?k_Count_highest ?a_Count_due ?i_Count_due ?l_Count_due ?c_Count_due ?k_Count_due ?a_Count_lost ?i_Count_lost ?l_Count_lost ?c_Count_lost ?k_Count_lost ?a_Count_unevenness ?i_Count_unevenness ?l_Count_unevenness ?c_Count_unevenness ?k_Count_unevenness ?a_Count_share ?i_Count_share ?l_Count_share ?c_Count_share ?k_Count_share ?a_law ?l_law ?c_law ?k_law ?z_abs ?z_all ?z_bool ?z_dict ?z_int ?z_isinstance ?z_len ?z_list ?z_min ?z_range ?z_str ?z_tuple ?g_NUMBERS ?g_TIMES ?g_LOST ?g_LATE
    (case aC_Count => k_is)
    (case pg_Count => k_is)
    (case hd_Count => k_is)
    (case po_Count => k_is)
    (case sa_Count => k_is)
    (case mk_Count => k_is)
    (case kc_Count => k_is)
    (case na_Count_base => k_is)
    (case na_Count_top => k_is)
    (case na_Count_rounds => k_is)
    (case na_Count_many => k_is)
    (case na_Count_odd => k_is)
    (case na_Count_before => k_is)
    (case na_Count_way => k_is)
    (case na_Count_uneven => k_is)
    (case a_law_next => k_is)
    (case l_law_next => k_is)
    (case c_law_next => k_is)
    (case k_law_next => k_is)
    (case a_law_pick => k_is)
    (case l_law_pick => k_is)
    (case c_law_pick => k_is)
    (case k_law_pick => k_is)
    (case a_law_draws => k_is)
    (case l_law_draws => k_is)
    (case c_law_draws => k_is)
    (case k_law_draws => k_is)
    (case a_law_same => k_is)
    (case l_law_same => k_is)
    (case c_law_same => k_is)
    (case k_law_same => k_is)
    (case a_law_put => k_is)
    (case l_law_put => k_is)
    (case c_law_put => k_is)
    (case k_law_put => k_is)
    (case a_Count_init => k_is)
    (case i_Count_init => k_is)
    (case l_Count_init => k_is)
    (case c_Count_init => k_is)
    (case k_Count_init => k_is)
    (case a_Count_measure => k_is)
    (case i_Count_measure => k_is)
    (case l_Count_measure => k_is)
    (case c_Count_measure => k_is)
    (case k_Count_measure => k_is)
    (case a_Count_put => k_is)
    (case i_Count_put => k_is)
    (case l_Count_put => k_is)
    (case c_Count_put => k_is)
    (case k_Count_put => k_is)
    (case a_Count_highest => k_is)
    (case i_Count_highest => k_is)
    (case l_Count_highest => k_is)
    (case c_Count_highest => k_is)
    (case k_Count_highest => k_is)
    (case a_Count_due => k_is)
    (case i_Count_due => k_is)
    (case l_Count_due => k_is)
    (case c_Count_due => k_is)
    (case k_Count_due => k_is)
    (case a_Count_lost => k_is)
    (case i_Count_lost => k_is)
    (case l_Count_lost => k_is)
    (case c_Count_lost => k_is)
    (case k_Count_lost => k_is)
    (case a_Count_unevenness => k_is)
    (case i_Count_unevenness => k_is)
    (case l_Count_unevenness => k_is)
    (case c_Count_unevenness => k_is)
    (case k_Count_unevenness => k_is)
    (case a_Count_share => k_is)
    (case i_Count_share => k_is)
    (case l_Count_share => k_is)
    (case c_Count_share => k_is)
    (case k_Count_share => k_is)
    (case a_law => k_is)
    (case l_law => k_is)
    (case c_law => k_is)
    (case k_law => k_is)
    (case z_abs => k_is)
    (case z_all => k_is)
    (case z_bool => k_is)
    (case z_dict => k_is)
    (case z_int => k_is)
    (case z_isinstance => k_is)
    (case z_len => k_is)
    (case z_list => k_is)
    (case z_min => k_is)
    (case z_range => k_is)
    (case z_str => k_is)
    (case z_tuple => k_is)
    (case g_NUMBERS => k_is)
    (case g_TIMES => k_is)
    (case g_LOST => k_is)
    (case g_LATE => k_is)

