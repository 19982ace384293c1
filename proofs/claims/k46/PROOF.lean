import PyProof.Rows.All
import Wide.All
import OpenK.AllK
import Wide.FinOn
import HandS.ForMost
import HandS.Exc
import HandS.TryOnly
import HandS.ExcOwn
import HandS.WordsExc
import HandS.Flow
import HandS.Wide
import HandS.SortInts
import HandS.IsInst
import HandS.Deep
import HandS.NoneIn
import HandS.Ends
import HandS.TupLe
import HandS.SortRule
import HandS.More
import HandS.WideBits
import HandS.RevTup
import HandS.Rev
import HandS.Conv
import HandS.Style
import HandS.SetKeys
import HandS.Small
import PySem.Challenge.RW_chainturn_k46_figures_numbers
set_option Elab.async false
set_option linter.all false
set_option maxRecDepth 100000
set_option maxHeartbeats 4000000
namespace Px
open PySem L2

/-! ### data by value -/
inductive At where
  | non | bl (b : Bool) | int (i : Int) | str (x : Str)
  deriving DecidableEq
inductive NT where
  | tup | ktup | lst | dK (ks : List Key) | dT (ks : List (List Key))
  deriving DecidableEq
inductive D where
  | at (a : At) | nd (t : NT) (xs : List D)
instance : Inhabited D := ⟨.at .non⟩
abbrev D.non : D := .at .non
abbrev D.bl (b : Bool) : D := .at (.bl b)
abbrev D.int (i : Int) : D := .at (.int i)
abbrev D.str (x : Str) : D := .at (.str x)
abbrev D.tup (xs : List D) : D := .nd .tup xs
abbrev D.lst (xs : List D) : D := .nd .lst xs
def atV : At → V
  | .non => .non | .bl b => .bl b | .int i => .int i | .str x => .str x

abbrev noH : Hp := fun _ => none
/-- a node that is read -/
def NodeR (K : W.Frag) (G : Hp) (t : NT) (p : Addr) (vs : List V) : Prop := match t with
  | .tup => G p = some (.tup vs)
  | .ktup => SqT K noH p vs
  | .lst => Rd G p (.lst vs)
  | .dK ks => ∃ kvs, Rd G p (.dK kvs) ∧ kvs.map (·.1) = ks ∧ kvs.map (·.2) = vs
  | .dT ks => ∃ kvs, Rd G p (.dT kvs) ∧ kvs.map (·.1) = ks ∧ kvs.map (·.2) = vs
/-- a node that may be written -/
def NodeO (H : Hp) (t : NT) (p : Addr) (vs : List V) : Prop := match t with
  | .tup => False
  | .ktup => False
  | .lst => H p = some (.lst vs)
  | .dK ks => ∃ kvs, H p = some (.dK kvs) ∧ kvs.map (·.1) = ks ∧ kvs.map (·.2) = vs
  | .dT ks => ∃ kvs, H p = some (.dT kvs) ∧ kvs.map (·.1) = ks ∧ kvs.map (·.2) = vs

theorem rd_at {H H' : Hp} {a : Addr} {u : HO} (e : H' a = H a) (h : Rd H a u) : Rd H' a u := by
  rcases h with h | ⟨o, h⟩
  · exact .inl (e.trans h)
  · exact .inr ⟨o, e.trans h⟩
theorem rd_same {H H' : Hp} {a : Addr} {u : HO} (e : Same H H') (h : Rd H a u) : Rd H' a u := by
  rcases h with h | ⟨o, h⟩
  · exact .inl (e _ _ h)
  · exact .inr ⟨o, e _ _ h⟩
theorem sqT_same {K : W.Frag} {H H' : Hp} {a : Addr} {xs : List V} (e : Same H H') (h : SqT K H a xs) : SqT K H' a xs := by
  rcases h with h | h
  · exact .inl (rd_same e h)
  · exact .inr h
theorem NodeR.same {K : W.Frag} {G G' : Hp} {t : NT} {p : Addr} {vs : List V} (e : Same G G') (h : NodeR K G t p vs) : NodeR K G' t p vs := by
  cases t with
  | tup => exact e _ _ h
  | ktup => exact h
  | lst => exact rd_same e h
  | dK ks => obtain ⟨kvs, h, r⟩ := h; exact ⟨kvs, rd_same e h, r⟩
  | dT ks => obtain ⟨kvs, h, r⟩ := h; exact ⟨kvs, rd_same e h, r⟩
theorem NodeO.at {H H' : Hp} {t : NT} {p : Addr} {vs : List V} (e : H' p = H p) (h : NodeO H t p vs) : NodeO H' t p vs := by
  cases t with
  | tup => exact h
  | ktup => exact h
  | lst => exact e.trans h
  | dK ks => obtain ⟨kvs, h, r⟩ := h; exact ⟨kvs, e.trans h, r⟩
  | dT ks => obtain ⟨kvs, h, r⟩ := h; exact ⟨kvs, e.trans h, r⟩
theorem NodeO.read {K : W.Frag} {H : Hp} {t : NT} {p : Addr} {vs : List V} (h : NodeO H t p vs) : NodeR K H t p vs := by
  cases t with
  | tup => exact h.elim
  | ktup => exact h.elim
  | lst => exact .inl h
  | dK ks => obtain ⟨kvs, h, r⟩ := h; exact ⟨kvs, .inl h, r⟩
  | dT ks => obtain ⟨kvs, h, r⟩ := h; exact ⟨kvs, .inl h, r⟩
theorem NodeO.thr {H : Hp} {t : NT} {p : Addr} {vs : List V} (h : NodeO H t p vs) : ∃ o, H p = some o ∧ (∀ xs, o ≠ .tup xs) ∧ ∀ ob u, o ≠ .frz ob u := by
  cases t with
  | tup => exact h.elim
  | ktup => exact h.elim
  | lst => exact ⟨_, h, (fun _ z => by cases z), (fun _ _ z => by cases z)⟩
  | dK ks => obtain ⟨kvs, h, r⟩ := h; exact ⟨_, h, (fun _ z => by cases z), (fun _ _ z => by cases z)⟩
  | dT ks => obtain ⟨kvs, h, r⟩ := h; exact ⟨_, h, (fun _ z => by cases z), (fun _ _ z => by cases z)⟩

theorem NodeR.sq {K : W.Frag} {G : Hp} {p : Addr} {vs : List V} (h : NodeR K G .lst p vs) : SqL K G p vs := .inl h
/-! ### a value stands for data: R the addresses of what may be written in it -/
mutual
inductive Rep (K : W.Frag) (G H : Hp) : List Addr → V → D → Prop
  | at (a : At) : Rep K G H [] (atV a) (.at a)
  | tup {p : Addr} {vs : List V} {R : List Addr} {ds : List D} : H p = some (.tup vs) → Reps K G H R vs ds → Rep K G H R (.ref p) (.nd .tup ds)
  | frz {t : NT} {p : Addr} {vs : List V} {ds : List D} : NodeR K G t p vs → Reps K G H [] vs ds → Rep K G H [] (.ref p) (.nd t ds)
  | own {t : NT} {p : Addr} {vs : List V} {R : List Addr} {ds : List D} : NodeO H t p vs → Reps K G H R vs ds → Rep K G H (p :: R) (.ref p) (.nd t ds)
inductive Reps (K : W.Frag) (G H : Hp) : List Addr → List V → List D → Prop
  | nil : Reps K G H [] [] []
  | cons {R R' : List Addr} {v : V} {vs : List V} {d : D} {ds : List D} : Rep K G H R v d → Reps K G H R' vs ds → Reps K G H (R ++ R') (v :: vs) (d :: ds)
end

section
variable {K : W.Frag} {G G' H H' : Hp}
mutual
theorem Rep.monoG (e : Same G G') : ∀ (d : D) {R : List Addr} {v : V}, Rep K G H R v d → Rep K G' H R v d
  | .at a, _, _, h => by cases h; exact .at a
  | .nd t ds, _, _, h => by
    cases h with
    | tup h1 h2 => exact .tup h1 (Reps.monoG e ds h2)
    | frz h1 h2 => exact .frz (h1.same e) (Reps.monoG e ds h2)
    | own h1 h2 => exact .own h1 (Reps.monoG e ds h2)
theorem Reps.monoG (e : Same G G') : ∀ (ds : List D) {R : List Addr} {vs : List V}, Reps K G H R vs ds → Reps K G' H R vs ds
  | [], _, _, h => by cases h; exact .nil
  | d :: ds, _, _, h => by
    cases h with
    | cons h1 h2 => exact .cons (Rep.monoG e d h1) (Reps.monoG e ds h2)
end
/-! the heap has changed, not at what this stands on -/
mutual
theorem Rep.stay (ht : ∀ a xs, H a = some (.tup xs) → H' a = some (.tup xs)) : ∀ (d : D) {R : List Addr} {v : V}, (∀ a ∈ R, H' a = H a) → Rep K G H R v d → Rep K G H' R v d
  | .at a, _, _, _, h => by cases h; exact .at a
  | .nd t ds, _, _, ho, h => by
    cases h with
    | tup h1 h2 => exact .tup (ht _ _ h1) (Reps.stay ht ds ho h2)
    | frz h1 h2 => exact .frz h1 (Reps.stay ht ds (fun _ z => by cases z) h2)
    | own h1 h2 => exact .own (h1.at (ho _ List.mem_cons_self)) (Reps.stay ht ds (fun a z => ho a (List.mem_cons_of_mem _ z)) h2)
theorem Reps.stay (ht : ∀ a xs, H a = some (.tup xs) → H' a = some (.tup xs)) : ∀ (ds : List D) {R : List Addr} {vs : List V}, (∀ a ∈ R, H' a = H a) → Reps K G H R vs ds → Reps K G H' R vs ds
  | [], _, _, _, h => by cases h; exact .nil
  | d :: ds, _, _, ho, h => by
    cases h with
    | cons h1 h2 => exact .cons (Rep.stay ht d (fun a z => ho a (List.mem_append_left _ z)) h1) (Reps.stay ht ds (fun a z => ho a (List.mem_append_right _ z)) h2)
end
/-! what is own is there -/
mutual
theorem Rep.there : ∀ (d : D) {R : List Addr} {v : V}, Rep K G H R v d → ∀ a ∈ R, ∃ o, H a = some o ∧ (∀ xs, o ≠ .tup xs) ∧ ∀ ob u, o ≠ .frz ob u
  | .at a, _, _, h => by cases h; exact fun _ z => by cases z
  | .nd t ds, _, _, h => by
    cases h with
    | tup h1 h2 => exact Reps.there ds h2
    | frz h1 h2 => exact fun _ z => by cases z
    | own h1 h2 => exact fun a z => (List.mem_cons.mp z).elim (fun e => e ▸ h1.thr) fun z => Reps.there ds h2 a z
theorem Reps.there : ∀ (ds : List D) {R : List Addr} {vs : List V}, Reps K G H R vs ds → ∀ a ∈ R, ∃ o, H a = some o ∧ (∀ xs, o ≠ .tup xs) ∧ ∀ ob u, o ≠ .frz ob u
  | [], _, _, h => by cases h; exact fun _ z => by cases z
  | d :: ds, _, _, h => by
    cases h with
    | cons h1 h2 => exact fun a z => (List.mem_append.mp z).elim (fun z => Rep.there d h1 a z) fun z => Reps.there ds h2 a z
end
theorem Rep.same (e : Same H H') {d : D} {R : List Addr} {v : V} (h : Rep K G H R v d) : Rep K G H' R v d :=
  h.stay (fun _ _ r => e _ _ r) d fun a z => by
    obtain ⟨o, ho, _⟩ := h.there d a z
    rw [e a o ho, ho]
theorem Reps.same (e : Same H H') {ds : List D} {R : List Addr} {vs : List V} (h : Reps K G H R vs ds) : Reps K G H' R vs ds :=
  h.stay (fun _ _ r => e _ _ r) ds fun a z => by
    obtain ⟨o, ho, _⟩ := h.there ds a z
    rw [e a o ho, ho]
/-! frozen: what was own is now read from G' -/
mutual
theorem Rep.freeze (e : Same G G') : ∀ (d : D) {R : List Addr} {v : V}, (∀ a ∈ R, G' a = H a) → Rep K G H R v d → Rep K G' H [] v d
  | .at a, _, _, _, h => by cases h; exact .at a
  | .nd t ds, _, _, ho, h => by
    cases h with
    | tup h1 h2 => exact .tup h1 (Reps.freeze e ds ho h2)
    | frz h1 h2 => exact .frz (h1.same e) (Reps.freeze e ds (fun _ z => by cases z) h2)
    | own h1 h2 => exact .frz ((h1.at (ho _ List.mem_cons_self)).read) (Reps.freeze e ds (fun a z => ho a (List.mem_cons_of_mem _ z)) h2)
theorem Reps.freeze (e : Same G G') : ∀ (ds : List D) {R : List Addr} {vs : List V}, (∀ a ∈ R, G' a = H a) → Reps K G H R vs ds → Reps K G' H [] vs ds
  | [], _, _, _, h => by cases h; exact .nil
  | d :: ds, _, _, ho, h => by
    cases h with
    | cons h1 h2 =>
      have q := Reps.cons (Rep.freeze e d (fun a z => ho a (List.mem_append_left _ z)) h1) (Reps.freeze e ds (fun a z => ho a (List.mem_append_right _ z)) h2)
      exact q
end
/-- only looked at -/
abbrev View (K : W.Frag) (H : Hp) (v : V) (d : D) : Prop := Rep K H H [] v d
abbrev Views (K : W.Frag) (H : Hp) (vs : List V) (ds : List D) : Prop := Reps K H H [] vs ds
theorem Rep.view {d : D} {R : List Addr} {v : V} (e : Same G H) (h : Rep K G H R v d) : View K H v d := h.freeze e d fun _ _ => rfl
theorem Reps.view {ds : List D} {R : List Addr} {vs : List V} (e : Same G H) (h : Reps K G H R vs ds) : Views K H vs ds := h.freeze e ds fun _ _ => rfl
theorem same_no : Same noH G := fun _ _ z => by cases z
theorem Reps.length : ∀ (ds : List D) {R : List Addr} {vs : List V}, Reps K G H R vs ds → vs.length = ds.length
  | [], _, _, h => by cases h; rfl
  | d :: ds, _, _, h => by
    cases h with
    | cons h1 h2 => rw [List.length_cons, List.length_cons, Reps.length ds h2]
end
end Px
namespace Px
open PySem L2

/-! ### values with their ownership, the state -/
inductive Ow where
  | no | top | deep
  deriving DecidableEq
structure Val where
  ow : Ow
  fz : Bool
  d : D
abbrev Gam := List (Option Val)
structure Base where
  G0 : Hp
  H0 : Hp
  rin : List Addr
  io : List (Nat × V)
def gx (G : Hp) (b : Bool) : Hp := if b then G else noH
theorem gx_mono {G G' : Hp} {b : Bool} (e : Same G G') : Same (gx G b) (gx G' b) := by
  cases b
  · exact Same.refl _
  · exact e
theorem gx_same {G H : Hp} {b : Bool} (e : Same G H) : Same (gx G b) H := by
  cases b
  · exact same_no
  · exact e
theorem gx_le {G : Hp} {b : Bool} : Same (gx G b) G := gx_same (Same.refl _)
def ValOk (K : W.Frag) (G H : Hp) (R : List Addr) (v : V) (x : Val) : Prop :=
  Rep K (gx G x.fz) H R v x.d ∧ (x.ow = .no → R = []) ∧ (x.ow = .top → ∃ p t ds, v = .ref p ∧ R = [p] ∧ x.d = .nd t ds ∧ t ≠ .tup) ∧ (x.ow = .deep → ∀ t ds, x.d = .nd t ds → t ≠ .tup → ∃ p R', v = .ref p ∧ R = p :: R')

structure Sat (K : W.Frag) (B : Base) (Γ : Gam) (Θ : List (V × Val)) (σ : St) (G H : Hp) (ρ : Nat → List Addr) : Prop where
  sub : Same G H
  ext : Same B.G0 G
  fresh : ∀ a o, G a = some o → B.G0 a = some o ∨ B.H0 a = none ∨ a ∈ B.rin
  frame : ∀ a o, B.H0 a = some o → a ∉ B.rin → H a = some o
  len : Γ.length = σ.length
  slot : ∀ i x, Γ[i]? = some (some x) → ∃ v, σ[i]? = some (some v) ∧ ValOk K G H (ρ i) v x
  temp : ∀ j v x, Θ[j]? = some (v, x) → ValOk K G H (ρ (Γ.length + j)) v x
  nod : ∀ i, (ρ i).Nodup
  dis : ∀ i j a, a ∈ ρ i → a ∈ ρ j → i = j
  own : ∀ i a, a ∈ ρ i → G a = none ∧ (B.H0 a = none ∨ a ∈ B.rin)
  emp : ∀ i, (Γ[i]? = some none ∨ Γ.length + Θ.length ≤ i) → ρ i = []
  io : ∀ p ∈ B.io, σ[p.1]? = some (some p.2)
def SatE (K : W.Frag) (B : Base) (Γ : Gam) (Θ : List (V × Val)) (σ : St) (H : Hp) : Prop := ∃ G ρ, Sat K B Γ Θ σ G H ρ

section
variable {K : W.Frag} {B : Base} {Γ : Gam} {Θ : List (V × Val)} {σ : St} {G G' H H' : Hp} {ρ : Nat → List Addr} {R : List Addr} {v : V} {x : Val}
theorem ValOk.same (e : Same H H') (h : ValOk K G H R v x) : ValOk K G H' R v x := ⟨h.1.same e, h.2⟩
theorem ValOk.monoG (e : Same G G') (h : ValOk K G H R v x) : ValOk K G' H R v x := ⟨h.1.monoG (gx_mono e) _, h.2⟩
theorem ValOk.stay (ht : ∀ a xs, H a = some (.tup xs) → H' a = some (.tup xs)) (ho : ∀ a ∈ R, H' a = H a) (h : ValOk K G H R v x) : ValOk K G H' R v x := ⟨h.1.stay ht _ ho, h.2⟩
theorem ValOk.view (e : Same G H) (h : ValOk K G H R v x) : View K H v x.d := h.1.view (gx_same e)
theorem ValOk.root {t : NT} {ds : List D} (h : ValOk K G H R v x) (ho : x.ow ≠ .no) (hd : x.d = .nd t ds) (hn : t ≠ .tup) : ∃ p vs R', v = .ref p ∧ R = p :: R' ∧ NodeO H t p vs ∧ Reps K (gx G x.fz) H R' vs ds ∧ (x.ow = .top → R' = []) := by
  obtain ⟨h1, h2, h3, h4⟩ := h
  have ne : ∃ p R', v = .ref p ∧ R = p :: R' := by
    cases e : x.ow with
    | no => exact absurd e ho
    | top =>
      obtain ⟨p, t', ds', e1, e2, _⟩ := h3 e
      exact ⟨p, [], e1, e2⟩
    | deep => exact h4 e t ds hd hn
  obtain ⟨p, R', ev, eR⟩ := ne
  rw [hd] at h1
  cases h1 with
  | tup q1 q2 => exact absurd rfl hn
  | frz q1 q2 => cases eR
  | @own t q vs R2 ds q1 q2 =>
    cases ev
    refine ⟨p, vs, R2, rfl, rfl, q1, q2, fun z => ?_⟩
    obtain ⟨p', t', ds', e1, e2, _⟩ := h3 z
    exact (List.cons.inj e2).2
theorem Sat.live (S : Sat K B Γ Θ σ G H ρ) {i : Nat} {a : Addr} (h : a ∈ ρ i) : ∃ o, H a = some o ∧ (∀ xs, o ≠ .tup xs) ∧ ∀ ob u, o ≠ .frz ob u := by
  by_cases hi : i < Γ.length
  · cases e : Γ[i] with
    | none =>
      rw [S.emp i (.inl (by rw [List.getElem?_eq_getElem hi, e]))] at h
      cases h
    | some x =>
      obtain ⟨v, _, q⟩ := S.slot i x (by rw [List.getElem?_eq_getElem hi, e])
      exact q.1.there _ a h
  · by_cases hj : i < Γ.length + Θ.length
    · have hj' : i - Γ.length < Θ.length := by omega
      have q := S.temp (i - Γ.length) Θ[i - Γ.length].1 Θ[i - Γ.length].2 (by rw [List.getElem?_eq_getElem hj'])
      rw [show Γ.length + (i - Γ.length) = i by omega] at q
      exact q.1.there _ a h
    · rw [S.emp i (.inr (by omega))] at h
      cases h
theorem Sat.same (S : Sat K B Γ Θ σ G H ρ) (e : Same H H') : Sat K B Γ Θ σ G H' ρ :=
  ⟨S.sub.trans e, S.ext, S.fresh, fun a o h1 h2 => e _ _ (S.frame a o h1 h2), S.len, fun i x h => let ⟨v, h1, h2⟩ := S.slot i x h; ⟨v, h1, h2.same e⟩, fun j v x h => (S.temp j v x h).same e, S.nod, S.dis, S.own, S.emp, S.io⟩
theorem Sat.newOwn (S : Sat K B Γ Θ σ G H ρ) {a : Addr} (h : H a = none) : (∀ i, a ∉ ρ i) ∧ G a = none ∧ (B.H0 a = none ∨ a ∈ B.rin) := by
  refine ⟨fun i z => ?_, ?_, ?_⟩
  · obtain ⟨o, e, _⟩ := S.live z
    rw [h] at e; cases e
  · cases e : G a with
    | none => rfl
    | some o => rw [S.sub a o e] at h; cases h
  · cases e : B.H0 a with
    | none => exact .inl rfl
    | some o =>
      by_cases hr : a ∈ B.rin
      · exact .inr hr
      · rw [S.frame a o e hr] at h; cases h
def upr (ρ : Nat → List Addr) (i : Nat) (R : List Addr) : Nat → List Addr := fun j => if j = i then R else ρ j
theorem upr_same {i : Nat} : upr ρ i R i = R := by unfold upr; rw [if_pos rfl]
theorem upr_ne {i j : Nat} (h : j ≠ i) : upr ρ i R j = ρ j := by unfold upr; rw [if_neg h]
/-- a new temporary whose own places are apart -/
theorem Sat.push (S : Sat K B Γ Θ σ G H ρ) (h : ValOk K G H R v x) (hn : R.Nodup) (ha : ∀ a ∈ R, (∀ i, a ∉ ρ i) ∧ G a = none ∧ (B.H0 a = none ∨ a ∈ B.rin)) :
    Sat K B Γ (Θ ++ [(v, x)]) σ G H (upr ρ (Γ.length + Θ.length) R) := by
  refine ⟨S.sub, S.ext, S.fresh, S.frame, S.len, fun i y e => ?_, fun j w y e => ?_, fun i => ?_, fun i j a h1 h2 => ?_, fun i a h1 => ?_, fun i hi => ?_, S.io⟩
  · obtain ⟨w, h1, h2⟩ := S.slot i y e
    have hi : i < Γ.length := (List.getElem?_eq_some_iff.mp e).1
    exact ⟨w, h1, by rw [upr_ne (by omega)]; exact h2⟩
  · by_cases hj : j < Θ.length
    · rw [List.getElem?_append_left hj] at e
      rw [upr_ne (by omega)]
      exact S.temp j w y e
    · have hj2 : j < (Θ ++ [(v, x)]).length := (List.getElem?_eq_some_iff.mp e).1
      rw [List.length_append, List.length_singleton] at hj2
      have ej : j = Θ.length := by omega
      subst ej
      rw [List.getElem?_append_right (Nat.le_refl _), Nat.sub_self] at e
      cases e
      rw [upr_same]
      exact h
  · unfold upr
    split
    · exact hn
    · exact S.nod i
  · unfold upr at h1 h2
    split at h1 <;> split at h2
    · omega
    · exact absurd h2 ((ha a h1).1 j)
    · exact absurd h1 ((ha a h2).1 i)
    · exact S.dis i j a h1 h2
  · unfold upr at h1
    split at h1
    · exact (ha a h1).2
    · exact S.own i a h1
  · unfold upr
    split
    · rename_i e
      rcases hi with hi | hi
      · have := (List.getElem?_eq_some_iff.mp hi).1
        omega
      · rw [List.length_append, List.length_singleton] at hi
        omega
    · refine S.emp i (hi.imp (fun z => z) fun z => ?_)
      rw [List.length_append, List.length_singleton] at z
      omega
theorem Sat.pushNew (S : Sat K B Γ Θ σ G H ρ) (e : Same H H') (h : ValOk K G H' R v x) (hn : R.Nodup) (ha : ∀ a ∈ R, H a = none) : SatE K B Γ (Θ ++ [(v, x)]) σ H' :=
  ⟨G, _, (S.same e).push h hn fun a z => S.newOwn (ha a z)⟩
/-- one that owns nothing -/
theorem Sat.push0 (S : Sat K B Γ Θ σ G H ρ) (h : ValOk K G H [] v x) : Sat K B Γ (Θ ++ [(v, x)]) σ G H (upr ρ (Γ.length + Θ.length) []) :=
  S.push h List.nodup_nil fun _ z => by cases z
/-- the temporaries from a place on forgotten -/
theorem Sat.drop {Ts : List (V × Val)} (S : Sat K B Γ (Θ ++ Ts) σ G H ρ) : Sat K B Γ Θ σ G H (fun i => if i < Γ.length + Θ.length then ρ i else []) := by
  refine ⟨S.sub, S.ext, S.fresh, S.frame, S.len, fun i y e => ?_, fun j w y e => ?_, fun i => ?_, fun i j a h1 h2 => ?_, fun i a h1 => ?_, fun i hi => ?_, S.io⟩
  · obtain ⟨w, h1, h2⟩ := S.slot i y e
    have hi : i < Γ.length := (List.getElem?_eq_some_iff.mp e).1
    exact ⟨w, h1, by rw [if_pos (by omega)]; exact h2⟩
  · have hj : j < Θ.length := (List.getElem?_eq_some_iff.mp e).1
    rw [if_pos (by omega)]
    exact S.temp j w y (by rw [List.getElem?_append_left hj]; exact e)
  · split
    · exact S.nod i
    · exact List.nodup_nil
  · split at h1 <;> split at h2
    · exact S.dis i j a h1 h2
    · cases h2
    · cases h1
    · cases h1
  · split at h1
    · exact S.own i a h1
    · cases h1
  · split
    · rename_i hl
      rcases hi with hi | hi
      · exact S.emp i (.inl hi)
      · omega
    · rfl
theorem SatE.drop {Ts : List (V × Val)} (S : SatE K B Γ (Θ ++ Ts) σ H) : SatE K B Γ Θ σ H := let ⟨G, _, S⟩ := S; ⟨G, _, S.drop⟩
theorem SatE.drop0 {Ts : List (V × Val)} (S : SatE K B Γ Ts σ H) : SatE K B Γ [] σ H := SatE.drop (Θ := []) S
theorem set_some {α : Type} {l : List (Option α)} {i j : Nat} {y : α} (h : (l.set i none)[j]? = some (some y)) : l[j]? = some (some y) ∧ j ≠ i := by
  by_cases e : j = i
  · subst e
    by_cases hj : j < l.length
    · rw [List.getElem?_set_self hj] at h; cases h
    · rw [List.getElem?_eq_none (by simpa using hj)] at h; cases h
  · rw [List.getElem?_set_ne (Ne.symm e)] at h
    exact ⟨h, e⟩
/-- a slot forgotten -/
theorem Sat.kill (S : Sat K B Γ Θ σ G H ρ) (i : Nat) (hi : i < Γ.length) : Sat K B (Γ.set i none) Θ σ G H (upr ρ i []) := by
  refine ⟨S.sub, S.ext, S.fresh, S.frame, by rw [List.length_set]; exact S.len, fun j y e => ?_, fun j w y e => ?_, fun j => ?_, fun k j a h1 h2 => ?_, fun j a h1 => ?_, fun j hj => ?_, S.io⟩
  · obtain ⟨e, ne⟩ := set_some e
    rw [upr_ne ne]
    exact S.slot j y e
  · rw [List.length_set, upr_ne (by omega)]
    exact S.temp j w y e
  · unfold upr; split
    · exact List.nodup_nil
    · exact S.nod j
  · unfold upr at h1 h2
    split at h1 <;> split at h2
    · cases h1
    · cases h1
    · cases h2
    · exact S.dis k j a h1 h2
  · unfold upr at h1
    split at h1
    · cases h1
    · exact S.own j a h1
  · unfold upr
    split
    · rfl
    · rename_i ne
      refine S.emp j (hj.imp (fun z => ?_) fun z => by rw [List.length_set] at z; exact z)
      rw [List.getElem?_set_ne (Ne.symm ne)] at z
      exact z
theorem SatE.kill (S : SatE K B Γ Θ σ H) (i : Nat) : SatE K B (Γ.set i none) Θ σ H := by
  obtain ⟨G, ρ, S⟩ := S
  by_cases hi : i < Γ.length
  · exact ⟨G, _, S.kill i hi⟩
  · rw [List.set_eq_of_length_le (by omega)]
    exact ⟨G, ρ, S⟩
/-- a slot moved out -/
theorem Sat.mv {i : Nat} (S : Sat K B Γ Θ σ G H ρ) (hx : Γ[i]? = some (some x)) (hv : σ[i]? = some (some v)) : Sat K B (Γ.set i none) (Θ ++ [(v, x)]) σ G H (upr (upr ρ i []) (Γ.length + Θ.length) (ρ i)) := by
  have hi : i < Γ.length := (List.getElem?_eq_some_iff.mp hx).1
  obtain ⟨w, h1, h2⟩ := S.slot i x hx
  rw [hv] at h1; cases h1
  have q := (S.kill i hi).push (v := v) (x := x) (R := ρ i) h2 (S.nod i) fun a z => ⟨fun j hj => ?_, S.own i a z⟩
  · rw [List.length_set] at q
    exact q
  · unfold upr at hj
    split at hj
    · cases hj
    · rename_i ne
      exact ne (S.dis j i a hj z)
/-- the last temporary stored -/
theorem Sat.store {i : Nat} (S : Sat K B Γ (Θ ++ [(v, x)]) σ G H ρ) (hi : i < Γ.length) (hio : ∀ p ∈ B.io, p.1 ≠ i) :
    Sat K B (Γ.set i (some x)) Θ (σ.set i (some v)) G H (upr (upr ρ (Γ.length + Θ.length) []) i (ρ (Γ.length + Θ.length))) := by
  have hs : i < σ.length := by rw [← S.len]; exact hi
  have q := S.temp Θ.length v x (by rw [List.getElem?_append_right (Nat.le_refl _), Nat.sub_self] <;> rfl)
  refine ⟨S.sub, S.ext, S.fresh, S.frame, by rw [List.length_set, List.length_set]; exact S.len, fun j y e => ?_, fun j w y e => ?_, fun j => ?_, fun k j a h1 h2 => ?_, fun j a h1 => ?_, fun j hj => ?_, fun p hp => ?_⟩
  · by_cases ej : j = i
    · subst ej
      rw [List.getElem?_set_self hi] at e
      cases e
      exact ⟨v, List.getElem?_set_self hs, by rw [upr_same]; exact q⟩
    · rw [List.getElem?_set_ne (Ne.symm ej)] at e
      have hj : j < Γ.length := (List.getElem?_eq_some_iff.mp e).1
      rw [List.getElem?_set_ne (Ne.symm ej), upr_ne ej, upr_ne (by omega)]
      exact S.slot j y e
  · have hj : j < Θ.length := (List.getElem?_eq_some_iff.mp e).1
    rw [List.length_set, upr_ne (by omega), upr_ne (by omega)]
    exact S.temp j w y (by rw [List.getElem?_append_left hj]; exact e)
  · unfold upr; split
    · exact S.nod _
    · split
      · exact List.nodup_nil
      · exact S.nod j
  · unfold upr at h1 h2
    have N : ∀ {m : Nat}, a ∈ (if m = Γ.length + Θ.length then ([] : List Addr) else ρ m) → a ∈ ρ m ∧ m ≠ Γ.length + Θ.length := fun {m} z => by
      split at z
      · cases z
      · rename_i ne; exact ⟨z, ne⟩
    split at h1 <;> split at h2
    · omega
    · obtain ⟨z, ne⟩ := N h2
      exact absurd (S.dis _ _ a z h1) ne
    · obtain ⟨z, ne⟩ := N h1
      exact absurd (S.dis _ _ a z h2) ne
    · exact S.dis k j a (N h1).1 (N h2).1
  · unfold upr at h1
    split at h1
    · exact S.own _ a h1
    · split at h1
      · cases h1
      · exact S.own j a h1
  · unfold upr
    split
    · rename_i e
      subst e
      rcases hj with hj | hj
      · rw [List.getElem?_set_self hi] at hj; cases hj
      · rw [List.length_set] at hj; omega
    · rename_i ne
      split
      · rfl
      · refine S.emp j (hj.imp (fun z => ?_) fun z => ?_)
        · rw [List.getElem?_set_ne (Ne.symm ne)] at z; exact z
        · rw [List.length_set] at z
          rw [List.length_append, List.length_singleton]
          omega
  · rw [List.getElem?_set_ne (Ne.symm (hio p hp))]
    exact S.io p hp
theorem SatE.store {i : Nat} (S : SatE K B Γ (Θ ++ [(v, x)]) σ H) (hi : i < Γ.length) (hio : ∀ p ∈ B.io, p.1 ≠ i) : SatE K B (Γ.set i (some x)) Θ (σ.set i (some v)) H := let ⟨G, _, S⟩ := S; ⟨G, _, S.store hi hio⟩
/-- G with the places R of H -/
def addH (G H : Hp) (R : List Addr) : Hp := fun a => if a ∈ R then H a else G a
theorem addH_in {a : Addr} (h : a ∈ R) : addH G H R a = H a := by unfold addH; rw [if_pos h]
theorem addH_out {a : Addr} (h : a ∉ R) : addH G H R a = G a := by unfold addH; rw [if_neg h]
theorem addH_ext (h : ∀ a ∈ R, G a = none) : Same G (addH G H R) := fun a o e => by
  rw [addH_out (fun z => by rw [h a z] at e; cases e)]
  exact e
/-- the slot's own places become read-only for good -/
theorem Sat.freeze {i : Nat} (S : Sat K B Γ Θ σ G H ρ) (hx : Γ[i]? = some (some x)) : Sat K B (Γ.set i (some ⟨.no, true, x.d⟩)) Θ σ (addH G H (ρ i)) H (upr ρ i []) := by
  have hi : i < Γ.length := (List.getElem?_eq_some_iff.mp hx).1
  have ext : Same G (addH G H (ρ i)) := addH_ext fun a z => (S.own i a z).1
  refine ⟨fun a o e => ?_, S.ext.trans ext, fun a o e => ?_, S.frame, by rw [List.length_set]; exact S.len, fun j y e => ?_, fun j w y e => ?_, fun j => ?_, fun k j a h1 h2 => ?_, fun j a h1 => ?_, fun j hj => ?_, S.io⟩
  · by_cases ha : a ∈ ρ i
    · rw [addH_in ha] at e; exact e
    · rw [addH_out ha] at e; exact S.sub a o e
  · by_cases ha : a ∈ ρ i
    · exact .inr (S.own i a ha).2
    · rw [addH_out ha] at e; exact S.fresh a o e
  · by_cases ej : j = i
    · subst ej
      rw [List.getElem?_set_self hi] at e
      cases e
      obtain ⟨w, h1, h2⟩ := S.slot j x hx
      refine ⟨w, h1, ?_⟩
      rw [upr_same]
      refine ⟨?_, fun _ => rfl, (fun z => by cases z), (fun z => by cases z)⟩
      exact h2.1.freeze (gx_le.trans ext) x.d fun a z => addH_in z
    · rw [List.getElem?_set_ne (Ne.symm ej)] at e
      rw [upr_ne ej]
      obtain ⟨w, h1, h2⟩ := S.slot j y e
      exact ⟨w, h1, h2.monoG ext⟩
  · rw [List.length_set, upr_ne (by omega)]
    exact (S.temp j w y e).monoG ext
  · unfold upr; split
    · exact List.nodup_nil
    · exact S.nod j
  · unfold upr at h1 h2
    split at h1 <;> split at h2
    · cases h1
    · cases h1
    · cases h2
    · exact S.dis k j a h1 h2
  · unfold upr at h1
    split at h1
    · cases h1
    · rename_i ne
      refine ⟨?_, (S.own j a h1).2⟩
      rw [addH_out (fun z => ne (S.dis j i a h1 z))]
      exact (S.own j a h1).1
  · unfold upr
    split
    · rfl
    · rename_i ne
      refine S.emp j (hj.imp (fun z => ?_) fun z => by rw [List.length_set] at z; exact z)
      rw [List.getElem?_set_ne (Ne.symm ne)] at z
      exact z
theorem SatE.freeze {i : Nat} (S : SatE K B Γ Θ σ H) (hx : Γ[i]? = some (some x)) : SatE K B (Γ.set i (some ⟨.no, true, x.d⟩)) Θ σ H := let ⟨_, _, S⟩ := S; ⟨_, _, S.freeze hx⟩
end
end Px
namespace Px
open PySem L2

/-! ### temporaries packed into a node -/
def catR (ρ : Nat → List Addr) : Nat → Nat → List Addr
  | _, 0 => []
  | s, k + 1 => ρ s ++ catR ρ (s + 1) k
theorem mem_catR {ρ : Nat → List Addr} {a : Addr} : ∀ {k s : Nat}, a ∈ catR ρ s k → ∃ j, s ≤ j ∧ j < s + k ∧ a ∈ ρ j
  | 0, _, h => by cases h
  | k + 1, s, h => by
    rcases List.mem_append.mp h with h | h
    · exact ⟨s, Nat.le_refl _, by omega, h⟩
    · obtain ⟨j, h1, h2, h3⟩ := mem_catR h
      exact ⟨j, by omega, by omega, h3⟩
theorem nodup_catR {ρ : Nat → List Addr} (hn : ∀ i, (ρ i).Nodup) (hd : ∀ i j a, a ∈ ρ i → a ∈ ρ j → i = j) : ∀ (k s : Nat), (catR ρ s k).Nodup
  | 0, _ => List.nodup_nil
  | k + 1, s => by
    refine List.nodup_append.mpr ⟨hn s, nodup_catR hn hd k (s + 1), fun a h1 b h2 e => ?_⟩
    subst e
    obtain ⟨j, h3, _, h4⟩ := mem_catR h2
    have := hd _ _ a h1 h4
    omega
theorem catR_nil {ρ : Nat → List Addr} : ∀ {k s : Nat}, (∀ j, s ≤ j → j < s + k → ρ j = []) → catR ρ s k = []
  | 0, _, _ => rfl
  | k + 1, s, h => by
    show ρ s ++ catR ρ (s + 1) k = []
    rw [h s (Nat.le_refl _) (by omega), catR_nil fun j h1 h2 => h j (by omega) (by omega)]
    rfl
def anyOw (xs : List Val) : Bool := xs.any fun x => decide (x.ow ≠ .no)
def anyFz (xs : List Val) : Bool := xs.any fun x => x.fz
def mkL (xs : List Val) : Val := ⟨if anyOw xs then .deep else .top, anyFz xs, .nd .lst (xs.map (·.d))⟩
def mkT (xs : List Val) : Val := ⟨if anyOw xs then .deep else .no, anyFz xs, .nd .tup (xs.map (·.d))⟩

section
variable {K : W.Frag} {B : Base} {Γ : Gam} {Θ Ts : List (V × Val)} {σ : St} {G G' H H' : Hp} {ρ : Nat → List Addr} {R : List Addr} {v : V} {x : Val}
theorem gx_imp {G : Hp} {b c : Bool} (h : b = true → c = true) : Same (gx G b) (gx G c) := by
  cases b
  · exact same_no
  · rw [h rfl]; exact Same.refl _
/-- the values of some items together -/
theorem reps_of {fz : Bool} : ∀ (Ts : List (V × Val)) (s : Nat), (∀ j v x, Ts[j]? = some (v, x) → ValOk K G H (ρ (s + j)) v x) → (∀ x ∈ Ts, x.2.fz = true → fz = true) →
    Reps K (gx G fz) H (catR ρ s Ts.length) (Ts.map (·.1)) (Ts.map (·.2.d))
  | [], _, _, _ => .nil
  | (v, x) :: Ts, s, h, hf => by
    refine .cons (((h 0 v x rfl).1).monoG (gx_imp (hf _ List.mem_cons_self)) _) (reps_of Ts (s + 1) (fun j w y e => ?_) fun y hy => hf y (List.mem_cons_of_mem _ hy))
    have q := h (j + 1) w y (by simpa using e)
    rw [show s + 1 + j = s + (j + 1) by omega]
    exact q
theorem anyFz_mem {xs : List Val} {x : Val} (h : x ∈ xs) (e : x.fz = true) : anyFz xs = true := List.any_eq_true.mpr ⟨x, h, e⟩
theorem anyOw_no {xs : List Val} {x : Val} (e : anyOw xs = false) (h : x ∈ xs) : x.ow = .no := by
  have q := List.any_eq_false.mp e x h
  simpa using q
theorem Sat.tail (S : Sat K B Γ (Θ ++ Ts) σ G H ρ) : ∀ j v x, Ts[j]? = some (v, x) → ValOk K G H (ρ (Γ.length + Θ.length + j)) v x := fun j v x e => by
  rw [show Γ.length + Θ.length + j = Γ.length + (Θ.length + j) by omega]
  exact S.temp (Θ.length + j) v x (by rw [List.getElem?_append_right (by omega), show Θ.length + j - Θ.length = j by omega]; exact e)
theorem Sat.reps (S : Sat K B Γ (Θ ++ Ts) σ G H ρ) : Reps K (gx G (anyFz (Ts.map (·.2)))) H (catR ρ (Γ.length + Θ.length) Ts.length) (Ts.map (·.1)) (Ts.map (·.2.d)) :=
  reps_of Ts _ S.tail fun x hx e => anyFz_mem (List.mem_map_of_mem hx) e
theorem Sat.catNo (S : Sat K B Γ (Θ ++ Ts) σ G H ρ) (e : anyOw (Ts.map (·.2)) = false) : catR ρ (Γ.length + Θ.length) Ts.length = [] := catR_nil fun j h1 h2 => by
  have hj : j - (Γ.length + Θ.length) < Ts.length := by omega
  have q := S.tail (j - (Γ.length + Θ.length)) Ts[j - (Γ.length + Θ.length)].1 Ts[j - (Γ.length + Θ.length)].2 (by rw [List.getElem?_eq_getElem hj])
  rw [show Γ.length + Θ.length + (j - (Γ.length + Θ.length)) = j by omega] at q
  exact q.2.1 (anyOw_no e (List.mem_map_of_mem (List.getElem_mem hj)))
theorem Sat.dropApart (S : Sat K B Γ (Θ ++ Ts) σ G H ρ) {a : Addr} (h : a ∈ catR ρ (Γ.length + Θ.length) Ts.length) :
    (∀ i, a ∉ (fun i => if i < Γ.length + Θ.length then ρ i else []) i) ∧ G a = none ∧ (B.H0 a = none ∨ a ∈ B.rin) := by
  obtain ⟨j, h1, h2, h3⟩ := mem_catR h
  refine ⟨fun i z => ?_, S.own j a h3⟩
  dsimp only at z
  split at z
  · have := S.dis i j a z h3
    omega
  · cases z
theorem map_d (Ts : List (V × Val)) : (Ts.map (·.2)).map (·.d) = Ts.map (·.2.d) := by rw [List.map_map]; rfl
/-- a new tuple of the last temporaries -/
theorem SatE.mkTup {p : Addr} (S : SatE K B Γ (Θ ++ Ts) σ H) (hp : H p = none) : SatE K B Γ (Θ ++ [(.ref p, mkT (Ts.map (·.2)))]) σ (upd H p (.tup (Ts.map (·.1)))) := by
  obtain ⟨G, ρ, S⟩ := S
  have e : Same H (upd H p (.tup (Ts.map (·.1)))) := fun b o q => by rw [upd_ne (ne_of_none q hp)]; exact q
  refine ⟨G, _, (S.drop.same e).push (R := catR ρ (Γ.length + Θ.length) Ts.length) ⟨?_, fun z => ?_, fun z => ?_, fun z t ds ed nt => absurd (D.nd.inj ed).1.symm nt⟩ (nodup_catR S.nod S.dis _ _) fun a h => S.dropApart h⟩
  · have q := S.reps.same e
    show Rep K (gx G (anyFz (Ts.map (·.2)))) _ _ _ (.nd .tup ((Ts.map (·.2)).map (·.d)))
    rw [map_d]
    exact .tup upd_same q
  · refine S.catNo ?_
    cases h : anyOw (Ts.map (·.2)) with
    | false => rfl
    | true => unfold mkT at z; rw [h] at z; cases z
  · unfold mkT at z
    dsimp only at z
    split at z <;> cases z
theorem SatE.mkLst {p : Addr} (S : SatE K B Γ (Θ ++ Ts) σ H) (hp : H p = none) : SatE K B Γ (Θ ++ [(.ref p, mkL (Ts.map (·.2)))]) σ (upd H p (.lst (Ts.map (·.1)))) := by
  obtain ⟨G, ρ, S⟩ := S
  have e : Same H (upd H p (.lst (Ts.map (·.1)))) := fun b o q => by rw [upd_ne (ne_of_none q hp)]; exact q
  refine ⟨G, _, (S.drop.same e).push (R := p :: catR ρ (Γ.length + Θ.length) Ts.length) ⟨?_, fun z => ?_, fun z => ?_, fun z t ds ed nt => ⟨p, _, rfl, rfl⟩⟩ (List.nodup_cons.mpr ⟨fun z => ?_, nodup_catR S.nod S.dis _ _⟩) fun a h => ?_⟩
  · have q := S.reps.same e
    show Rep K (gx G (anyFz (Ts.map (·.2)))) _ _ _ (.nd .lst ((Ts.map (·.2)).map (·.d)))
    rw [map_d]
    exact .own (show NodeO _ .lst p _ from upd_same) q
  · unfold mkL at z
    dsimp only at z
    split at z <;> cases z
  · have h : anyOw (Ts.map (·.2)) = false := by
      cases h : anyOw (Ts.map (·.2)) with
      | false => rfl
      | true => unfold mkL at z; rw [h] at z; cases z
    refine ⟨p, .lst, _, rfl, by rw [S.catNo h], rfl, by decide⟩
  · obtain ⟨j, _, _, h3⟩ := mem_catR z
    obtain ⟨o, ho, _⟩ := S.live h3
    rw [hp] at ho; cases ho
  · rcases List.mem_cons.mp h with rfl | h
    · exact S.drop.newOwn hp
    · exact S.dropApart h

/-! ### a slot's own object is written -/
theorem Sat.setRoot {i : Nat} {p : Addr} {R' : List Addr} {x' : Val} {o' : HO} (S : Sat K B Γ (Θ ++ Ts) σ G H ρ) (hx : Γ[i]? = some (some x)) (hR : ρ i = p :: R) (hv : σ[i]? = some (some (.ref p)))
    (hn : R'.Nodup) (hp : p ∉ R') (hs : ∀ a ∈ R', a ∈ R ∨ ∃ j, Γ.length + Θ.length ≤ j ∧ a ∈ ρ j) (ok : ValOk K G (upd H p o') (p :: R') (.ref p) x') :
    Sat K B (Γ.set i (some x')) Θ σ G (upd H p o') (upr (fun j => if j < Γ.length + Θ.length then ρ j else []) i (p :: R')) := by
  have hi : i < Γ.length := (List.getElem?_eq_some_iff.mp hx).1
  have pin : p ∈ ρ i := by rw [hR]; exact List.mem_cons_self
  obtain ⟨op, hop, nt, nf⟩ := S.live pin
  have ht : ∀ a xs, H a = some (.tup xs) → upd H p o' a = some (.tup xs) := fun a xs r => by
    refine (upd_ne ?_).trans r
    rintro rfl
    rw [hop] at r; exact nt _ (Option.some.inj r)
  have keep : ∀ {j : Nat}, j ≠ i → ∀ a ∈ ρ j, upd H p o' a = H a := fun {j} ne a z => upd_ne fun e => ne (S.dis j i a z (e ▸ pin))
  have D := S.drop
  refine ⟨fun a o e => ?_, S.ext, S.fresh, fun a o h1 h2 => ?_, by rw [List.length_set]; exact S.len, fun j y e => ?_, fun j w y e => ?_, fun j => ?_, fun k j a h1 h2 => ?_, fun j a h1 => ?_, fun j hj => ?_, S.io⟩
  · rw [upd_ne (fun z => by rw [z, (S.own i p pin).1] at e; cases e)]
    exact S.sub a o e
  · rw [upd_ne (fun z => by
      rcases (S.own i p pin).2 with q | q
      · rw [z, q] at h1; cases h1
      · exact h2 (z ▸ q))]
    exact S.frame a o h1 h2
  · by_cases ej : j = i
    · subst ej
      rw [List.getElem?_set_self hi] at e
      cases e
      exact ⟨_, hv, by rw [upr_same]; exact ok⟩
    · rw [List.getElem?_set_ne (Ne.symm ej)] at e
      obtain ⟨w, h1, h2⟩ := D.slot j y e
      have hj : j < Γ.length := (List.getElem?_eq_some_iff.mp e).1
      rw [upr_ne ej]
      refine ⟨w, h1, h2.stay ht fun a z => keep ej a ?_⟩
      rw [if_pos (by omega)] at z
      exact z
  · have hj : j < Θ.length := (List.getElem?_eq_some_iff.mp e).1
    rw [List.length_set, upr_ne (by omega)]
    refine (D.temp j w y e).stay ht fun a z => keep (j := Γ.length + j) (by omega) a ?_
    rw [if_pos (by omega)] at z
    exact z
  · unfold upr
    split
    · exact List.nodup_cons.mpr ⟨hp, hn⟩
    · exact D.nod j
  · have N : ∀ {m : Nat}, a ∈ p :: R' → m ≠ i → a ∉ (fun j => if j < Γ.length + Θ.length then ρ j else []) m := fun {m} z ne q => by
      dsimp only at q
      split at q
      · rcases List.mem_cons.mp z with rfl | z
        · exact ne (S.dis m i a q pin)
        · rcases hs a z with r | ⟨l, hl, r⟩
          · exact ne (S.dis m i a q (by rw [hR]; exact List.mem_cons_of_mem _ r))
          · have := S.dis m l a q r
            omega
      · cases q
    unfold upr at h1 h2
    split at h1 <;> split at h2
    · omega
    · rename_i n1 n2; exact absurd h2 (N h1 n2)
    · rename_i n1 n2; exact absurd h1 (N h2 n1)
    · exact D.dis k j a h1 h2
  · unfold upr at h1
    split at h1
    · rcases List.mem_cons.mp h1 with rfl | z
      · exact S.own i a pin
      · rcases hs a z with r | ⟨l, hl, r⟩
        · exact S.own i a (by rw [hR]; exact List.mem_cons_of_mem _ r)
        · exact S.own l a r
    · exact D.own j a h1
  · unfold upr
    split
    · rename_i e
      subst e
      rcases hj with hj | hj
      · rw [List.getElem?_set_self hi] at hj; cases hj
      · rw [List.length_set] at hj; omega
    · rename_i ne
      refine D.emp j (hj.imp (fun z => ?_) fun z => by rw [List.length_set] at z; exact z)
      rw [List.getElem?_set_ne (Ne.symm ne)] at z
      exact z

/-! ### another base: for what must stand through a loop -/
def owned (ρ : Nat → List Addr) (n : Nat) : List Addr := (List.range n).flatMap ρ
theorem mem_owned {n : Nat} {a : Addr} : a ∈ owned ρ n ↔ ∃ i, i < n ∧ a ∈ ρ i := by
  unfold owned
  rw [List.mem_flatMap]
  exact ⟨fun ⟨i, h1, h2⟩ => ⟨i, List.mem_range.mp h1, h2⟩, fun ⟨i, h1, h2⟩ => ⟨i, List.mem_range.mpr h1, h2⟩⟩
def Base.at (B : Base) (G H : Hp) (R : List Addr) : Base := ⟨G, H, R, B.io⟩
theorem Sat.rebase (S : Sat K B Γ Θ σ G H ρ) : Sat K (B.at G H (owned ρ (Γ.length + Θ.length))) Γ Θ σ G H ρ := by
  refine ⟨S.sub, Same.refl _, fun a o e => .inl e, fun a o e _ => e, S.len, S.slot, S.temp, S.nod, S.dis, fun i a h => ⟨(S.own i a h).1, .inr (mem_owned.mpr ⟨i, ?_, h⟩)⟩, S.emp, S.io⟩
  by_cases hi : i < Γ.length + Θ.length
  · exact hi
  · rw [S.emp i (.inr (by omega))] at h; cases h
theorem Sat.unbase {n : Nat} {Γ' : Gam} {Θ' : List (V × Val)} {σ' : St} {ρ' : Nat → List Addr} (S : Sat K B Γ Θ σ G H ρ) (S' : Sat K (B.at G H (owned ρ n)) Γ' Θ' σ' G' H' ρ') : Sat K B Γ' Θ' σ' G' H' ρ' := by
  have hn : ∀ a, H a = none → B.H0 a = none ∨ a ∈ B.rin := fun a e => (S.newOwn e).2.2
  have ho : ∀ a, a ∈ owned ρ n → B.H0 a = none ∨ a ∈ B.rin := fun a h => by
    obtain ⟨i, _, h⟩ := mem_owned.mp h
    exact (S.own i a h).2
  refine ⟨S'.sub, S.ext.trans S'.ext, fun a o e => ?_, fun a o e h => ?_, S'.len, S'.slot, S'.temp, S'.nod, S'.dis, fun i a h => ⟨(S'.own i a h).1, ?_⟩, S'.emp, S'.io⟩
  · rcases S'.fresh a o e with h | h | h
    · exact S.fresh a o h
    · exact .inr (hn a h)
    · exact .inr (ho a h)
  · refine S'.frame a o (S.frame a o e h) fun z => ?_
    rcases ho a z with q | q
    · rw [q] at e; cases e
    · exact h q
  · rcases (S'.own i a h).2 with q | q
    · exact hn a q
    · exact ho a q
/-- what is read stands through all that keeps the base -/
theorem Sat.stand {n : Nat} {Γ' : Gam} {Θ' : List (V × Val)} {σ' : St} {ρ' : Nat → List Addr} (S : Sat K B Γ Θ σ G H ρ) (S' : Sat K (B.at G H (owned ρ n)) Γ' Θ' σ' G' H' ρ') {d : D} (h : Rep K G H [] v d) : Rep K G' H' [] v d := by
  refine Rep.monoG S'.ext d (h.stay (fun a xs r => S'.frame a _ r fun z => ?_) d fun a z => by cases z)
  obtain ⟨i, _, z⟩ := mem_owned.mp z
  obtain ⟨o', e', n1, n2⟩ := S.live z
  have r' : H a = some (.tup xs) := r
  rw [r'] at e'; cases e'
  exact n1 _ rfl
end
end Px
namespace Px
open PySem L2

/-! ### operands: a temporary, a slot looked at, a slot handed over -/
inductive Opd where
  | v (x : Val) | b (i : Nat) | m (i : Nat)
def lend (x : Val) : Val := ⟨.no, x.fz || decide (x.ow ≠ .no), x.d⟩
def slotG (Γ : Gam) (i : Nat) : Option Val := match Γ[i]? with | some (some x) => some x | _ => none
theorem slotG_some {Γ : Gam} {i : Nat} {x : Val} : slotG Γ i = some x ↔ Γ[i]? = some (some x) := by
  unfold slotG
  split
  · rename_i y h; rw [h]; simp
  · rename_i h
    refine ⟨fun z => (by cases z), fun z => absurd z (h x)⟩
/-- the operands' values -/
def getO (Γ : Gam) : List Opd → Option (List Val)
  | [] => some []
  | .v x :: os => (getO Γ os).map (x :: ·)
  | .b i :: os => (slotG Γ i).bind fun x => (getO Γ os).map (x :: ·)
  | .m i :: os => (slotG Γ i).bind fun x => (getO Γ os).map (x :: ·)
/-- .. as a callee gets them -/
def argO (Γ : Gam) : List Opd → Option (List Val)
  | [] => some []
  | .v x :: os => (argO Γ os).map (lend x :: ·)
  | .b i :: os => (slotG Γ i).bind fun x => (argO Γ os).map (lend x :: ·)
  | .m i :: os => (slotG Γ i).bind fun x => (argO Γ os).map (x :: ·)
def idxB : List Opd → List Nat
  | [] => []
  | .b i :: os => i :: idxB os
  | _ :: os => idxB os
def idxM : List Opd → List Nat
  | [] => []
  | .m i :: os => i :: idxM os
  | _ :: os => idxM os
/-- the operands as they lie: their values, the temporaries among them -/
inductive OpdsR (σ : St) : List Opd → List V → List (V × Val) → Prop
  | nil : OpdsR σ [] [] []
  | v {v : V} {x : Val} {os : List Opd} {vs : List V} {Ts : List (V × Val)} : OpdsR σ os vs Ts → OpdsR σ (.v x :: os) (v :: vs) ((v, x) :: Ts)
  | b {v : V} {i : Nat} {os : List Opd} {vs : List V} {Ts : List (V × Val)} : σ[i]? = some (some v) → OpdsR σ os vs Ts → OpdsR σ (.b i :: os) (v :: vs) Ts
  | m {v : V} {i : Nat} {os : List Opd} {vs : List V} {Ts : List (V × Val)} : σ[i]? = some (some v) → OpdsR σ os vs Ts → OpdsR σ (.m i :: os) (v :: vs) Ts

section
variable {K : W.Frag} {B : Base} {Γ : Gam} {Θ Ts : List (V × Val)} {σ : St} {G G' H H' : Hp} {ρ : Nat → List Addr} {R : List Addr} {v : V} {x : Val} {os : List Opd} {vs : List V} {xs : List Val}
theorem slot_at (S : Sat K B Γ Θ σ G H ρ) {i : Nat} (h : slotG Γ i = some x) (hv : σ[i]? = some (some v)) : ValOk K G H (ρ i) v x := by
  obtain ⟨w, h1, h2⟩ := S.slot i x (slotG_some.mp h)
  rw [hv] at h1; cases h1
  exact h2
theorem opds_ok {s : Nat} (hs : ∀ i x v, slotG Γ i = some x → σ[i]? = some (some v) → ValOk K G H (ρ i) v x) : ∀ {os : List Opd} {vs : List V} {Ts : List (V × Val)} {xs : List Val}, OpdsR σ os vs Ts →
    (∀ (j : Nat) v x, Ts[j]? = some (v, x) → ∃ R, ValOk K G H R v x) → getO Γ os = some xs → Paired (fun v x => ∃ R, ValOk K G H R v x) vs xs
  | _, _, _, xs, .nil, _, h => by cases h; exact .nil
  | .v x :: os, v :: vs, _ :: Ts, xs, .v r, ht, h => by
    unfold getO at h
    cases q : getO Γ os with
    | none => rw [q] at h; cases h
    | some ys =>
      rw [q] at h; cases h
      exact .cons (ht 0 v x rfl) (opds_ok (s := s) hs r (fun j w y e => ht (j + 1) w y (by simpa using e)) q)
  | .b i :: os, v :: vs, Ts, xs, .b hv r, ht, h => by
    unfold getO at h
    cases p : slotG Γ i with
    | none => rw [p] at h; cases h
    | some x =>
      cases q : getO Γ os with
      | none => rw [p, q] at h; cases h
      | some ys =>
        rw [p, q] at h; cases h
        exact .cons ⟨_, hs i x v p hv⟩ (opds_ok (s := s) hs r ht q)
  | .m i :: os, v :: vs, Ts, xs, .m hv r, ht, h => by
    unfold getO at h
    cases p : slotG Γ i with
    | none => rw [p] at h; cases h
    | some x =>
      cases q : getO Γ os with
      | none => rw [p, q] at h; cases h
      | some ys =>
        rw [p, q] at h; cases h
        exact .cons ⟨_, hs i x v p hv⟩ (opds_ok (s := s) hs r ht q)
theorem Sat.opds (S : Sat K B Γ (Θ ++ Ts) σ G H ρ) (hO : OpdsR σ os vs Ts) (h : getO Γ os = some xs) : Paired (fun v x => ∃ R, ValOk K G H R v x) vs xs :=
  opds_ok (s := 0) (fun i x v e hv => slot_at S e hv) hO (fun j v x e => ⟨_, S.tail j v x e⟩) h
/-- what lies one layer down of a value that owns no deeper -/
theorem ValOk.kids {t : NT} {ds : List D} (e : Same G H) (h : ValOk K G H R v x) (ho : x.ow ≠ .deep) (hd : x.d = .nd t ds) : ∃ p vs, v = .ref p ∧ NodeR K H t p vs ∧ Reps K (gx G x.fz) H [] vs ds := by
  obtain ⟨h1, h2, h3, _⟩ := h
  rw [hd] at h1
  have hR : x.ow = .no ∨ x.ow = .top := by cases q : x.ow <;> simp_all
  cases h1 with
  | @tup p vs R' ds q1 q2 =>
    rcases hR with r | r
    · have := h2 r; subst this
      exact ⟨p, vs, rfl, q1, q2⟩
    · obtain ⟨p', t', ds', _, _, e3, e4⟩ := h3 r
      rw [hd] at e3; cases e3
      exact absurd rfl e4
  | @frz t p vs ds q1 q2 => exact ⟨p, vs, rfl, q1.same (gx_same e), q2⟩
  | @own t p vs R' ds q1 q2 =>
    rcases hR with r | r
    · cases h2 r
    · obtain ⟨p', t', ds', _, e2, _, _⟩ := h3 r
      have : R' = [] := (List.cons.inj e2).2
      subst this
      exact ⟨p, vs, rfl, q1.read, q2⟩
theorem lend_no (h : x.ow = .no) : lend x = x := by
  obtain ⟨o, f, d⟩ := x
  cases h
  simp [lend]
/-- lent: read from G' -/
theorem ValOk.lent (e : Same G G') (ha : ∀ a ∈ R, G' a = H a) (h : ValOk K G H R v x) : ValOk K G' H [] v (lend x) := by
  by_cases ho : x.ow = .no
  · rw [lend_no ho]
    have := h.2.1 ho
    subst this
    exact h.monoG e
  · have ef : (lend x).fz = true := by simp [lend, ho]
    refine ⟨?_, fun _ => rfl, (fun z => by cases z), (fun z => by cases z)⟩
    rw [ef]
    exact h.1.freeze (gx_le.trans e) x.d ha

/-! ### a call: what the callee finds -/
def regB (ρ : Nat → List Addr) : Nat → List Opd → List Addr
  | _, [] => []
  | s, .v _ :: os => ρ s ++ regB ρ (s + 1) os
  | s, .b i :: os => ρ i ++ regB ρ s os
  | s, .m _ :: os => regB ρ s os
def regM (ρ : Nat → List Addr) (os : List Opd) : List Addr := (idxM os).flatMap ρ
theorem mem_regM {a : Addr} : a ∈ regM ρ os ↔ ∃ i ∈ idxM os, a ∈ ρ i := List.mem_flatMap
theorem mem_regB {a : Addr} : ∀ {os : List Opd} {vs : List V} {Ts : List (V × Val)} {s : Nat}, OpdsR σ os vs Ts → a ∈ regB ρ s os → (∃ i ∈ idxB os, a ∈ ρ i) ∨ ∃ j, s ≤ j ∧ j < s + Ts.length ∧ a ∈ ρ j
  | _, _, _, _, .nil, h => by cases h
  | .v x :: os, _, _, s, .v r, h => by
    rcases List.mem_append.mp h with h | h
    · exact .inr ⟨s, Nat.le_refl _, by rw [List.length_cons]; omega, h⟩
    · rcases mem_regB r h with q | ⟨j, h1, h2, h3⟩
      · exact .inl q
      · exact .inr ⟨j, by omega, by rw [List.length_cons]; omega, h3⟩
  | .b i :: os, _, _, s, .b _ r, h => by
    rcases List.mem_append.mp h with h | h
    · exact .inl ⟨i, List.mem_cons_self, h⟩
    · rcases mem_regB r h with ⟨k, q1, q2⟩ | q
      · exact .inl ⟨k, List.mem_cons_of_mem _ q1, q2⟩
      · exact .inr q
  | .m i :: os, _, _, s, .m _ r, h => mem_regB (os := os) r h
/-- the parameters that are handed over -/
def ioOf : Nat → List Opd → List V → List (Nat × V)
  | _, [], _ => []
  | _, _, [] => []
  | j, .m _ :: os, v :: vs => (j, v) :: ioOf (j + 1) os vs
  | j, _ :: os, _ :: vs => ioOf (j + 1) os vs
theorem ioOf_mem : ∀ {os : List Opd} {vs : List V} {j : Nat} {p : Nat × V}, p ∈ ioOf j os vs → j ≤ p.1 ∧ vs[p.1 - j]? = some p.2 ∧ ∃ i, os[p.1 - j]? = some (.m i)
  | [], _, _, _, h => by unfold ioOf at h; cases h
  | o :: os, [], _, _, h => by cases o <;> (unfold ioOf at h; cases h)
  | o :: os, v :: vs, j, p, h => by
    have rek : p ∈ ioOf (j + 1) os vs → j ≤ p.1 ∧ (v :: vs)[p.1 - j]? = some p.2 ∧ ∃ i, (o :: os)[p.1 - j]? = some (.m i) := fun h => by
      obtain ⟨h1, h2, i, h3⟩ := ioOf_mem h
      have e : p.1 - j = (p.1 - (j + 1)) + 1 := by omega
      exact ⟨by omega, by rw [e, List.getElem?_cons_succ]; exact h2, i, by rw [e, List.getElem?_cons_succ]; exact h3⟩
    cases o with
    | v x => exact rek h
    | b i => exact rek h
    | m i =>
      rcases List.mem_cons.mp h with rfl | h
      · exact ⟨Nat.le_refl _, by simp, i, by simp⟩
      · exact rek h
def regC (ρ : Nat → List Addr) (os : List Opd) (j : Nat) : List Addr := match os[j]? with
  | some (.m i) => ρ i
  | _ => []
theorem regC_mem {j : Nat} {a : Addr} (h : a ∈ regC ρ os j) : ∃ i, os[j]? = some (.m i) ∧ a ∈ ρ i := by
  unfold regC at h
  split at h
  · rename_i i e; exact ⟨i, e, h⟩
  · cases h
theorem idxM_mem : ∀ {os : List Opd} {j i : Nat}, os[j]? = some (.m i) → i ∈ idxM os
  | [], _, _, h => by simp at h
  | o :: os, 0, i, h => by simp at h; subst h; exact List.mem_cons_self
  | o :: os, j + 1, i, h => by
    have q := idxM_mem (os := os) (by simpa using h)
    cases o with
    | v x => exact q
    | b k => exact q
    | m k => exact List.mem_cons_of_mem _ q
theorem idxM_inj : ∀ {os : List Opd} {j k i : Nat}, (idxM os).Nodup → os[j]? = some (.m i) → os[k]? = some (.m i) → j = k
  | [], _, _, _, _, h, _ => by simp at h
  | o :: os, 0, 0, _, _, _, _ => rfl
  | o :: os, 0, k + 1, i, hn, h1, h2 => by
    simp at h1; subst h1
    exact absurd (idxM_mem (os := os) (by simpa using h2)) (List.nodup_cons.mp hn).1
  | o :: os, j + 1, 0, i, hn, h1, h2 => by
    simp at h2; subst h2
    exact absurd (idxM_mem (os := os) (by simpa using h1)) (List.nodup_cons.mp hn).1
  | o :: os, j + 1, k + 1, i, hn, h1, h2 => by
    have hn' : (idxM os).Nodup := by
      cases o with
      | v x => exact hn
      | b k => exact hn
      | m k => exact (List.nodup_cons.mp hn).2
    have q := idxM_inj (os := os) (j := j) (k := k) (i := i) hn' (by simpa using h1) (by simpa using h2)
    omega
/-- each argument in the callee's terms -/
theorem arg_ok {Gc : Hp} (eG : Same G Gc) (hs : ∀ i x v, slotG Γ i = some x → σ[i]? = some (some v) → ValOk K G H (ρ i) v x) : ∀ {os : List Opd} {vs : List V} {Ts : List (V × Val)} {xs : List Val} {s : Nat}, OpdsR σ os vs Ts →
    (∀ (j : Nat) v x, Ts[j]? = some (v, x) → ValOk K G H (ρ (s + j)) v x) → (∀ a ∈ regB ρ s os, Gc a = H a) → argO Γ os = some xs → ∀ (j : Nat) x, xs[j]? = some x → ∃ v, vs[j]? = some v ∧ ValOk K Gc H (regC ρ os j) v x
  | _, _, _, xs, _, .nil, _, _, h, j, x, e => by cases h; simp at e
  | .v y :: os, v :: vs, _ :: Ts, xs, s, .v r, ht, hB, h, j, x, e => by
    unfold argO at h
    cases q : argO Γ os with
    | none => rw [q] at h; cases h
    | some ys =>
      rw [q] at h; cases h
      cases j with
      | zero =>
        simp at e; subst e
        exact ⟨v, rfl, (ht 0 v y rfl).lent eG fun a z => hB a (List.mem_append_left _ z)⟩
      | succ j => exact arg_ok (os := os) eG hs r (fun j w y e => by have := ht (j + 1) w y (by simpa using e); rw [show s + 1 + j = s + (j + 1) by omega]; exact this) (fun a z => hB a (List.mem_append_right _ z)) q j x (by simpa using e)
  | .b i :: os, v :: vs, Ts, xs, s, .b hv r, ht, hB, h, j, x, e => by
    unfold argO at h
    cases p : slotG Γ i with
    | none => rw [p] at h; cases h
    | some y =>
      cases q : argO Γ os with
      | none => rw [p, q] at h; cases h
      | some ys =>
        rw [p, q] at h; cases h
        cases j with
        | zero =>
          simp at e; subst e
          exact ⟨v, rfl, (hs i y v p hv).lent eG fun a z => hB a (List.mem_append_left _ z)⟩
        | succ j => exact arg_ok (os := os) eG hs r ht (fun a z => hB a (List.mem_append_right _ z)) q j x (by simpa using e)
  | .m i :: os, v :: vs, Ts, xs, s, .m hv r, ht, hB, h, j, x, e => by
    unfold argO at h
    cases p : slotG Γ i with
    | none => rw [p] at h; cases h
    | some y =>
      cases q : argO Γ os with
      | none => rw [p, q] at h; cases h
      | some ys =>
        rw [p, q] at h; cases h
        cases j with
        | zero =>
          simp at e; subst e
          exact ⟨v, rfl, (hs i y v p hv).monoG eG⟩
        | succ j => exact arg_ok (os := os) eG hs r ht hB q j x (by simpa using e)
theorem argO_len : ∀ {os : List Opd} {xs : List Val}, argO Γ os = some xs → xs.length = os.length
  | [], xs, h => by cases h; rfl
  | .v y :: os, xs, h => by
    unfold argO at h
    cases q : argO Γ os with
    | none => rw [q] at h; cases h
    | some ys => rw [q] at h; cases h; rw [List.length_cons, List.length_cons, argO_len q]
  | .b i :: os, xs, h => by
    unfold argO at h
    cases p : slotG Γ i with
    | none => rw [p] at h; cases h
    | some y =>
      cases q : argO Γ os with
      | none => rw [p, q] at h; cases h
      | some ys => rw [p, q] at h; cases h; rw [List.length_cons, List.length_cons, argO_len q]
  | .m i :: os, xs, h => by
    unfold argO at h
    cases p : slotG Γ i with
    | none => rw [p] at h; cases h
    | some y =>
      cases q : argO Γ os with
      | none => rw [p, q] at h; cases h
      | some ys => rw [p, q] at h; cases h; rw [List.length_cons, List.length_cons, argO_len q]
theorem OpdsR.len : ∀ {os : List Opd} {vs : List V} {Ts : List (V × Val)}, OpdsR σ os vs Ts → vs.length = os.length
  | _, _, _, .nil => rfl
  | _, _, _, .v r => by rw [List.length_cons, List.length_cons, r.len]
  | _, _, _, .b _ r => by rw [List.length_cons, List.length_cons, r.len]
  | _, _, _, .m _ r => by rw [List.length_cons, List.length_cons, r.len]
/-- a def's slots at its entry -/
def gam0 (n : Nat) (xs : List Val) : Gam := xs.map some ++ List.replicate (n - xs.length) none
theorem gam0_some {n i : Nat} (h : (gam0 n xs)[i]? = some (some x)) : xs[i]? = some x := by
  unfold gam0 at h
  by_cases hi : i < xs.length
  · rw [List.getElem?_append_left (by simpa using hi), List.getElem?_map] at h
    cases e : xs[i]? with
    | none => rw [e] at h; cases h
    | some y => rw [e] at h; cases h; rfl
  · rw [List.getElem?_append_right (by simpa using hi), List.getElem?_replicate] at h
    split at h <;> cases h
theorem start_get {N : List Str} {i : Nat} (h : vs[i]? = some v) : (L2.start N vs)[i]? = some (some v) := by
  have hi : i < vs.length := (List.getElem?_eq_some_iff.mp h).1
  unfold L2.start
  rw [List.getElem?_append_left (by simpa using hi), List.getElem?_map, h] <;> rfl
/-- THE CALLEE's STATE -/
theorem Sat.enter {N : List Str} (S : Sat K B Γ (Θ ++ Ts) σ G H ρ) (hO : OpdsR σ os vs Ts) (h : argO Γ os = some xs) (hl : xs.length ≤ N.length) (hM : (idxM os).Nodup) (hBM : ∀ i ∈ idxM os, i ∉ idxB os) :
    Sat K ⟨addH G H (regB ρ (Γ.length + Θ.length) os), H, regM ρ os, ioOf 0 os vs⟩ (gam0 N.length xs) [] (L2.start N vs) (addH G H (regB ρ (Γ.length + Θ.length) os)) H (regC ρ os) := by
  have regOwn : ∀ a ∈ regB ρ (Γ.length + Θ.length) os, G a = none := fun a z => by
    rcases mem_regB hO z with ⟨i, _, q⟩ | ⟨j, _, _, q⟩
    · exact (S.own i a q).1
    · exact (S.own j a q).1
  have mIdx : ∀ {os : List Opd} {vs : List V} {Ts : List (V × Val)} {j i : Nat}, OpdsR σ os vs Ts → os[j]? = some (.m i) → ∃ v, σ[i]? = some (some v) := by
    intro os
    induction os with
    | nil => intro vs Ts j i r e; simp at e
    | cons o os ih =>
      intro vs Ts j i r e
      cases j with
      | zero =>
        simp at e; subst e
        cases r with
        | m hv r => exact ⟨_, hv⟩
      | succ j =>
        have e' : os[j]? = some (.m i) := by simpa using e
        cases r with
        | v r => exact ih r e'
        | b hv r => exact ih r e'
        | m hv r => exact ih r e'
  have iLt : ∀ {i j : Nat}, os[j]? = some (.m i) → i < Γ.length := fun {i j} e => by
    obtain ⟨v, hv⟩ := mIdx hO e
    rw [S.len]
    exact (List.getElem?_eq_some_iff.mp hv).1
  have eG : Same G (addH G H (regB ρ (Γ.length + Θ.length) os)) := addH_ext regOwn
  have hlen := argO_len h
  have hvl := hO.len
  refine ⟨fun a o e => ?_, Same.refl _, fun a o e => .inl e, fun a o e _ => e, ?_, fun i x e => ?_, fun j v x e => by simp at e, fun i => ?_, fun i j a h1 h2 => ?_, fun i a h1 => ?_, fun i hi => ?_, fun p hp => ?_⟩
  · by_cases ha : a ∈ regB ρ (Γ.length + Θ.length) os
    · rw [addH_in ha] at e; exact e
    · rw [addH_out ha] at e; exact S.sub a o e
  · unfold gam0 L2.start
    simp only [List.length_append, List.length_map, List.length_replicate]
    omega
  · obtain ⟨v, h1, h2⟩ := arg_ok eG (fun i x v e hv => slot_at S e hv) hO S.tail (fun a z => addH_in z) h i x (gam0_some e)
    exact ⟨v, start_get h1, h2⟩
  · unfold regC
    split
    · exact S.nod _
    · exact List.nodup_nil
  · obtain ⟨i', e1, q1⟩ := regC_mem h1
    obtain ⟨j', e2, q2⟩ := regC_mem h2
    have := S.dis i' j' a q1 q2
    subst this
    exact idxM_inj hM e1 e2
  · obtain ⟨i', e1, q1⟩ := regC_mem h1
    have hi := iLt e1
    refine ⟨?_, .inr (mem_regM.mpr ⟨i', idxM_mem e1, q1⟩)⟩
    rw [addH_out]
    · exact (S.own i' a q1).1
    · intro z
      rcases mem_regB hO z with ⟨k, hk, q⟩ | ⟨k, hk1, _, q⟩
      · have := S.dis i' k a q1 q
        subst this
        exact hBM _ (idxM_mem e1) hk
      · have := S.dis i' k a q1 q
        omega
  · unfold regC
    split
    · rename_i k e
      have hj : i < os.length := (List.getElem?_eq_some_iff.mp e).1
      rcases hi with hi | hi
      · unfold gam0 at hi
        rw [List.getElem?_append_left (by rw [List.length_map]; omega), List.getElem?_map] at hi
        cases q : xs[i]? with
        | none => have := List.getElem?_eq_none_iff.mp q; omega
        | some y => rw [q] at hi; cases hi
      · unfold gam0 at hi
        simp only [List.length_append, List.length_map, List.length_replicate, List.length_nil] at hi
        omega
    · rfl
  · obtain ⟨_, h2, _⟩ := ioOf_mem hp
    exact start_get (by simpa using h2)
end
end Px
namespace Px
open PySem L2

/-! ### behind a call -/
def findM : List Opd → Nat → Option Nat
  | [], _ => none
  | .m k :: os, i => if k = i then some 0 else (findM os i).map (· + 1)
  | .v _ :: os, i => (findM os i).map (· + 1)
  | .b _ :: os, i => (findM os i).map (· + 1)
theorem findM_some : ∀ {os : List Opd} {i j : Nat}, findM os i = some j → os[j]? = some (.m i)
  | [], _, _, h => by cases h
  | o :: os, i, j, h => by
    have rek : (findM os i).map (· + 1) = some j → (o :: os)[j]? = some (.m i) := fun h => by
      cases q : findM os i with
      | none => rw [q] at h; cases h
      | some k =>
        rw [q] at h; cases h
        simpa using findM_some q
    cases o with
    | v x => exact rek h
    | b k => exact rek h
    | m k =>
      unfold findM at h
      split at h
      · rename_i e; cases h; subst e; simp
      · exact rek h
theorem findM_none : ∀ {os : List Opd} {i : Nat}, findM os i = none → i ∉ idxM os
  | [], _, _ => fun z => by cases z
  | o :: os, i, h => by
    have rek : (findM os i).map (· + 1) = none → i ∉ idxM os := fun h => by
      cases q : findM os i with
      | none => exact findM_none q
      | some k => rw [q] at h; cases h
    cases o with
    | v x => exact rek h
    | b k => exact rek h
    | m k =>
      unfold findM at h
      split at h
      · cases h
      · rename_i e
        intro z
        rcases List.mem_cons.mp z with q | q
        · exact e q.symm
        · exact rek h q
theorem idxM_pos : ∀ {os : List Opd} {i : Nat}, i ∈ idxM os → ∃ j : Nat, os[j]? = some (.m i)
  | [], _, h => by cases h
  | o :: os, i, h => by
    have rek : i ∈ idxM os → ∃ j : Nat, (o :: os)[j]? = some (.m i) := fun h => by
      obtain ⟨j, e⟩ := idxM_pos h
      exact ⟨j + 1, by simpa using e⟩
    cases o with
    | v x => exact rek h
    | b k => exact rek h
    | m k =>
      rcases List.mem_cons.mp h with rfl | h
      · exact ⟨0, by simp⟩
      · exact rek h
def retG (Γ : Gam) (os : List Opd) (outs : Gam) : Gam := Γ.mapIdx fun i o => match findM os i with
  | some j => outs.getD j none
  | none => o
theorem retG_len {Γ outs : Gam} {os : List Opd} : (retG Γ os outs).length = Γ.length := List.length_mapIdx
theorem retG_at {Γ outs : Gam} {os : List Opd} {i : Nat} (hi : i < Γ.length) : (retG Γ os outs)[i]? = some (match findM os i with | some j => outs.getD j none | none => Γ[i]) := by
  unfold retG
  rw [List.getElem?_mapIdx, List.getElem?_eq_getElem hi]
  rfl
section
variable {K : W.Frag} {B : Base} {Γ : Gam} {Θ Ts : List (V × Val)} {σ : St} {G G' H H' : Hp} {ρ : Nat → List Addr} {R : List Addr} {v : V} {x : Val} {os : List Opd} {vs : List V} {xs : List Val}
theorem OpdsR.at_m : ∀ {os : List Opd} {vs : List V} {Ts : List (V × Val)} {i j s : Nat}, OpdsR σ os vs Ts → os[j]? = some (.m i) → ∃ v, σ[i]? = some (some v) ∧ (s + j, v) ∈ ioOf s os vs
  | [], _, _, _, _, _, _, h => by simp at h
  | o :: os, vs, Ts, i, j, s, r, h => by
    cases j with
    | zero =>
      simp at h; subst h
      cases r with
      | m hv r => exact ⟨_, hv, List.mem_cons_self⟩
    | succ j =>
      have e : os[j]? = some (.m i) := by simpa using h
      have es : s + (j + 1) = s + 1 + j := by omega
      rw [es]
      cases r with
      | v r => exact OpdsR.at_m (s := s + 1) r e
      | b hv r => exact OpdsR.at_m (s := s + 1) r e
      | m hv r =>
        obtain ⟨w, q1, q2⟩ := OpdsR.at_m (s := s + 1) r e
        exact ⟨w, q1, List.mem_cons_of_mem _ q2⟩
theorem Sat.leave {N : List Str} {Γ' outs : Gam} {xr : Val} {σ' : St} {ρ' : Nat → List Addr} (S : Sat K B Γ (Θ ++ Ts) σ G H ρ) (hO : OpdsR σ os vs Ts) (hM : (idxM os).Nodup) (hBM : ∀ i ∈ idxM os, i ∉ idxB os)
    (S' : Sat K ⟨addH G H (regB ρ (Γ.length + Θ.length) os), H, regM ρ os, ioOf 0 os vs⟩ Γ' [(v, xr)] σ' G' H' ρ')
    (hf : regB ρ (Γ.length + Θ.length) os = [] ∨ (xr.fz = false ∧ ∀ j x, outs.getD j none = some x → x.fz = false)) (ho : ∀ j x, outs.getD j none = some x → Γ'[j]? = some (some x)) :
    SatE K B (retG Γ os outs) (Θ ++ [(v, xr)]) σ H' := by
  -- the callee's frame
  have nRM : ∀ {a : Addr} {o : HO}, H a = some o → a ∉ regM ρ os → H' a = some o := fun {a o} e n => S'.frame a o e n
  have nTup : ∀ {a : Addr} {o : HO}, H a = some o → ((∃ xs, o = .tup xs) ∨ ∃ ob u, o = .frz ob u) → a ∉ regM ρ os := fun {a o} e q z => by
    obtain ⟨i, _, z⟩ := mem_regM.mp z
    obtain ⟨o', e', n1, n2⟩ := S.live z
    rw [e] at e'; cases e'
    rcases q with ⟨xs, q⟩ | ⟨ob, u, q⟩
    · exact n1 _ q
    · exact n2 _ _ q
  have ht : ∀ a xs, H a = some (.tup xs) → H' a = some (.tup xs) := fun a xs r => nRM r (nTup r (.inl ⟨_, rfl⟩))
  have regOwn : ∀ a ∈ regB ρ (Γ.length + Θ.length) os, G a = none := fun a z => by
    rcases mem_regB hO z with ⟨i, _, q⟩ | ⟨j, _, _, q⟩
    · exact (S.own i a q).1
    · exact (S.own j a q).1
  have eG : Same G (addH G H (regB ρ (Γ.length + Θ.length) os)) := addH_ext regOwn
  have rmOwn : ∀ a, a ∈ regM ρ os → G a = none ∧ (B.H0 a = none ∨ a ∈ B.rin) := fun a z => by
    obtain ⟨i, _, z⟩ := mem_regM.mp z
    exact S.own i a z
  have calOwn : ∀ {k : Nat} {a : Addr}, a ∈ ρ' k → H a = none ∨ a ∈ regM ρ os := fun {k a} z => (S'.own k a z).2
  have calOut : ∀ {k : Nat} {a : Addr}, a ∈ ρ' k → (B.H0 a = none ∨ a ∈ B.rin) := fun {k a} z => by
    rcases calOwn z with q | q
    · exact (S.newOwn q).2.2
    · exact (rmOwn a q).2
  have apart : ∀ {k i : Nat} {a : Addr}, a ∈ ρ' k → a ∈ ρ i → i ∈ idxM os := fun {k i a} z q => by
    rcases calOwn z with r | r
    · exact absurd q ((S.newOwn r).1 i)
    · obtain ⟨i', h1, h2⟩ := mem_regM.mp r
      rw [S.dis i i' a q h2]
      exact h1
  -- the heaps behind
  let G2 : Hp := fun a => if a ∈ regB ρ (Γ.length + Θ.length) os then none else G' a
  have G2le : Same G2 G' := fun a o e => by
    by_cases ha : a ∈ regB ρ (Γ.length + Θ.length) os
    · have z : G2 a = none := if_pos ha
      rw [z] at e; cases e
    · have z : G2 a = G' a := if_neg ha
      rw [z] at e; exact e
  have G2ext : Same G G2 := fun a o e => by
    have ha : a ∉ regB ρ (Γ.length + Θ.length) os := fun z => by rw [regOwn a z] at e; cases e
    have z : G2 a = G' a := if_neg ha
    rw [z]
    exact S'.ext a o (eG a o e)
  have okR : ∀ {R : List Addr} {w : V} {y : Val}, (y.fz = false ∨ regB ρ (Γ.length + Θ.length) os = []) → ValOk K G' H' R w y → ValOk K G2 H' R w y := fun {R w y} hy q => by
    rcases hy with e | e
    · obtain ⟨q1, q2⟩ := q
      rw [e] at q1
      refine ⟨?_, q2⟩
      rw [e]
      exact q1
    · have z : G2 = G' := funext fun a => if_neg (by rw [e]; intro z; cases z)
      rw [z]
      exact q
  have iM : ∀ {i j : Nat}, findM os i = some j → i ∈ idxM os := fun e => idxM_mem (findM_some e)
  have iLt : ∀ {i : Nat}, i ∈ idxM os → i < Γ.length := fun {i} h => by
    obtain ⟨j, e⟩ := idxM_pos h
    obtain ⟨w, hw, _⟩ := OpdsR.at_m (s := 0) hO e
    rw [S.len]
    exact (List.getElem?_eq_some_iff.mp hw).1
  let f : Nat → List Addr := fun i => if i < Γ.length then (match findM os i with
      | some j => if (outs.getD j none).isSome then ρ' j else []
      | none => ρ i) else if i < Γ.length + Θ.length then ρ i else if i = Γ.length + Θ.length then ρ' Γ'.length else []
  have fM : ∀ {i j : Nat}, i < Γ.length → findM os i = some j → f i = if (outs.getD j none).isSome then ρ' j else [] := fun {i j} hi e => by
    show (if i < Γ.length then _ else _) = _
    rw [if_pos hi, e]
  have fN : ∀ {i : Nat}, i < Γ.length + Θ.length → findM os i = none → f i = ρ i := fun {i} hi e => by
    show (if i < Γ.length then _ else _) = _
    split
    · rw [e]
    · first | rfl | rw [if_pos hi]
  have fT : f (Γ.length + Θ.length) = ρ' Γ'.length := by
    show (if _ < Γ.length then _ else _) = _
    rw [if_neg (by omega), if_neg (by omega), if_pos rfl]
  have fBig : ∀ {i : Nat}, Γ.length + Θ.length < i → f i = [] := fun {i} hi => by
    show (if _ < Γ.length then _ else _) = _
    rw [if_neg (by omega), if_neg (by omega), if_neg (by omega)]
  -- which region an index has: the callee's, or its own
  have cases_f : ∀ i a, a ∈ f i → (∃ k, a ∈ ρ' k ∧ ((i < Γ.length ∧ findM os i = some k) ∨ (i = Γ.length + Θ.length ∧ k = Γ'.length))) ∨ (a ∈ ρ i ∧ findM os i = none ∧ i < Γ.length + Θ.length) := fun i a h => by
    by_cases h1 : i < Γ.length
    · cases e : findM os i with
      | none => rw [fN (by omega) e] at h; exact .inr ⟨h, rfl, by omega⟩
      | some j =>
        rw [fM h1 e] at h
        split at h
        · exact .inl ⟨j, h, .inl ⟨h1, rfl⟩⟩
        · cases h
    · by_cases h2 : i < Γ.length + Θ.length
      · have e : findM os i = none := by
          cases e : findM os i with
          | none => rfl
          | some j => exact absurd (iLt (iM e)) h1
        rw [fN h2 e] at h; exact .inr ⟨h, e, h2⟩
      · by_cases h3 : i = Γ.length + Θ.length
        · subst h3
          rw [fT] at h
          exact .inl ⟨_, h, .inr ⟨rfl, rfl⟩⟩
        · rw [fBig (by omega)] at h; cases h
  refine ⟨G2, f, G2le.trans S'.sub, S.ext.trans G2ext, fun a o e => ?_, fun a o h1 h2 => ?_, by rw [retG_len]; exact S.len, fun i y e => ?_, fun j w y e => ?_, fun i => ?_, fun i j a h1 h2 => ?_, fun i a h => ?_, fun i hi => ?_, S.io⟩
  · have ha : a ∉ regB ρ (Γ.length + Θ.length) os := fun z => by
      have z' : G2 a = none := if_pos z
      rw [z'] at e; cases e
    rcases S'.fresh a o (G2le a o e) with q | q | q
    · have q' : addH G H (regB ρ (Γ.length + Θ.length) os) a = some o := q
      rw [addH_out ha] at q'
      exact S.fresh a o q'
    · exact .inr (S.newOwn q).2.2
    · exact .inr (rmOwn a q).2
  · refine nRM (S.frame a o h1 h2) fun z => ?_
    rcases (rmOwn a z).2 with q | q
    · rw [q] at h1; cases h1
    · exact h2 q
  · have hi : i < Γ.length := by
      have := (List.getElem?_eq_some_iff.mp e).1
      rw [retG_len] at this
      exact this
    rw [retG_at hi] at e
    cases q : findM os i with
    | none =>
      rw [q] at e
      have e' : Γ[i]? = some (some y) := by rw [List.getElem?_eq_getElem hi]; exact e
      obtain ⟨w, h1, h2⟩ := S.slot i y e'
      refine ⟨w, h1, ?_⟩
      rw [fN (by omega) q]
      refine (h2.monoG G2ext).stay ht fun a z => ?_
      obtain ⟨o, e2, _⟩ := S.live z
      rw [nRM e2, e2]
      intro z2
      obtain ⟨i', h3, h4⟩ := mem_regM.mp z2
      have := S.dis i i' a z h4
      subst this
      exact findM_none q h3
    | some j =>
      rw [q] at e
      have e' : outs.getD j none = some y := Option.some.inj e
      obtain ⟨w, h1, h2⟩ := S'.slot j y (ho j y e')
      obtain ⟨w', h3, h4⟩ := OpdsR.at_m (s := 0) hO (findM_some q)
      have h5 := S'.io _ h4
      simp only [Nat.zero_add] at h5
      rw [h1] at h5
      cases h5
      refine ⟨w, h3, ?_⟩
      rw [fM hi q, e', if_pos (show (some y).isSome = true from rfl)]
      refine okR ?_ h2
      rcases hf with z | z
      · exact .inr z
      · exact .inl (z.2 j y e')
  · rw [retG_len]
    by_cases hj : j < Θ.length
    · rw [List.getElem?_append_left hj] at e
      have q : findM os (Γ.length + j) = none := by
        cases q : findM os (Γ.length + j) with
        | none => rfl
        | some k => have := iLt (iM q); omega
      rw [fN (by omega) q]
      refine ((S.temp j w y (by rw [List.getElem?_append_left hj]; exact e)).monoG G2ext).stay ht fun a z => ?_
      obtain ⟨o, e2, _⟩ := S.live z
      rw [nRM e2, e2]
      intro z2
      obtain ⟨i', h3, h4⟩ := mem_regM.mp z2
      have := S.dis _ i' a z h4
      subst this
      exact findM_none q h3
    · have hj2 : j < (Θ ++ [(v, xr)]).length := (List.getElem?_eq_some_iff.mp e).1
      rw [List.length_append, List.length_singleton] at hj2
      have ej : j = Θ.length := by omega
      subst ej
      rw [List.getElem?_append_right (Nat.le_refl _), Nat.sub_self] at e
      cases e
      rw [fT]
      have q := S'.temp 0 v xr rfl
      rw [Nat.add_zero] at q
      exact okR (hf.elim (fun z => .inr z) fun z => .inl z.1) q
  · by_cases h1 : i < Γ.length
    · cases e : findM os i with
      | none => rw [fN (by omega) e]; exact S.nod i
      | some j =>
        rw [fM h1 e]
        split
        · exact S'.nod j
        · exact List.nodup_nil
    · by_cases h2 : i < Γ.length + Θ.length
      · have e : findM os i = none := by
          cases e : findM os i with
          | none => rfl
          | some j => exact absurd (iLt (iM e)) h1
        rw [fN h2 e]; exact S.nod i
      · by_cases h3 : i = Γ.length + Θ.length
        · subst h3; rw [fT]; exact S'.nod _
        · rw [fBig (by omega)]; exact List.nodup_nil
  · have lenC : ∀ {i k : Nat}, findM os i = some k → k < Γ'.length := fun {i k} e => by
      obtain ⟨w', _, h4⟩ := OpdsR.at_m (s := 0) hO (findM_some e)
      have h5 := S'.io _ h4
      simp only [Nat.zero_add] at h5
      rw [S'.len]
      exact (List.getElem?_eq_some_iff.mp h5).1
    rcases cases_f i a h1 with ⟨k, hk, q⟩ | ⟨hk, q, q'⟩ <;> rcases cases_f j a h2 with ⟨l, hl, r⟩ | ⟨hl, r, r'⟩
    · have ekl := S'.dis k l a hk hl
      subst ekl
      rcases q with ⟨q1, q2⟩ | ⟨q1, q2⟩ <;> rcases r with ⟨r1, r2⟩ | ⟨r1, r2⟩
      · have e1 := findM_some q2
        have e2 := findM_some r2
        rw [e1] at e2
        cases e2
        rfl
      · have := lenC q2; omega
      · have := lenC r2; omega
      · omega
    · exact absurd (apart hk hl) (findM_none r)
    · exact absurd (apart hl hk) (findM_none q)
    · exact S.dis i j a hk hl
  · rcases cases_f i a h with ⟨k, hk, q⟩ | ⟨hk, q, q'⟩
    · refine ⟨?_, calOut hk⟩
      cases e : G2 a with
      | none => rfl
      | some o => have := G2le a o e; rw [(S'.own k a hk).1] at this; cases this
    · refine ⟨?_, (S.own i a hk).2⟩
      by_cases ha : a ∈ regB ρ (Γ.length + Θ.length) os
      · exact if_pos ha
      · cases e : G2 a with
        | none => rfl
        | some o =>
          rcases S'.fresh a o (G2le a o e) with z | z | z
          · have z' : addH G H (regB ρ (Γ.length + Θ.length) os) a = some o := z
            rw [addH_out ha, (S.own i a hk).1] at z'
            cases z'
          · exact absurd hk ((S.newOwn z).1 i)
          · obtain ⟨i', h3, h4⟩ := mem_regM.mp z
            have := S.dis i i' a hk h4
            subst this
            exact absurd h3 (findM_none q)
  · rcases hi with hi | hi
    · have hl : i < Γ.length := by
        have := (List.getElem?_eq_some_iff.mp hi).1
        rw [retG_len] at this
        exact this
      rw [retG_at hl] at hi
      cases e : findM os i with
      | none =>
        rw [fN (by omega) e]
        rw [e] at hi
        exact S.emp i (.inl (by rw [List.getElem?_eq_getElem hl]; exact hi))
      | some j =>
        rw [e] at hi
        have hi' : outs.getD j none = none := Option.some.inj hi
        rw [fM hl e, hi']
        rfl
    · rw [retG_len, List.length_append, List.length_singleton] at hi
      exact fBig (by omega)
end
end Px
namespace Px
open PySem L2

/-! ### operations on data -/
inductive Ty where
  | bool | int | str | list | tuple
  deriving DecidableEq
inductive Op where
  | add | sub | mul | rep | fdiv | mod | pow | shl | shr | band | neg
  | eq | ne | lt | le | gt | ge | isN | notN | inn | notIn | isb
  | ix | sl (lo hi : Bool)
  | len | abs | max2 | min2 | max1 | min1 | sum | all | any | int1 | list1 | tuple1 | sorted1 | isi (t : Ty)
  | get1 | get2
  | dict1 | revl | lrng | dvm | sset
  deriving DecidableEq

mutual
def deq : D → D → Bool
  | .at (.non), .at (.non) => true
  | .at (.bl a), .at (.bl b) => a == b
  | .at (.bl a), .at (.int j) => (if a then 1 else 0) == j
  | .at (.int i), .at (.bl b) => i == (if b then 1 else 0)
  | .at (.int i), .at (.int j) => i == j
  | .at (.str x), .at (.str y) => x == y
  | .nd .lst xs, .nd .lst ys => deqs xs ys
  | .nd .tup xs, .nd .tup ys => deqs xs ys
  | _, _ => false
def deqs : List D → List D → Bool
  | [], [] => true
  | x :: xs, y :: ys => deq x y && deqs xs ys
  | _, _ => false
end
/-! data that == takes: no dicts, not too deep -/
mutual
def eqOk : Nat → D → Bool
  | _, .at (.str x) => PyData.strOk x
  | _, .at _ => true
  | 0, .nd _ _ => false
  | n + 1, .nd .lst xs => eqOks n xs
  | n + 1, .nd .tup xs => eqOks n xs
  | _ + 1, .nd _ _ => false
def eqOks : Nat → List D → Bool
  | _, [] => true
  | n, x :: xs => eqOk n x && eqOks n xs
end
/-! all the way down tuples and atoms -/
mutual
def imm : D → Bool
  | .at _ => true
  | .nd .tup xs => imms xs
  | .nd _ _ => false
def imms : List D → Bool
  | [] => true
  | x :: xs => imm x && imms xs
end
abbrev szLim : Nat := 16777216
def flatD : D → Bool
  | .at _ => true
  | _ => false
def dAdd : D → D → Option D
  | .at (.int a), .at (.int b) => some (.int (a + b))
  | .at (.str a), .at (.str b) => if a.length + b.length ≤ szLim then some (.str (a ++ b)) else none
  | .nd .lst xs, .nd .lst ys => if xs.length + ys.length ≤ szLim then some (.lst (xs ++ ys)) else none
  | .nd .tup xs, .nd .tup ys => if xs.length + ys.length ≤ szLim ∧ xs ≠ [] then some (.tup (xs ++ ys)) else none
  | _, _ => none
def dSub : D → D → Option D
  | .at (.int a), .at (.int b) => some (.int (a - b))
  | _, _ => none
def mulOk (a b : Int) : Bool := decide (a.natAbs.log2 + b.natAbs.log2 < 1000000)
def dMul : D → D → Option D
  | .at (.int a), .at (.int b) => if mulOk a b then some (.int (a * b)) else none
  | _, _ => none
def dRep : D → D → Option D
  | .nd .lst xs, .at (.int k) => if k < 2 ^ 62 ∧ -(2 ^ 62) < k ∧ xs.length * k.toNat ≤ szLim then some (.lst (List.replicate k.toNat xs).flatten) else none
  | _, _ => none
def dFdiv : D → D → Option D
  | .at (.int a), .at (.int b) => if 0 < b ∧ b.natAbs.log2 < 9000 then some (.int (a / b)) else none
  | _, _ => none
def dMod : D → D → Option D
  | .at (.int a), .at (.int b) => if 0 < b then some (.int (a % b)) else none
  | _, _ => none
def dPow : D → D → Option D
  | .at (.int a), .at (.int b) => if 0 ≤ b ∧ b ≤ 1000000 ∧ a.natAbs < 2 ^ 64 then some (.int (a ^ b.toNat)) else none
  | _, _ => none
def dShl : D → D → Option D
  | .at (.int a), .at (.int b) => if 0 ≤ b ∧ b ≤ 1000000 ∧ a.natAbs < 2 ^ 64 then some (.int (a * 2 ^ b.toNat)) else none
  | _, _ => none
def dShr : D → D → Option D
  | .at (.int a), .at (.int b) => if 0 ≤ b then some (.int (a / 2 ^ b.toNat)) else none
  | _, _ => none
def dBand : D → D → Option D
  | .at (.int a), .at (.int b) => some (.int (Builtin.bitAnd a b))
  | _, _ => none
def dNeg : D → Option D
  | .at (.int a) => some (.int (-a))
  | _ => none
/-- two lists of other lengths -/
def dLens : D → D → Option Bool
  | .nd .lst xs, .nd .lst ys => if xs.length ≠ ys.length then some false else none
  | _, _ => none
def dEq : D → D → Option Bool
  | .at (.str x), .at (.str y) => some (x == y)
  | a, b => if eqOk 190 a && eqOk 190 b then some (deq a b) else dLens a b
def dCmp (f : Int → Int → Bool) : D → D → Option D
  | .at (.int a), .at (.int b) => some (.bl (f a b))
  | _, _ => none
def keyOf : D → Option Key
  | .at (.int i) => some (.inl i)
  | .at (.str x) => some (.inr x)
  | _ => none
def keysOf : List D → Option (List Key)
  | [] => some []
  | d :: ds => (keyOf d).bind fun k => (keysOf ds).map (k :: ·)
def lookK {κ : Type} [DecidableEq κ] : List κ → List D → κ → Option D
  | k :: ks, v :: vs, x => if k = x then some v else lookK ks vs x
  | _, _, _ => none
/-- what a dict has under a key -/
def dLook : D → D → Option (Option D)
  | .nd (.dK ks) vs, k => (keyOf k).map fun k => lookK ks vs k
  | .nd (.dT ks) vs, .nd .tup es => (keysOf es).map fun k => lookK ks vs k
  | _, _ => none
def dIn : D → D → Option Bool
  | .at (.str x), .at (.str y) => some (!(Builtin.Str.occurrences y x 0 y.length 1).isEmpty)
  | a, .nd .lst ys => if flatD a && ys.all flatD then some (ys.any fun y => deq y a) else if eqOk 60 a && eqOks 60 ys then some (ys.any fun y => deq y a) else none
  | a, .nd .tup ys => if flatD a && ys.all flatD then some (ys.any fun y => deq y a) else none
  | a, .nd .ktup ys => if flatD a && ys.all flatD then some (ys.any fun y => deq y a) else none
  | a, d => (dLook d a).map Option.isSome
def dIx : D → D → Option D
  | .nd .lst xs, .at (.int i) => atI xs i
  | .nd .tup xs, .at (.int i) => atI xs i
  | .nd .ktup xs, .at (.int i) => atI xs i
  | .at (.str z), .at (.int i) => if z.length ≤ szLim then (atI z.cps.toList i).map fun c => .str ⟨#[c]⟩ else none
  | .nd (.dK ks) vs, k => (dLook (.nd (.dK ks) vs) k).join
  | .nd (.dT ks) vs, k => (dLook (.nd (.dT ks) vs) k).join
  | _, _ => none
def cutD (xs : List D) (lo hi : Option Int) : List D := (xs.drop (HT.sIx xs.length 0 lo)).take (HT.sIx xs.length xs.length hi - HT.sIx xs.length 0 lo)
def bnd : D → Option (Option Int)
  | .at (.int i) => some (some i)
  | _ => none
def dSl : D → Option Int → Option Int → Option D
  | .nd .lst xs, lo, hi => some (.lst (cutD xs lo hi))
  | .nd .tup xs, lo, hi => if (cutD xs lo hi).length < xs.length then some (.tup (cutD xs lo hi)) else none
  | .at (.str z), lo, hi => if z.length ≤ szLim then some (.str (cutS z lo hi)) else none
  | _, _, _ => none
def dLen : D → Option D
  | .nd .lst xs => some (.int xs.length)
  | .nd .tup xs => some (.int xs.length)
  | .nd .ktup xs => some (.int xs.length)
  | .nd (.dK ks) _ => some (.int ks.length)
  | .at (.str z) => if z.length ≤ szLim then some (.int z.length) else none
  | _ => none
def intsOf : List D → Option (List Int)
  | [] => some []
  | .at (.int i) :: ds => (intsOf ds).map (i :: ·)
  | _ => none
def blsOf : List D → Option (List Bool)
  | [] => some []
  | .at (.bl i) :: ds => (blsOf ds).map (i :: ·)
  | _ => none
def tyD : D → Ty → Option Bool
  | .at .non, _ => some false
  | .at (.bl _), t => some (t == .bool || t == .int)
  | .at (.int _), t => some (t == .int)
  | .at (.str _), t => some (t == .str)
  | .nd .lst _, t => some (t == .list)
  | .nd .tup _, t => some (t == .tuple)
  | _, _ => none
def onInts (f : List Int → Option Int) : D → Option D
  | .nd .lst xs => (intsOf xs).bind fun ns => (f ns).map D.int
  | _ => none
def onBls (f : List Bool → Bool) : D → Option D
  | .nd .lst xs => (blsOf xs).map fun bs => .bl (f bs)
  | _ => none
def rngInts : List D → Option (List Int)
  | [.at (.int n)] => if -(2 ^ 62) ≤ n ∧ n < 2 ^ 62 then some ((List.range n.toNat).map fun (k : Nat) => (k : Int)) else none
  | [.at (.int a), .at (.int b)] => if -(2 ^ 62) ≤ a ∧ a < 2 ^ 62 ∧ -(2 ^ 62) ≤ b ∧ b < 2 ^ 62 then some ((List.range (b - a).toNat).map fun (k : Nat) => a + (k : Int)) else none
  | _ => none
/-- each once -/
def onceI : List Int → List Int
  | [] => []
  | x :: xs => if x ∈ xs then onceI xs else x :: onceI xs
def ssetI (ns : List Int) : List Int := (onceI ns).mergeSort (fun a b => decide (a ≤ b))
def pairOf : D → Option (Int × Int)
  | .nd .tup [.at (.int i), .at (.int j)] => some (i, j)
  | _ => none
def pairsOf : List D → Option (List (Int × Int))
  | [] => some []
  | d :: ds => (pairOf d).bind fun p => (pairsOf ds).map (p :: ·)
def pairD (p : Int × Int) : D := .tup [.int p.1, .int p.2]
def lexB (p q : Int × Int) : Bool := decide (p.1 < q.1) || (decide (p.1 = q.1) && decide (p.2 ≤ q.2))
def dSorted (xs : List D) : Option D := match intsOf xs with
  | some ns => some (.lst ((ns.mergeSort (fun a b => decide (a ≤ b))).map D.int))
  | none => (pairsOf xs).map fun ps => .lst ((ps.mergeSort lexB).map pairD)
/-- keys that are pairs of ints -/
def kpairsOf : List (List Key) → Option (List (Int × Int))
  | [] => some []
  | [.inl i, .inl j] :: ks => (kpairsOf ks).map ((i, j) :: ·)
  | _ => none
def kintsOf : List Key → Option (List Int)
  | [] => some []
  | .inl i :: ks => (kintsOf ks).map (i :: ·)
  | _ => none
def keyD : Key → D
  | .inl i => .int i
  | .inr x => .str x
def opSem : Op → List D → Option D
  | .add, [a, b] => dAdd a b
  | .sub, [a, b] => dSub a b
  | .mul, [a, b] => dMul a b
  | .rep, [a, b] => dRep a b
  | .fdiv, [a, b] => dFdiv a b
  | .mod, [a, b] => dMod a b
  | .pow, [a, b] => dPow a b
  | .shl, [a, b] => dShl a b
  | .shr, [a, b] => dShr a b
  | .band, [a, b] => dBand a b
  | .neg, [a] => dNeg a
  | .eq, [a, b] => (dEq a b).map .bl
  | .ne, [a, b] => (dEq a b).map fun c => .bl (!c)
  | .lt, [a, b] => dCmp (fun i j => decide (i < j)) a b
  | .le, [a, b] => dCmp (fun i j => decide (i ≤ j)) a b
  | .gt, [a, b] => dCmp (fun i j => decide (j < i)) a b
  | .ge, [a, b] => dCmp (fun i j => decide (j ≤ i)) a b
  | .isN, [a] => some (.bl (match a with | .at .non => true | _ => false))
  | .notN, [a] => some (.bl (match a with | .at .non => false | _ => true))
  | .inn, [a, b] => (dIn a b).map .bl
  | .isb, [.at (.bl a), .at (.bl b)] => some (.bl (decide (a = b)))
  | .notIn, [a, b] => (dIn a b).map fun c => .bl (!c)
  | .ix, [a, b] => dIx a b
  | .sl true true, [a, b, c] => (bnd b).bind fun l => (bnd c).bind fun h => dSl a l h
  | .sl true false, [a, b] => (bnd b).bind fun l => dSl a l none
  | .sl false true, [a, c] => (bnd c).bind fun h => dSl a none h
  | .sl false false, [a] => dSl a none none
  | .len, [a] => dLen a
  | .abs, [.at (.int i)] => some (.int (if i < 0 then -i else i))
  | .max2, [.at (.int i), .at (.int j)] => some (.int (if j > i then j else i))
  | .min2, [.at (.int i), .at (.int j)] => some (.int (if j < i then j else i))
  | .max1, [a] => onInts (fun ns => ns.max?) a
  | .min1, [a] => onInts (fun ns => ns.min?) a
  | .sum, [a] => onInts (fun ns => some ns.sum) a
  | .all, [a] => onBls (fun bs => bs.all id) a
  | .any, [a] => onBls (fun bs => bs.any id) a
  | .int1, [.at (.int i)] => some (.int i)
  | .int1, [.at (.bl b)] => some (.int (if b then 1 else 0))
  | .list1, [.nd .lst xs] => some (.lst xs)
  | .list1, [.nd .tup xs] => some (.lst xs)
  | .list1, [.nd .ktup xs] => some (.lst xs)
  | .tuple1, [.nd .lst xs] => some (.tup xs)
  | .tuple1, [.nd .tup xs] => some (.tup xs)
  | .sorted1, [.nd .lst xs] => dSorted xs
  | .sorted1, [.nd (.dT ks) _] => (kpairsOf ks).map fun ps => .lst ((ps.mergeSort lexB).map pairD)
  | .sorted1, [.nd (.dK ks) _] => (kintsOf ks).bind fun ns => if ns.length < 64 then some (.lst ((ns.mergeSort (fun a b => decide (a ≤ b))).map D.int)) else none
  | .dict1, [.nd (.dK ks) xs] => some (.nd (.dK ks) xs)
  | .list1, [.nd (.dK ks) _] => some (.lst (ks.map keyD))
  | .revl, [.nd .lst xs] => some (.lst xs.reverse)
  | .lrng, ds => (rngInts ds).bind fun ns => if ns.length ≤ szLim then some (.lst (ns.map D.int)) else none
  | .dvm, [.at (.int a), .at (.int b)] => if 0 < b ∧ b.natAbs.log2 < 9000 then some (.tup [.int (a / b), .int (a % b)]) else none
  | .sset, [.nd .lst xs] => (intsOf xs).bind fun ns => if ns.length < 64 then some (.lst ((ssetI ns).map D.int)) else none
  | .isi t, [a] => (tyD a t).map .bl
  | .get1, [a, k] => (dLook a k).map fun o => o.getD .non
  | .get2, [a, k, .at x] => (dLook a k).map fun o => o.getD (.at x)
  | _, _ => none
/-- may the result share what lies in the operands -/
def Op.flow : Op → Bool
  | .add | .rep | .ix | .sl _ _ | .list1 | .tuple1 | .get1 | .get2 | .dict1 | .revl | .sorted1 => true
  | _ => false
/-- is a list that comes out new -/
def Op.fresh : Op → Bool
  | .ix | .get1 | .get2 => false
  | _ => true
def Op.tag (o : Op) (fz : Bool) (d : D) : Val := match d with
  | .at a => ⟨.no, false, .at a⟩
  | .nd .tup xs => ⟨.no, o.flow && fz, .nd .tup xs⟩
  | .nd t xs => ⟨if o.fresh then .top else .no, o.flow && fz, .nd t xs⟩
def anyDeep (xs : List Val) : Bool := xs.any fun x => decide (x.ow = .deep)
/-- what the first operand must own itself -/
def repOk (o : Op) (xs : List Val) : Bool := if o = .rep then (match xs with | x :: _ => decide (x.ow = .top) | [] => false) else true
def opVal (o : Op) (xs : List Val) : Option Val :=
  if (o.flow && anyDeep xs) || !repOk o xs then none else (opSem o (xs.map (·.d))).map (o.tag (anyFz xs))

inductive Kind where
  | bin (op : Operator) | cmp (op : CmpOp) | blt (x id : String) (n : Nat) | bty (x T : String) | ngt | isn | isnt | ixx | rvl | lrg | sst | slc (lo hi : Bool) | ist (t : Ty) | meth (m id : String) (n : Nat)
def Op.kind : Op → Kind
  | .add => .bin .Add | .sub => .bin .Sub | .mul => .bin .Mult | .rep => .bin .Mult | .fdiv => .bin .FloorDiv | .mod => .bin .Mod | .pow => .bin .Pow | .shl => .bin .LShift | .shr => .bin .RShift | .band => .bin .BitAnd
  | .neg => .ngt
  | .eq => .cmp .Eq | .ne => .cmp .NotEq | .lt => .cmp .Lt | .le => .cmp .LtE | .gt => .cmp .Gt | .ge => .cmp .GtE | .inn => .cmp .In | .notIn => .cmp .NotIn | .isb => .cmp .Is
  | .isN => .isn | .notN => .isnt
  | .ix => .ixx | .sl a b => .slc a b
  | .len => .blt "len" "len" 1 | .abs => .blt "abs" "abs" 1 | .max2 => .blt "max" "max" 2 | .min2 => .blt "min" "min" 2 | .max1 => .blt "max" "max" 1 | .min1 => .blt "min" "min" 1
  | .sum => .blt "sum" "sum" 1 | .all => .blt "all" "all" 1 | .any => .blt "any" "any" 1 | .sorted1 => .blt "sorted" "sorted" 1
  | .int1 => .bty "int" "int" | .list1 => .bty "list" "list" | .tuple1 => .bty "tuple" "tuple"
  | .isi t => .ist t
  | .dict1 => .bty "dict" "dict" | .revl => .rvl | .lrng => .lrg | .dvm => .blt "divmod" "divmod" 2 | .sset => .sst
  | .get1 => .meth "get" "dict.get" 1 | .get2 => .meth "get" "dict.get" 2
def tyName : Ty → String
  | .bool => "bool" | .int => "int" | .str => "str" | .list => "list" | .tuple => "tuple"
def noSlice : Expr → Bool
  | .Slice _ _ _ _ => false
  | _ => true
def noSet : Expr → Bool
  | .Set _ _ _ => false
  | _ => true
/-- not a call without arguments -/
def noCall0 : Expr → Bool
  | .Call _ [] [] _ => false
  | _ => true
/-- the operands of an expression, the built-in names that stand in it -/
def opMat (o : Op) (e : Expr) : Option (List Expr × List Str) := match o.kind with
  | .bin op => match e with
    | .BinOp a op' b _ => if op' = op then some ([a, b], []) else none
    | _ => none
  | .cmp op => match e with
    | .Compare a [op'] [b] _ => if op' = op ∧ noSet b = true then some ([a, b], []) else none
    | _ => none
  | .ngt => match e with
    | .UnaryOp .USub a _ => some ([a], [])
    | _ => none
  | .isn => match e with
    | .Compare a [.Is] [.Constant .none _ _] _ => some ([a], [])
    | _ => none
  | .isnt => match e with
    | .Compare a [.IsNot] [.Constant .none _ _] _ => some ([a], [])
    | _ => none
  | .ixx => match e with
    | .Subscript a b _ => if noSlice b = true then some ([a, b], []) else none
    | _ => none
  | .slc true true => match e with
    | .Subscript a (.Slice (some b) (some c) none _) _ => some ([a, b, c], [])
    | _ => none
  | .slc true false => match e with
    | .Subscript a (.Slice (some b) none none _) _ => some ([a, b], [])
    | _ => none
  | .slc false true => match e with
    | .Subscript a (.Slice none (some c) none _) _ => some ([a, c], [])
    | _ => none
  | .slc false false => match e with
    | .Subscript a (.Slice none none none _) _ => some ([a], [])
    | _ => none
  | .blt x _ n => match e with
    | .Call (.Name y _) es [] _ => if y = (x : Str) ∧ es.length = n then some (es, [y]) else none
    | _ => none
  | .bty x _ => match e with
    | .Call (.Name y _) [a] [] _ => if y = (x : Str) then some ([a], [y]) else none
    | _ => none
  | .ist t => match e with
    | .Call (.Name y _) [a, .Name z _] [] _ => if y = ("isinstance" : Str) ∧ z = (tyName t : Str) then some ([a], [y, z]) else none
    | _ => none
  | .rvl => match e with
    | .Subscript a (.Slice none none (some (.UnaryOp .USub (.Constant (.int 1) _ _) _)) _) _ => some ([a], [])
    | .Call (.Name x _) [.Call (.Name y _) [a] [] _] [] _ => if x = ("list" : Str) ∧ y = ("reversed" : Str) then some ([a], [x, y]) else none
    | _ => none
  | .lrg => match e with
    | .Call (.Name x _) [.Call (.Name y _) es [] _] [] _ => if x = ("list" : Str) ∧ y = ("range" : Str) ∧ (es.length = 1 ∨ es.length = 2) then some (es, [x, y]) else none
    | _ => none
  | .sst => none
  | .meth _ _ _ => none

/-! ### what is written to: a list's, a dict's methods and stores -/
inductive MOp where
  | append | extend | pop | popAt | clear | setIx | setDef
  deriving DecidableEq

/-! ### the small language -/
inductive Tgt where
  | one (i : Nat) | many (is : List Nat)
mutual
inductive IE where
  | var (i : Nat) | mv (i : Nat) | io (i : Nat) | cst (a : At) | glob (g : Nat)
  | op (o : Op) (es : IEs)
  | and (a b : IE) | or (a b : IE) | not (a : IE) | ite (c a b : IE) | chain (o1 o2 : Op) (a b c : IE)
  | tup (es : IEs) | lst (es : IEs)
  | call (f : Nat) (es : IEs)
  | comp (e : IE) (t : Tgt) (it : Itr) (c : IEs) (kill : List Nat)
  | mut (m : MOp) (i : Nat) (es : IEs)
  | dget (i : Nat) (es : IEs) | sdf (i : Nat) (es : IEs)
  | dK0 | dT0
  | imm (e : IE) | lent (e : IE)
inductive IEs where
  | nil | cons (e : IE) (es : IEs)
inductive Itr where
  | seq (e : IE) | str (e : IE) | rng (es : IEs) | enum (e : IE) | zip (a b : IE) | rev (e : IE)
end
/-- what a list is given that lies one layer down -/
inductive MA where
  | cst (a : At) | var (j : Nat)
mutual
inductive IS where
  | asg (i : Nat) (e : IE)
  | asgT (is : List Nat) (e : IE)
  | par (i j : Nat) (a b : IE)
  | aug (i : Nat) (o : Op) (e : IE)
  | setIx (i : Nat) (k e : IE)
  | augIx (i : Nat) (o : Op) (k e : IE)
  | mutAt (i : Nat) (k : IE) (m : MOp) (a : Option MA)
  | expr (e : IE)
  | ifs (c : IE) (a b : ISs)
  | whl (c : IE) (b : ISs) (kill : List Nat)
  | fr (t : Tgt) (it : Itr) (b : ISs) (kill : List Nat)
  | ret (e : IE) | retN
  | rais (c : Nat)
  | tr (b : ISs) (c : Nat) (h : ISs)
  | brk | cnt | pas
  | frz (i : Nat)
inductive ISs where
  | nil | cons (s : IS) (ss : ISs)
end

/-! ### what it does -/
inductive R (α : Type) where
  | bad | exc (c : Nat) (Γ : Gam) | ok (a : α) (Γ : Gam)
def R.bind {α β : Type} (m : R α) (f : α → Gam → R β) : R β := match m with
  | .bad => .bad
  | .exc c Γ => .exc c Γ
  | .ok a Γ => f a Γ
inductive CR where
  | bad | exc (c : Nat) | ok (x : Val) (outs : Gam)
structure Ctx where
  call : Nat → List Nat → List Val → CR
  glob : Nat → D
  io : List Nat
  fuel : Nat
def opt {α : Type} (o : Option α) (Γ : Gam) : R α := match o with
  | some a => .ok a Γ
  | none => .bad
def opdOf (e : IE) (Γ : Gam) (r : R Val) : R Opd := match e with
  | .var i => if (slotG Γ i).isSome then .ok (.b i) Γ else .bad
  | .io i => if (slotG Γ i).isSome then .ok (.m i) Γ else .bad
  | _ => r.bind fun x Γ' => .ok (.v x) Γ'
def boolV (x : Val) : Option Bool := match x.d with
  | .at (.bl b) => some b
  | _ => none
def getD1 (Γ : Gam) : Opd → Option Val
  | .v x => some x
  | .b i => slotG Γ i
  | .m _ => none
def posM : Nat → List Opd → List Nat
  | _, [] => []
  | j, .m _ :: os => j :: posM (j + 1) os
  | j, _ :: os => posM (j + 1) os
def lendI (Γ : Gam) (i : Nat) : Gam := match slotG Γ i with
  | some x => if x.ow = .no then Γ else Γ.set i (some (lend x))
  | none => Γ
def lendAll (Γ : Gam) : List Nat → Gam
  | [] => Γ
  | i :: is => lendAll (lendI Γ i) is
def killG (Γ : Gam) : List Nat → Gam
  | [] => Γ
  | i :: is => killG (Γ.set i none) is
def childV (fz : Bool) (d : D) : Val := match d with
  | .at a => ⟨.no, false, .at a⟩
  | .nd t xs => ⟨.no, fz, .nd t xs⟩
def kidsD : D → Option (List D)
  | .nd .lst xs => some xs
  | .nd .tup xs => some xs
  | .nd .ktup xs => some xs
  | _ => none
def strKids (z : Str) : List Val := z.cps.toList.map fun c => ⟨.no, false, .str ⟨#[c]⟩⟩
def setTgt (C : Ctx) (t : Tgt) (x : Val) (Γ : Gam) : R Unit := match t with
  | .one i => if i ∈ C.io then .bad else if i < Γ.length then .ok () (Γ.set i (some x)) else .bad
  | .many is => match x.ow, x.d with
    | .no, .nd .tup ds => if ds.length = is.length then go C x.fz is ds Γ else .bad
    | .no, .nd .lst ds => if ds.length = is.length then go C x.fz is ds Γ else .bad
    | _, _ => .bad
where go (C : Ctx) (fz : Bool) : List Nat → List D → Gam → R Unit
  | i :: is, d :: ds, Γ => if i ∈ C.io then .bad else if i < Γ.length then go C fz is ds (Γ.set i (some (childV fz d))) else .bad
  | _, _, Γ => .ok () Γ
/-- a list's item popped: what is left, the item's ownership -/
def itemV (x : Val) (d : D) : Val := match d with
  | .at a => ⟨.no, false, .at a⟩
  | .nd t xs => ⟨.no, x.fz || decide (x.ow = .deep), .nd t xs⟩
/-- what a dict is when a key gets a value -/
def putKs {κ : Type} [DecidableEq κ] (ks : List κ) (vs : List D) (k : κ) (d : D) : List κ × List D :=
  if k ∈ ks then (ks, (ks.zip vs).map fun p => if p.1 = k then d else p.2) else (ks ++ [k], vs ++ [d])
def putD {κ : Type} [DecidableEq κ] (x y : Val) (ks : List κ) (ds : List D) (k : Option κ) (mk : List κ → NT) : Option (Val × Val) := match k with
  | some k => if x.ow = .top ∧ y.ow = .no ∧ ks.length = ds.length ∧ ds.length < szLim then some (⟨.no, false, .non⟩, ⟨.top, x.fz || y.fz, .nd (mk (putKs ks ds k y.d).1) (putKs ks ds k y.d).2⟩) else none
  | none => none
def joinOw (a b : Ow) : Ow := if b = .no then a else .deep
/-- a method on x with the values ys: what it gives, what x is then -/
def mutV : MOp → Val → List Val → Option (Val × Val)
  | .append, x, [y] => match x.d with
    | .nd .lst ds => if ds.length < szLim then some (⟨.no, false, .non⟩, ⟨joinOw x.ow y.ow, x.fz || y.fz, .lst (ds ++ [y.d])⟩) else none
    | _ => none
  | .pop, x, [] => match x.d with
    | .nd .lst ds => ds.getLast?.map fun d => (itemV x d, ⟨x.ow, x.fz, .lst ds.dropLast⟩)
    | _ => none
  | .clear, x, [] => match x.d with
    | .nd .lst ds => some (⟨.no, false, .non⟩, ⟨x.ow, x.fz, .lst []⟩)
    | _ => none
  | .setIx, x, [y, k] => match x.d, k.d with
    | .nd .lst ds, .at (.int i) => (ixN ds.length i).map fun j => (⟨.no, false, .non⟩, ⟨joinOw x.ow y.ow, x.fz || y.fz, .lst (ds.set j y.d)⟩)
    | .nd (.dK ks) ds, k => putD x y ks ds (keyOf k) .dK
    | .nd (.dT ks) ds, .nd .tup es => putD x y ks ds (keysOf es) .dT
    | _, _ => none
  | .extend, x, [y] => match x.d, y.d with
    | .nd .lst ds, .nd .lst es => if ds.length + es.length ≤ szLim ∧ y.ow ≠ .no then some (⟨.no, false, .non⟩, ⟨if y.ow = .deep then .deep else x.ow, x.fz || y.fz, .lst (ds ++ es)⟩) else none
    | _, _ => none
  | _, _, _ => none
def compL (body : Val → Gam → R (Option Val)) (kill : Gam → Gam) : List Val → Gam → R (List Val)
  | [], Γ => .ok [] Γ
  | x :: xs, Γ => match body x Γ with
    | .ok y Γ' => match compL body kill xs (kill Γ') with
      | .ok ys Γ'' => .ok (match y with | some y => y :: ys | none => ys) Γ''
      | _ => .bad
    | _ => .bad
def lstAt (Γ : Gam) (i : Nat) : Bool := match slotG Γ i with
  | some x => (match x.d with
    | .nd .lst _ => true
    | _ => false)
  | none => false
def conAt (Γ : Gam) (i : Nat) : Bool := match slotG Γ i with
  | some x => (match x.d with
    | .nd .lst _ => true
    | .nd (.dK _) _ => true
    | .nd (.dT _) _ => true
    | _ => false)
  | none => false
def dctAt (Γ : Gam) (i : Nat) : Bool := match slotG Γ i with
  | some x => (match x.d with
    | .nd (.dK _) _ => true
    | .nd (.dT _) _ => true
    | _ => false)
  | none => false
/-- d.setdefault(k, y) on x: what it gives, what x is then -/
def sdfV (x : Val) : List Val → Option (Val × Val)
  | [k, y] => match x.d, keyOf k.d with
    | .nd (.dK ks) ds, some key => if x.ow = .top ∧ y.ow = .no ∧ ks.length = ds.length ∧ ds.length < szLim then (match lookK ks ds key, y.d with
        | some (.at a), .at _ => some (⟨.no, false, .at a⟩, x)
        | none, .at a => some (⟨.no, false, .at a⟩, ⟨.top, x.fz, .nd (.dK (putKs ks ds key y.d).1) (putKs ks ds key y.d).2⟩)
        | _, _ => none) else none
    | _, _ => none
  | _ => none
mutual
def evE (C : Ctx) : IE → Gam → R Val
  | .var i, Γ => match slotG Γ i with
    | none => .bad
    | some x => .ok (lend x) (lendI Γ i)
  | .mv i, Γ => match slotG Γ i with
    | none => .bad
    | some x => .ok x (Γ.set i none)
  | .io _, _ => .bad
  | .cst a, Γ => .ok ⟨.no, false, .at a⟩ Γ
  | .glob g, Γ => .ok ⟨.no, false, C.glob g⟩ Γ
  | .op o es, Γ => (evOs C es Γ).bind fun os Γ' => if idxM os = [] then opt ((getO Γ' os).bind (opVal o)) Γ' else .bad
  | .and a b, Γ => (opdOf a Γ (evE C a Γ)).bind fun o Γ' => match (getD1 Γ' o).bind boolV with
    | some true => evE C b Γ'
    | some false => .ok ⟨.no, false, .bl false⟩ Γ'
    | none => .bad
  | .or a b, Γ => (opdOf a Γ (evE C a Γ)).bind fun o Γ' => match (getD1 Γ' o).bind boolV with
    | some true => .ok ⟨.no, false, .bl true⟩ Γ'
    | some false => evE C b Γ'
    | none => .bad
  | .not a, Γ => (opdOf a Γ (evE C a Γ)).bind fun o Γ' => match (getD1 Γ' o).bind boolV with
    | some b => .ok ⟨.no, false, .bl (!b)⟩ Γ'
    | none => .bad
  | .ite c a b, Γ => (opdOf c Γ (evE C c Γ)).bind fun o Γ' => match (getD1 Γ' o).bind boolV with
    | some true => evE C a Γ'
    | some false => evE C b Γ'
    | none => .bad
  | .chain o1 o2 a b c, Γ => (opdOf a Γ (evE C a Γ)).bind fun oa Γ1 => (opdOf b Γ1 (evE C b Γ1)).bind fun ob Γ2 => match getD1 Γ2 oa, getD1 Γ2 ob with
    | some x, some y => match (opVal o1 [x, y]).bind boolV with
      | some false => .ok ⟨.no, false, .bl false⟩ Γ2
      | some true => (opdOf c Γ2 (evE C c Γ2)).bind fun oc Γ3 => match getD1 Γ3 ob, getD1 Γ3 oc with
        | some y, some z => opt (opVal o2 [y, z]) Γ3
        | _, _ => .bad
      | none => .bad
    | _, _ => .bad
  | .tup es, Γ => (evEs C es Γ).bind fun xs Γ' => if xs.length ≤ szLim then .ok (mkT xs) Γ' else .bad
  | .lst es, Γ => (evEs C es Γ).bind fun xs Γ' => if xs.length ≤ szLim then .ok (mkL xs) Γ' else .bad
  | .call f es, Γ => (evOs C es Γ).bind fun os Γ' => match argO Γ' os with
    | none => .bad
    | some xs => if (idxM os).Nodup ∧ ∀ i ∈ idxM os, i ∉ idxB os then match C.call f (posM 0 os) xs with
      | .bad => .bad
      | .exc c => .exc c (if idxM os = [] then Γ' else retG Γ' os [])
      | .ok x outs => .ok x (if idxM os = [] then (if x.fz then lendAll Γ' (idxB os) else Γ') else
          retG (if x.fz || outs.any (fun o => match o with | some y => y.fz | none => false) then lendAll Γ' (idxB os) else Γ') os outs)
      else .bad
  | .comp e t it c kl, Γ => (evI C it Γ).bind fun items Γ1 => if items.length < szLim ∧ kl.all (fun i => !C.io.contains i) = true then
      (compL (fun x Γ => (setTgt C t x Γ).bind fun _ Γ => (evCs C c Γ).bind fun b Γ => if b then (evE C e Γ).bind fun y Γ => .ok (some y) Γ else .ok none Γ)
        (fun Γ => killG Γ kl) items (killG Γ1 kl)).bind fun ys Γ2 => .ok (mkL ys) Γ2
      else .bad
  | .mut m i es, Γ => if lstAt Γ i then (evEs C es Γ).bind fun ys Γ' => match slotG Γ' i with
    | some x => if x.ow = .no then .bad else match mutV m x ys with
      | some (r, x') => .ok r (Γ'.set i (some x'))
      | none => .bad
    | none => .bad
    else .bad
  | .dget i es, Γ => if dctAt Γ i then (evOs C es Γ).bind fun os Γ' => if idxM os = [] then opt ((getO Γ' (.b i :: os)).bind (opVal (if os.length = 1 then .get1 else .get2))) Γ' else .bad
    else .bad
  | .sdf i es, Γ => if dctAt Γ i then (evEs C es Γ).bind fun ys Γ' => match slotG Γ' i with
    | some x => match sdfV x ys with
      | some (r, x') => .ok r (Γ'.set i (some x'))
      | none => .bad
    | none => .bad
    else .bad
  | .dK0, Γ => .ok ⟨.top, false, .nd (.dK []) []⟩ Γ
  | .dT0, Γ => .ok ⟨.top, false, .nd (.dT []) []⟩ Γ
  | .imm e, Γ => (evE C e Γ).bind fun x Γ' => if imm x.d then .ok ⟨.no, false, x.d⟩ Γ' else .bad
  | .lent e, Γ => (evE C e Γ).bind fun x Γ' => .ok (lend x) Γ'
def evEs (C : Ctx) : IEs → Gam → R (List Val)
  | .nil, Γ => .ok [] Γ
  | .cons e es, Γ => (evE C e Γ).bind fun x Γ1 => (evEs C es Γ1).bind fun xs Γ2 => .ok (x :: xs) Γ2
def evOs (C : Ctx) : IEs → Gam → R (List Opd)
  | .nil, Γ => .ok [] Γ
  | .cons e es, Γ => (opdOf e Γ (evE C e Γ)).bind fun x Γ1 => (evOs C es Γ1).bind fun xs Γ2 => .ok (x :: xs) Γ2
/-- a comprehension's tests -/
def evCs (C : Ctx) : IEs → Gam → R Bool
  | .nil, Γ => .ok true Γ
  | .cons e es, Γ => (opdOf e Γ (evE C e Γ)).bind fun o Γ1 => match (getD1 Γ1 o).bind boolV with
    | some b => .ok b Γ1
    | none => .bad
def evI (C : Ctx) : Itr → Gam → R (List Val)
  | .seq e, Γ => (evE C e Γ).bind fun x Γ' => match kidsD x.d with
    | some ds => .ok (ds.map (childV (lend x).fz)) Γ'
    | none => .bad
  | .str e, Γ => (evE C e Γ).bind fun x Γ' => match x.d with
    | .at (.str z) => .ok (strKids z) Γ'
    | _ => .bad
  | .rng es, Γ => (evOs C es Γ).bind fun os Γ' => if idxM os = [] then match (getO Γ' os).bind fun xs => rngInts (xs.map (·.d)) with
    | some ns => .ok (ns.map fun n => ⟨.no, false, .int n⟩) Γ'
    | none => .bad
    else .bad
  | .enum e, Γ => (evE C e Γ).bind fun x Γ' => match x.d with
    | .nd .lst ds => .ok (ds.mapIdx fun k d => ⟨.no, (lend x).fz, .tup [.int (k : Nat), d]⟩) Γ'
    | _ => .bad
  | .zip a b, Γ => (evE C a Γ).bind fun x Γ1 => (evE C b Γ1).bind fun y Γ2 => match x.d, y.d with
    | .nd .lst ds, .nd .lst es => .ok ((ds.zip es).map fun p => ⟨.no, (lend x).fz || (lend y).fz, .tup [p.1, p.2]⟩) Γ2
    | _, _ => .bad
  | .rev e, Γ => (evE C e Γ).bind fun x Γ' => match x.d with
    | .nd .lst ds => .ok (ds.reverse.map (childV (lend x).fz)) Γ'
    | _ => .bad
end
end Px
namespace Px
open PySem L2

inductive Fl where
  | nx | bk | ct | rt (x : Val)
def forL (body : Val → Gam → R Fl) (kill : Gam → Gam) : List Val → Gam → R Fl
  | [], Γ => .ok .nx (kill Γ)
  | x :: xs, Γ => match body x Γ with
    | .ok .nx Γ' => forL body kill xs (kill Γ')
    | .ok .ct Γ' => forL body kill xs (kill Γ')
    | .ok .bk Γ' => .ok .nx (kill Γ')
    | .ok (.rt y) Γ' => .ok (.rt y) Γ'
    | .exc c Γ' => .exc c Γ'
    | .bad => .bad
def whlL (test : Gam → R Bool) (body : Gam → R Fl) (kill : Gam → Gam) : Nat → Gam → R Fl
  | 0, _ => .bad
  | n + 1, Γ => match test Γ with
    | .ok true Γ1 => match body Γ1 with
      | .ok .nx Γ' => whlL test body kill n (kill Γ')
      | .ok .ct Γ' => whlL test body kill n (kill Γ')
      | .ok .bk Γ' => .ok .nx (kill Γ')
      | .ok (.rt y) Γ' => .ok (.rt y) Γ'
      | .exc c Γ' => .exc c Γ'
      | .bad => .bad
    | .ok false Γ1 => .ok .nx (kill Γ1)
    | .exc c Γ' => .exc c Γ'
    | .bad => .bad
def evT (C : Ctx) (e : IE) (Γ : Gam) : R Bool := (opdOf e Γ (evE C e Γ)).bind fun o Γ1 => match (getD1 Γ1 o).bind boolV with
  | some b => .ok b Γ1
  | none => .bad
/-- an int in a list, by its place -/
def augG (x k : Val) : Option (Int × Int) := match x.d, k.d with
  | .nd .lst ds, .at (.int n) => match atI ds n with
    | some (.at (.int a)) => if x.ow = .deep then none else some (n, a)
    | _ => none
  | _, _ => none
def augOk : Op → Bool
  | .add => true | .sub => true | _ => false
/-! ### a list that lies one layer down is written -/
def aoG (Γ : Gam) : MA → Option At
  | .cst a => some a
  | .var j => match slotG Γ j with
    | some ⟨_, _, .at a⟩ => some a
    | _ => none
def aosG (Γ : Gam) : Option MA → Option (Option At)
  | none => some none
  | some o => (aoG Γ o).map some
def mutC : MOp → List D → Option At → Option (List D)
  | .clear, _, none => some []
  | .append, cs, some a => if cs.length < szLim then some (cs ++ [.at a]) else none
  | _, _, _ => none
def mutAtD (m : MOp) (d k : D) (a : Option At) : Option D := match d, k with
  | .nd .lst ds, .at (.int n) => (ixN ds.length n).bind fun j => match ds[j]? with
    | some (.nd .lst cs) => (mutC m cs a).map fun cs' => .nd .lst (ds.set j (.nd .lst cs'))
    | _ => none
  | .nd .tup ds, .at (.int n) => (ixN ds.length n).bind fun j => match ds[j]? with
    | some (.nd .lst cs) => (mutC m cs a).map fun cs' => .nd .tup (ds.set j (.nd .lst cs'))
    | _ => none
  | _, _ => none
def mutAtV (m : MOp) (x k : Val) (a : Option At) : Option Val := if x.fz then none else (mutAtD m x.d k.d a).map fun d => ⟨x.ow, false, d⟩
def fMA (i : Nat) (m : MOp) (a : Option MA) : Opd → Gam → R Fl := fun ok Γ1 => match getD1 Γ1 ok, slotG Γ1 i, aosG Γ1 a with
  | some kv, some x, some y => match mutAtV m x kv y with
    | some x' => .ok .nx (Γ1.set i (some x'))
    | none => .bad
  | _, _, _ => .bad
mutual
def evS (C : Ctx) : IS → Gam → R Fl
  | .asg i e, Γ => if i ∈ C.io then .bad else (evE C e Γ).bind fun x Γ' => if i < Γ'.length then .ok .nx (Γ'.set i (some x)) else .bad
  | .asgT is e, Γ => (evE C e Γ).bind fun x Γ' => match x.d with
    | .nd .tup _ => (setTgt C (.many is) (lend x) Γ').bind fun _ Γ' => .ok .nx Γ'
    | _ => .bad
  | .par i j a b, Γ => if i ∈ C.io ∨ j ∈ C.io then .bad else (evE C a Γ).bind fun x Γ1 => (evE C b Γ1).bind fun y Γ2 => if i < Γ2.length ∧ j < Γ2.length then .ok .nx ((Γ2.set i (some x)).set j (some y)) else .bad
  | .aug i o e, Γ => if i ∈ C.io ∨ !augOk o then .bad else match slotG Γ i with
    | some x => match x.d with
      | .at a => (opdOf e Γ (evE C e Γ)).bind fun oe Γ' => match getD1 Γ' oe with
        | some y => match opSem o [.at a, y.d] with
          | some (.at (.int r)) => if i < Γ'.length then .ok .nx (Γ'.set i (some ⟨.no, false, .int r⟩)) else .bad
          | _ => .bad
        | none => .bad
      | _ => .bad
    | none => .bad
  | .setIx i k e, Γ => (evE C e Γ).bind fun y Γ1 => if conAt Γ1 i then (opdOf k Γ1 (evE C k Γ1)).bind fun ok Γ2 => match getD1 Γ2 ok, slotG Γ2 i with
    | some kv, some x => if x.ow = .no then .bad else match mutV .setIx x [y, kv] with
      | some (_, x') => .ok .nx (Γ2.set i (some x'))
      | none => .bad
    | _, _ => .bad
    else .bad
  | .augIx i o k e, Γ => if (!augOk o || !lstAt Γ i) = true then .bad else (opdOf k Γ (evE C k Γ)).bind fun ok Γ1 => match getD1 Γ1 ok, slotG Γ1 i with
    | some kv, some x => match augG x kv with
      | some (n, a) => (opdOf e Γ1 (evE C e Γ1)).bind fun oe Γ2 => match getD1 Γ2 oe, slotG Γ2 i with
        | some y, some x2 => if x2.ow = .no then .bad else match opSem o [.at (.int a), y.d] with
          | some (.at (.int r)) => match mutV .setIx x2 [⟨.no, false, .int r⟩, ⟨.no, false, .int n⟩] with
            | some (_, x') => .ok .nx (Γ2.set i (some x'))
            | none => .bad
          | _ => .bad
        | _, _ => .bad
      | none => .bad
    | _, _ => .bad
  | .mutAt i k m a, Γ => if (slotG Γ i).isSome then (opdOf k Γ (evE C k Γ)).bind (fMA i m a) else .bad
  | .expr e, Γ => (evE C e Γ).bind fun _ Γ' => .ok .nx Γ'
  | .ifs c a b, Γ => (evT C c Γ).bind fun t Γ' => if t then evSs C a Γ' else evSs C b Γ'
  | .whl c b kl, Γ => whlL (evT C c) (evSs C b) (fun Γ => killG Γ kl) C.fuel Γ
  | .fr t it b kl, Γ => (evI C it Γ).bind fun items Γ1 => forL (fun x Γ => (setTgt C t x Γ).bind fun _ Γ => evSs C b Γ) (fun Γ => killG Γ kl) items Γ1
  | .ret e, Γ => (evE C e Γ).bind fun x Γ' => .ok (.rt x) Γ'
  | .retN, Γ => .ok (.rt ⟨.no, false, .non⟩) Γ
  | .rais c, Γ => .exc c Γ
  | .tr b c h, Γ => match evSs C b Γ with
    | .exc c' Γ' => if c' = c ∨ c = 0 then evSs C h Γ' else .bad
    | r => r
  | .brk, Γ => .ok .bk Γ
  | .cnt, Γ => .ok .ct Γ
  | .pas, Γ => .ok .nx Γ
  | .frz i, Γ => .ok .nx (lendI Γ i)
def evSs (C : Ctx) : ISs → Gam → R Fl
  | .nil, Γ => .ok .nx Γ
  | .cons s ss, Γ => (evS C s Γ).bind fun f Γ' => match f with
    | .nx => evSs C ss Γ'
    | f => .ok f Γ'
end
/-- a def: how many parameters, how many names, which parameters are handed over, its body -/
structure FD where
  np : Nat
  nN : Nat
  io : List Nat
  body : ISs
def outG (io : List Nat) (np : Nat) (Γ : Gam) : Gam := match io with
  | [] => []
  | io => (List.range np).map fun j => if j ∈ io then slotG Γ j else none
structure Prg where
  fs : List FD
  glob : Nat → D
  fuel : Nat
def retF (fd : FD) (r : R Fl) : CR := match r with
  | .ok .nx Γ => .ok ⟨.no, false, .non⟩ (outG fd.io fd.np Γ)
  | .ok (.rt x) Γ => .ok x (outG fd.io fd.np Γ)
  | .exc c _ => .exc c
  | _ => .bad
def evF (P : Prg) : Nat → Nat → List Nat → List Val → CR
  | 0, _, _, _ => .bad
  | k + 1, f, ps, xs => match P.fs[f]? with
    | none => .bad
    | some fd => if xs.length = fd.np ∧ ps = fd.io ∧ fd.np ≤ fd.nN then retF fd (evSs ⟨evF P k, P.glob, fd.io, P.fuel⟩ fd.body (gam0 fd.nN xs)) else .bad
end Px
namespace Px
open PySem L2

/-! ### what is wanted of a run -/
def R.post {α : Type} (r : R α) (E : Nat → Gam → Prop) (Q : α → Gam → Prop) : Prop := match r with
  | .bad => False
  | .exc c Γ => E c Γ
  | .ok a Γ => Q a Γ
theorem post_bind {α β : Type} {r : R α} {f : α → Gam → R β} {E : Nat → Gam → Prop} {Q : β → Gam → Prop} : (r.bind f).post E Q ↔ r.post E (fun a Γ => (f a Γ).post E Q) := by
  cases r <;> exact Iff.rfl
theorem post_imp {α : Type} {r : R α} {E E' : Nat → Gam → Prop} {Q Q' : α → Gam → Prop} (h : r.post E Q) (hE : ∀ c Γ, E c Γ → E' c Γ) (hQ : ∀ a Γ, Q a Γ → Q' a Γ) : r.post E' Q' := by
  cases r with
  | bad => exact h
  | exc c Γ => exact hE _ _ h
  | ok a Γ => exact hQ _ _ h
theorem post_opt {α : Type} {o : Option α} {Γ : Gam} {E : Nat → Gam → Prop} {Q : α → Gam → Prop} (h : (opt o Γ).post E Q) : ∃ a, o = some a ∧ Q a Γ := by
  cases o with
  | none => exact h.elim
  | some a => exact ⟨a, rfl, h⟩

/-! ### readings -/
structure Rd0 where
  K : W.Frag
  W : WX
  cls : Nat → Value
def IoIn (B : Base) (C : Ctx) : Prop := ∀ p ∈ B.io, p.1 ∈ C.io
def wE (r : Rd0) (B : Base) (Θ : List (V × Val)) (σ : St) : Nat → Gam → Prop := fun c Γ' => ∀ H', SatE r.K B Γ' Θ σ H' → r.W (r.cls c) none σ H'
/-- a value comes, as a new temporary -/
def tV (r : Rd0) (C : Ctx) (f : Gam → R Val) : TE := fun σ H Q => ∃ B Γ Θ, SatE r.K B Γ Θ σ H ∧ IoIn B C ∧ (f Γ).post (wE r B Θ σ) (fun x Γ' => ∀ v H', SatE r.K B Γ' (Θ ++ [(v, x)]) σ H' → Q v H')
def tO (r : Rd0) (C : Ctx) (f : Gam → R Opd) : TE := fun σ H Q => ∃ B Γ Θ, SatE r.K B Γ Θ σ H ∧ IoIn B C ∧ (f Γ).post (wE r B Θ σ) (fun o Γ' => ∀ v Ts H', OpdsR σ [o] [v] Ts → SatE r.K B Γ' (Θ ++ Ts) σ H' → Q v H')
def tOs (r : Rd0) (C : Ctx) (f : Gam → R (List Opd)) : TA := fun σ H Q => ∃ B Γ Θ, SatE r.K B Γ Θ σ H ∧ IoIn B C ∧ (f Γ).post (wE r B Θ σ) (fun os Γ' => ∀ vs Ts H', OpdsR σ os vs Ts → SatE r.K B Γ' (Θ ++ Ts) σ H' → Q vs H')
def tVs (r : Rd0) (C : Ctx) (f : Gam → R (List Val)) : TA := fun σ H Q => ∃ B Γ Θ, SatE r.K B Γ Θ σ H ∧ IoIn B C ∧ (f Γ).post (wE r B Θ σ) (fun xs Γ' => ∀ Ts H', Ts.map (·.2) = xs → SatE r.K B Γ' (Θ ++ Ts) σ H' → Q (Ts.map (·.1)) H')
def tT (r : Rd0) (C : Ctx) (f : Gam → R Bool) : TT := fun σ H Q => ∃ B Γ Θ, SatE r.K B Γ Θ σ H ∧ IoIn B C ∧ (f Γ).post (wE r B Θ σ) (fun b Γ' => ∀ H', SatE r.K B Γ' Θ σ H' → Q b H')
def MonoE (t : TE) : Prop := ∀ σ H (Q Q' : VK), (∀ v H', Q v H' → Q' v H') → t σ H Q → t σ H Q'
theorem tV_mono {r : Rd0} {C : Ctx} {f : Gam → R Val} : MonoE (tV r C f) := fun σ H Q Q' h ⟨B, Γ, Θ, S, io, p⟩ => ⟨B, Γ, Θ, S, io, post_imp p (fun _ _ z => z) fun _ _ z v H' s => h _ _ (z v H' s)⟩
theorem tO_mono {r : Rd0} {C : Ctx} {f : Gam → R Opd} : MonoE (tO r C f) := fun σ H Q Q' h ⟨B, Γ, Θ, S, io, p⟩ => ⟨B, Γ, Θ, S, io, post_imp p (fun _ _ z => z) fun _ _ z v Ts H' o s => h _ _ (z v Ts H' o s)⟩
theorem PE.of {X : Cx} {e : Expr} {t t' : TE} (h : PE X e t) (w : ∀ σ H Q, t' σ H Q → t σ H Q) : PE X e t' := ⟨fun pins s σ H Q I q => h.run pins s σ H Q I (w σ H Q q)⟩
theorem PT.of {X : Cx} {e : Expr} {t t' : TT} (h : PT X e t) (w : ∀ σ H Q, t' σ H Q → t σ H Q) : PT X e t' := ⟨fun pins s σ H Q I q => h.run pins s σ H Q I (w σ H Q q)⟩
theorem PA.of {X : Cx} {e : List Expr} {t t' : TA} (h : PA X e t) (w : ∀ σ H Q, t' σ H Q → t σ H Q) : PA X e t' := ⟨fun pos pins s σ H Q I q => h.run pos pins s σ H Q I (w σ H Q q)⟩
theorem PS.of {X : Cx} {e : Stmt} {t t' : TS} (h : PS X e t) (w : ∀ D σ H, t' D σ H → t D σ H) : PS X e t' := ⟨fun pins s σ H D I q => h.run pins s σ H D I (w D σ H q)⟩
theorem PSs.of {X : Cx} {e : List Stmt} {t t' : TS} (h : PSs X e t) (w : ∀ D σ H, t' D σ H → t D σ H) : PSs X e t' := ⟨fun pins s σ H D I q => h.run pins s σ H D I (w D σ H q)⟩
theorem PG.of {X : Cx} {e : Expr} {t t' : TG} (h : PG X e t) (w : ∀ v σ H Q, t' v σ H Q → t v σ H Q) : PG X e t' := ⟨fun pins s σ H v u Q I r q => h.run pins s σ H v u Q I r (w v σ H Q q)⟩
theorem PI.of {X : Cx} {tg e : Expr} {t t' : TI} (h : PI X tg e t) (w : ∀ σ H Q, t' σ H Q → t σ H Q) : PI X tg e t' := ⟨fun pins s σ H R I q => h.run pins s σ H R I (w σ H R q)⟩
/-- several, from the left -/
def seqT : List TE → TA
  | [] => fun _ H Q => Q [] H
  | t :: ts => fun σ H Q => t σ H fun v H1 => seqT ts σ H1 fun vs H2 => Q (v :: vs) H2
def noStar : Expr → Bool
  | .Starred _ _ => false
  | _ => true
theorem starEach_of {e : Expr} {es : List Expr} {env : PySem.Env} (h : noStar e = true) : starEach (e :: es) env = (false, eval e env) :: starEach es env := by
  cases e <;> first | rfl | cases h
theorem starEach_all : ∀ {es : List Expr} {env : PySem.Env}, es.all noStar = true → ∀ x ∈ starEach es env, x.1 = false
  | [], _, _ => fun x z => by
    have z' : x ∈ ([] : List (Bool × Sem Value)) := z
    cases z'
  | e :: es, env, h => by
    rw [List.all_cons, Bool.and_eq_true] at h
    rw [starEach_of h.1]
    intro x z
    rcases List.mem_cons.mp z with rfl | z
    · rfl
    · exact starEach_all h.2 x z
theorem backTo_plain {es : List Expr} {env : PySem.Env} {pos : Pos} (h : es.all noStar = true) : (backTo pos (starEach es env)).any (·.1) = false := by
  unfold backTo
  rw [List.any_map, List.any_eq_false]
  intro x hx
  have := starEach_all h x hx
  simp [this]
theorem pa_seq {X : Cx} : ∀ {es : List Expr} {ts : List TE}, Paired (fun e t => PE X e t) es ts → es.all noStar = true → PA X es (seqT ts)
  | _, _, .nil, _ => pa_nil
  | _, _, .cons p r, h => by
    rw [List.all_cons, Bool.and_eq_true] at h
    exact pa_cons p (pa_seq r h.2) (starEach_of h.1)
def onGl (X : Cx) (ns : List Str) : Prop := ∀ n ∈ ns, Gl X n ∧ X.mg n = none

section
variable {K : W.Frag} {G H H' : Hp} {R R' : List Addr} {v : V} {x : Val} {d : D} {ds : List D} {vs : List V}
theorem Rep.at_inv {a : At} (h : Rep K G H R v (.at a)) : v = atV a ∧ R = [] := by cases h; exact ⟨rfl, rfl⟩
theorem ValOk.at_inv {a : At} (h : ValOk K G H R v x) (e : x.d = .at a) : v = atV a := by
  have q := h.1
  rw [e] at q
  exact q.at_inv.1
theorem Reps.inv_cons {R : List Addr} (h : Reps K G H R vs (d :: ds)) : ∃ R1 R2 v us, R = R1 ++ R2 ∧ vs = v :: us ∧ Rep K G H R1 v d ∧ Reps K G H R2 us ds := by
  cases h with
  | cons h1 h2 => exact ⟨_, _, _, _, rfl, rfl, h1, h2⟩
theorem Reps.inv_nil {R : List Addr} (h : Reps K G H R vs []) : R = [] ∧ vs = [] := by
  cases h
  exact ⟨rfl, rfl⟩
theorem Reps.append {R' : List Addr} {es : List D} {us : List V} (h' : Reps K G H R' us es) : ∀ {ds : List D} {R : List Addr} {vs : List V}, Reps K G H R vs ds → Reps K G H (R ++ R') (vs ++ us) (ds ++ es)
  | [], _, _, h => by
    obtain ⟨rfl, rfl⟩ := h.inv_nil
    exact h'
  | d :: ds, _, _, h => by
    obtain ⟨R1, R2, v, ws, rfl, rfl, h1, h2⟩ := h.inv_cons
    rw [List.append_assoc]
    exact .cons h1 (Reps.append h' h2)
theorem Reps.uncons (h : Reps K G H [] vs (d :: ds)) : ∃ v us, vs = v :: us ∧ Rep K G H [] v d ∧ Reps K G H [] us ds := by
  obtain ⟨R1, R2, v, us, e, rfl, h1, h2⟩ := h.inv_cons
  have e0 := List.append_eq_nil_iff.mp e.symm
  rw [e0.1] at h1
  rw [e0.2] at h2
  exact ⟨_, _, rfl, h1, h2⟩
theorem Reps.get : ∀ {ds : List D} {vs : List V} {i : Nat} {d : D}, Reps K G H [] vs ds → ds[i]? = some d → ∃ v, vs[i]? = some v ∧ Rep K G H [] v d
  | [], _, _, _, h, e => by simp at e
  | d :: ds, _, i, d', h, e => by
    obtain ⟨v, us, rfl, h1, h2⟩ := h.uncons
    cases i with
    | zero => simp at e; subst e; exact ⟨_, rfl, h1⟩
    | succ i =>
      obtain ⟨w, q1, q2⟩ := Reps.get h2 (by simpa using e)
      exact ⟨w, by simpa using q1, q2⟩
theorem Reps.cons0 (h1 : Rep K G H [] v d) (h2 : Reps K G H [] vs ds) : Reps K G H [] (v :: vs) (d :: ds) := Reps.cons (R := []) (R' := []) h1 h2
theorem Reps.of_get : ∀ {ds : List D} {vs : List V}, vs.length = ds.length → (∀ (i : Nat) v d, vs[i]? = some v → ds[i]? = some d → Rep K G H [] v d) → Reps K G H [] vs ds
  | [], [], _, _ => .nil
  | [], _ :: _, h, _ => by simp at h
  | _ :: _, [], h, _ => by simp at h
  | d :: ds, v :: vs, h, q => .cons0 (q 0 v d rfl rfl) (Reps.of_get (by simpa using h) fun i v' d' e1 e2 => q (i + 1) v' d' (by simpa using e1) (by simpa using e2))
theorem Reps.take (n : Nat) (h : Reps K G H [] vs ds) : Reps K G H [] (vs.take n) (ds.take n) := by
  have hl := h.length ds
  refine .of_get (by rw [List.length_take, List.length_take, hl]) fun i v d e1 e2 => ?_
  rw [List.getElem?_take] at e1 e2
  split at e1
  · rename_i hi
    rw [if_pos hi] at e2
    obtain ⟨w, q1, q2⟩ := h.get e2
    rw [q1] at e1; cases e1
    exact q2
  · cases e1
theorem Reps.drop (n : Nat) (h : Reps K G H [] vs ds) : Reps K G H [] (vs.drop n) (ds.drop n) := by
  have hl := h.length ds
  refine .of_get (by rw [List.length_drop, List.length_drop, hl]) fun i v d e1 e2 => ?_
  rw [List.getElem?_drop] at e1 e2
  obtain ⟨w, q1, q2⟩ := h.get e2
  rw [q1] at e1; cases e1
  exact q2
theorem Reps.reverse (h : Reps K G H [] vs ds) : Reps K G H [] vs.reverse ds.reverse := by
  have hl := h.length ds
  refine .of_get (by rw [List.length_reverse, List.length_reverse, hl]) fun i v d e1 e2 => ?_
  have hi : i < ds.length := by
    have := (List.getElem?_eq_some_iff.mp e2).1
    rwa [List.length_reverse] at this
  rw [List.getElem?_reverse (by omega)] at e1
  rw [List.getElem?_reverse hi] at e2
  obtain ⟨w, q1, q2⟩ := h.get e2
  rw [hl, q1] at e1; cases e1
  exact q2
theorem Reps.ints : ∀ {ds : List D} {vs : List V} {ns : List Int}, Reps K G H [] vs ds → intsOf ds = some ns → vs = ns.map V.int
  | [], _, ns, h, e => by
    obtain ⟨_, rfl⟩ := h.inv_nil
    cases e; rfl
  | d :: ds, _, ns, h, e => by
    obtain ⟨v, us, rfl, h1, h2⟩ := h.uncons
    cases d with
    | nd t xs => cases e
    | «at» a =>
      cases a with
      | int i =>
        unfold intsOf at e
        cases q : intsOf ds with
        | none => rw [q] at e; cases e
        | some ms =>
          rw [q] at e; cases e
          rw [h1.at_inv.1, Reps.ints h2 q]
          rfl
      | _ => cases e
theorem Reps.bls : ∀ {ds : List D} {vs : List V} {ns : List Bool}, Reps K G H [] vs ds → blsOf ds = some ns → vs = ns.map V.bl
  | [], _, ns, h, e => by
    obtain ⟨_, rfl⟩ := h.inv_nil
    cases e; rfl
  | d :: ds, _, ns, h, e => by
    obtain ⟨v, us, rfl, h1, h2⟩ := h.uncons
    cases d with
    | nd t xs => cases e
    | «at» a =>
      cases a with
      | bl i =>
        unfold blsOf at e
        cases q : blsOf ds with
        | none => rw [q] at e; cases e
        | some ms =>
          rw [q] at e; cases e
          rw [h1.at_inv.1, Reps.bls h2 q]
          rfl
      | _ => cases e
theorem reps_ints {ns : List Int} : Reps K G H [] (ns.map V.int) (ns.map D.int) := .of_get (by simp) fun i v d e1 e2 => by
  rw [List.getElem?_map] at e1 e2
  cases q : ns[i]? with
  | none => rw [q] at e1; cases e1
  | some n => rw [q] at e1 e2; cases e1; cases e2; exact .at (.int n)
/-- data that == takes, in the library's terms -/
def toPy : D → PyData
  | .at .non => .none
  | .at (.bl b) => .bool b
  | .at (.int i) => .int i
  | .at (.str x) => .str x
  | .nd .lst xs => .list (xs.map toPy)
  | .nd .tup xs => .tuple (xs.map toPy)
  | .nd _ _ => .none
end
end Px
namespace Px
open PySem L2

/-! ### an operation's demand in data -/
def relO (K : W.Frag) (o : Op) (vs : List V) (H : Hp) (Q : VK) : Prop := ∃ G xs x, Same G H ∧ Paired (fun v x => ∃ R, ValOk K G H R v x) vs xs ∧ opVal o xs = some x ∧
  ∀ v H' R, Same H H' → ValOk K G H' R v x → R.Nodup → (∀ a ∈ R, H a = none) → Q v H'
theorem opVal_inv {o : Op} {xs : List Val} {x : Val} (h : opVal o xs = some x) : ∃ d, opSem o (xs.map (·.d)) = some d ∧ x = o.tag (anyFz xs) d ∧ (o.flow = true → anyDeep xs = false) ∧ repOk o xs = true := by
  unfold opVal at h
  split at h
  · cases h
  · rename_i hf
    cases q : opSem o (xs.map (·.d)) with
    | none => rw [q] at h; cases h
    | some d =>
      rw [q] at h
      have hf' : (o.flow && anyDeep xs) = false ∧ repOk o xs = true := by
        cases q1 : (o.flow && anyDeep xs) <;> cases q2 : repOk o xs <;> simp_all
      refine ⟨d, rfl, (Option.some.inj h).symm, fun e => ?_, hf'.2⟩
      have := hf'.1
      rw [e, Bool.true_and] at this
      exact this
theorem notDeep {xs : List Val} (h : anyDeep xs = false) {x : Val} (hx : x ∈ xs) : x.ow ≠ .deep := by
  have := List.any_eq_false.mp h x hx
  simpa using this
section
variable {K : W.Frag} {G H H' : Hp} {R : List Addr} {v w u : V} {x y z : Val} {d : D} {vs : List V} {xs : List Val}
theorem pair1 (h : Paired (fun v x => ∃ R, ValOk K G H R v x) [v] xs) : ∃ x R, xs = [x] ∧ ValOk K G H R v x := by
  cases h with
  | cons h1 h2 => cases h2; obtain ⟨R, h1⟩ := h1; exact ⟨_, R, rfl, h1⟩
theorem pair2 (h : Paired (fun v x => ∃ R, ValOk K G H R v x) [v, w] xs) : ∃ x y R R', xs = [x, y] ∧ ValOk K G H R v x ∧ ValOk K G H R' w y := by
  cases h with
  | cons h1 h2 =>
    obtain ⟨y, R', rfl, h3⟩ := pair1 h2
    obtain ⟨R, h1⟩ := h1
    exact ⟨_, y, R, R', rfl, h1, h3⟩
theorem pair3 (h : Paired (fun v x => ∃ R, ValOk K G H R v x) [v, w, u] xs) : ∃ x y z R R' R'', xs = [x, y, z] ∧ ValOk K G H R v x ∧ ValOk K G H R' w y ∧ ValOk K G H R'' u z := by
  cases h with
  | cons h1 h2 =>
    obtain ⟨y, z, R', R'', rfl, h3, h4⟩ := pair2 h2
    obtain ⟨R, h1⟩ := h1
    exact ⟨_, y, z, R, R', R'', rfl, h1, h3, h4⟩
theorem ok_atom {a : At} : ValOk K G H [] (atV a) ⟨.no, false, .at a⟩ := ⟨.at a, fun _ => rfl, (fun z => by cases z), (fun z => by cases z)⟩
theorem tag_at {o : Op} {fz : Bool} {a : At} : o.tag fz (.at a) = ⟨.no, false, .at a⟩ := rfl
/-- a value without own places -/
theorem ok_no {fz : Bool} (h : Rep K (gx G fz) H [] v d) : ValOk K G H [] v ⟨.no, fz, d⟩ := ⟨h, fun _ => rfl, (fun z => by cases z), (fun z => by cases z)⟩
/-- one that lies in an operand, told by its tag -/
theorem ok_tag {o : Op} {fz : Bool} (ho : o.fresh = false) (hf : o.flow = true) (h : Rep K (gx G fz) H [] v d) : ValOk K G H [] v (o.tag fz d) := by
  cases d with
  | «at» a => rw [h.at_inv.1]; exact ok_atom
  | nd t xs =>
    cases t with
    | tup =>
      show ValOk K G H [] v ⟨.no, o.flow && fz, .nd .tup xs⟩
      rw [hf, Bool.true_and]
      exact ok_no h
    | _ =>
      show ValOk K G H [] v ⟨if o.fresh then .top else .no, o.flow && fz, .nd _ xs⟩
      rw [hf, Bool.true_and, ho]
      exact ok_no h
/-- a new list -/
theorem ok_list {o : Op} {fz : Bool} {p : Addr} {ds : List D} (ho : o.fresh = true) (hp : H p = none) (h : Reps K (gx G (o.flow && fz)) H [] vs ds) : ValOk K G (upd H p (.lst vs)) [p] (.ref p) (o.tag fz (.lst ds)) := by
  have e : Same H (upd H p (.lst vs)) := fun b o q => by rw [upd_ne (ne_of_none q hp)]; exact q
  show ValOk K G _ [p] (.ref p) ⟨if o.fresh then .top else .no, o.flow && fz, .nd .lst ds⟩
  rw [ho]
  exact ⟨.own (show NodeO _ .lst p vs from upd_same) (h.same e), (fun z => by cases z), (fun _ => ⟨p, .lst, ds, rfl, rfl, rfl, by decide⟩), (fun z => by cases z)⟩
theorem ok_tup {o : Op} {fz : Bool} {p : Addr} {ds : List D} (hp : H p = none) (h : Reps K (gx G (o.flow && fz)) H [] vs ds) : ValOk K G (upd H p (.tup vs)) [] (.ref p) (o.tag fz (.tup ds)) := by
  have e : Same H (upd H p (.tup vs)) := fun b o q => by rw [upd_ne (ne_of_none q hp)]; exact q
  exact ok_no (.tup upd_same (h.same e))
theorem same_upd {p : Addr} {o : HO} (hp : H p = none) : Same H (upd H p o) := fun b u q => by rw [upd_ne (ne_of_none q hp)]; exact q
theorem fz_left {a b : Val} : a.fz = true → anyFz [a, b] = true := fun h => anyFz_mem (by simp) h
theorem fz_right {a b : Val} : b.fz = true → anyFz [a, b] = true := fun h => anyFz_mem (by simp) h
theorem Reps.fz {b c : Bool} (h : b = true → c = true) {ds : List D} (r : Reps K (gx G b) H [] vs ds) : Reps K (gx G c) H [] vs ds := r.monoG (gx_imp h) _
end
def rel2 (K : W.Frag) (o : Op) : R2 := fun x y H Q => relO K o [x, y] H Q
theorem OpR.of {X : Cx} {f : Value → Value → Sem Value} {r r' : R2} (h : OpR X f r) (w : ∀ x y H Q, r' x y H Q → r x y H Q) : OpR X f r' := fun pins s σ H x y v u Q I rx ry q => h pins s σ H x y v u Q I rx ry (w x y H Q q)
theorem OpR.or {X : Cx} {f : Value → Value → Sem Value} {r r' : R2} (h : OpR X f r) (h' : OpR X f r') : OpR X f (fun x y H Q => r x y H Q ∨ r' x y H Q) := fun pins s σ H x y v u Q I rx ry q =>
  q.elim (h pins s σ H x y v u Q I rx ry) (h' pins s σ H x y v u Q I rx ry)
theorem CallR.of {X : Cx} {f : Value} {r r' : List V → Hp → VK → Prop} (h : CallR X f r) (w : ∀ x H Q, r' x H Q → r x H Q) : CallR X f r' := fun pins s σ H xs us Q I rx q => h pins s σ H xs us Q I rx (w xs H Q q)
/-- an operation on two atoms that gives an atom -/
theorem at2 {K : W.Frag} {o : Op} {v w : V} {H : Hp} {Q : VK} (h : rel2 K o v w H Q) (hd : ∀ a b d, opSem o [a, b] = some d → ∃ p q r, a = .at p ∧ b = .at q ∧ d = .at r) :
    ∃ p q r, v = atV p ∧ w = atV q ∧ opSem o [.at p, .at q] = some (.at r) ∧ Q (atV r) H := by
  obtain ⟨G, xs, x, e, hp, ho, k⟩ := h
  obtain ⟨a, b, R, R', rfl, h1, h2⟩ := pair2 hp
  obtain ⟨d, hs, rfl, _, _⟩ := opVal_inv ho
  obtain ⟨p, q, r, e1, e2, rfl⟩ := hd a.d b.d d hs
  refine ⟨p, q, r, h1.at_inv e1, h2.at_inv e2, ?_, k _ H [] (Same.refl _) ok_atom List.nodup_nil fun _ z => by cases z⟩
  rw [← e1, ← e2]
  exact hs

section
variable {X : Cx}
/-! ### + -/
def rCatL (K : W.Frag) : R2 := fun x y H Q => ∃ l b xs zs, x = .ref l ∧ y = .ref b ∧ SqL K H l xs ∧ SqL K H b zs ∧ xs.length + zs.length ≤ sizeLine ∧ ∀ p, H p = none → Q (.ref p) (upd H p (.lst (xs ++ zs)))
theorem op_catL : OpR X (binaryOp .Add) (rCatL X.K) := by
  intro pins s σ H x y v u Q I rx ry h
  obtain ⟨l, b, xs, zs, rfl, rfl, hA, hB, hz, q⟩ := h
  cases rx
  cases ry
  obtain ⟨its, r, pl, _⟩ := I.list hA
  obtain ⟨its2, r2, pl2, _⟩ := I.list hB
  obtain ⟨⟨cls, dd, data, sl⟩, n, ho, hc, hdd, hd⟩ := pl
  obtain ⟨⟨cls2, dd2, data2, sl2⟩, n2, ho2, hc2, hdd2, hd2⟩ := pl2
  simp only at hc hd hc2 hd2
  subst hc hd hc2 hd2
  have e : its.toArray ++ its2.toArray = (its ++ its2).toArray := by simp
  have l1 := r.length
  have l2 := r2.length
  refine PySem.concat_meets ⟨_, ho, rfl⟩ ⟨_, ho2, rfl⟩ PySem.noFill_list_add PySem.seq_list_add PySem.F.slot_list_add PySem.F.entry_list_add (PySem.F.args_list_add_2 _ _) (PyProof.Rows.list_addW l b its.toArray its2.toArray n n2 dd dd2 sl sl2 (by simp only [List.size_toArray]; omega)) ⟨ho, ho2, ?_⟩
  rw [e]
  exact ⟨.ref _, _, I.lnew (t' := s.toks) (r.append r2) (by rw [List.length_append]; exact hz), rfl, q _ I.fresh⟩
end
end Px
namespace Px
open PySem L2
theorem nodup1 {a : Addr} : [a].Nodup := List.nodup_cons.mpr ⟨by simp, List.nodup_nil⟩
section
variable {X : Cx}
theorem two_inv {K : W.Frag} {o : Op} {v w : V} {H : Hp} {Q : VK} (h : rel2 K o v w H Q) : ∃ G a b R R' d, Same G H ∧ ValOk K G H R v a ∧ ValOk K G H R' w b ∧ opSem o [a.d, b.d] = some d ∧ (o.flow = true → a.ow ≠ .deep ∧ b.ow ≠ .deep) ∧ repOk o [a, b] = true ∧
    ∀ v H' R, Same H H' → ValOk K G H' R v (o.tag (anyFz [a, b]) d) → R.Nodup → (∀ a ∈ R, H a = none) → Q v H' := by
  obtain ⟨G, xs, x, e, hp, ho, k⟩ := h
  obtain ⟨a, b, R, R', rfl, h1, h2⟩ := pair2 hp
  obtain ⟨d, hs, rfl, hd, hr⟩ := opVal_inv ho
  exact ⟨G, a, b, R, R', d, e, h1, h2, hs, fun z => ⟨notDeep (hd z) (by simp), notDeep (hd z) (by simp)⟩, hr, k⟩
theorem ok_add : OpR X (binaryOp .Add) (rel2 X.K .add) := by
  refine OpR.of (op_add.or (op_add_str.or (op_catL.or op_catT))) fun x y H Q h => ?_
  obtain ⟨G, a, b, R, R', d, e, h1, h2, hs, hd, hr, k⟩ := two_inv h
  have hs : dAdd a.d b.d = some d := hs
  obtain ⟨da, db⟩ := hd rfl
  have fin : ∀ r : At, d = .at r → Q (atV r) H := fun r er => by
    subst er
    exact k _ H [] (Same.refl _) ok_atom List.nodup_nil fun _ z => by cases z
  unfold dAdd at hs
  split at hs
  · rename_i i j e1 e2
    cases hs
    exact .inl ⟨i, j, h1.at_inv e1, h2.at_inv e2, fin _ rfl⟩
  · rename_i i j e1 e2
    split at hs
    · rename_i hl
      cases hs
      exact .inr (.inl ⟨i, j, h1.at_inv e1, h2.at_inv e2, hl, fin _ rfl⟩)
    · cases hs
  · rename_i xs ys e1 e2
    split at hs
    · rename_i hl
      cases hs
      obtain ⟨p, vs, rfl, n1, r1⟩ := h1.kids e da e1
      obtain ⟨q, us, rfl, n2, r2⟩ := h2.kids e db e2
      refine .inr (.inr (.inl ⟨p, q, vs, us, rfl, rfl, n1.sq, n2.sq, by rw [r1.length, r2.length]; exact hl, fun t ht => ?_⟩))
      exact k _ _ [t] (same_upd ht) (ok_list rfl ht ((r2.fz fz_right).append (r1.fz fz_left))) nodup1 fun a z => by rw [List.mem_singleton.mp z]; exact ht
    · cases hs
  · rename_i xs ys e1 e2
    split at hs
    · rename_i hl
      cases hs
      obtain ⟨p, vs, rfl, n1, r1⟩ := h1.kids e da e1
      obtain ⟨q, us, rfl, n2, r2⟩ := h2.kids e db e2
      refine .inr (.inr (.inr ⟨p, q, vs, us, rfl, rfl, SqT.of n1, SqT.of n2, fun z => ?_, by rw [r1.length, r2.length]; exact hl.1, fun z => ?_, fun z t ht => ?_⟩))
      · have := r1.length
        rw [z] at this
        exact hl.2 (List.length_eq_zero_iff.mp this.symm)
      · have := r2.length
        rw [z] at this
        have hy : ys = [] := List.length_eq_zero_iff.mp this.symm
        subst hy
        rw [List.append_nil] at k
        refine k _ H [] (Same.refl _) (ok_no (.tup n1 (r1.fz fz_left))) List.nodup_nil fun _ z => by cases z
      · exact k _ _ [] (same_upd ht) (ok_tup ht ((r2.fz fz_right).append (r1.fz fz_left))) List.nodup_nil fun _ z => by cases z
    · cases hs
  · cases hs
theorem ok_sub : OpR X (binaryOp .Sub) (rel2 X.K .sub) := OpR.of op_sub fun x y H Q h => by
  obtain ⟨p, q, r, rfl, rfl, hs, k⟩ := at2 h fun a b d hs => by
    have hs : dSub a b = some d := hs
    unfold dSub at hs
    split at hs
    · cases hs; exact ⟨_, _, _, rfl, rfl, rfl⟩
    · cases hs
  change dSub _ _ = some _ at hs
  unfold dSub at hs
  split at hs
  · rename_i i j e1 e2
    cases e1; cases e2; cases hs
    exact ⟨i, j, rfl, rfl, k⟩
  · cases hs
theorem ok_mul : OpR X (binaryOp .Mult) (rel2 X.K .mul) := OpR.of op_mulW fun x y H Q h => by
  obtain ⟨p, q, r, rfl, rfl, hs, k⟩ := at2 h fun a b d hs => by
    have hs : dMul a b = some d := hs
    unfold dMul at hs
    split at hs
    · split at hs
      · cases hs; exact ⟨_, _, _, rfl, rfl, rfl⟩
      · cases hs
    · cases hs
  change dMul _ _ = some _ at hs
  unfold dMul at hs
  split at hs
  · rename_i i j e1 e2
    split at hs
    · rename_i hm
      cases e1; cases e2; cases hs
      exact ⟨i, j, rfl, rfl, (by unfold CMulW; exact of_decide_eq_true (show decide (i.natAbs.log2 + j.natAbs.log2 < 1000000) = true from hm)), k⟩
    · cases hs
  · cases hs
theorem ok_rep : OpR X (binaryOp .Mult) (rel2 X.K .rep) := OpR.of op_rep fun x y H Q h => by
  obtain ⟨G, a, b, R, R', d, e, h1, h2, hs, hd, hr, k⟩ := two_inv h
  have hs : dRep a.d b.d = some d := hs
  obtain ⟨da, db⟩ := hd rfl
  have htop : a.ow = .top := by
    have : (if Op.rep = Op.rep then decide (a.ow = .top) else true) = true := hr
    rw [if_pos rfl] at this
    exact of_decide_eq_true this
  unfold dRep at hs
  split at hs
  · rename_i xs n e1 e2
    split at hs
    · rename_i hl
      cases hs
      obtain ⟨p, vs, R1, rfl, eR, nO, rp, hz⟩ := h1.root (by rw [htop]; decide) e1 (by decide)
      have := hz htop
      subst this
      have nO' : H p = some (.lst vs) := nO
      refine ⟨p, n, vs, rfl, h2.at_inv e2, nO', by omega, by omega, by rw [rp.length]; exact hl.2.2, fun t ht => ?_⟩
      have rr : ∀ m : Nat, Reps X.K (gx G (anyFz [a, b])) H [] (List.replicate m vs).flatten (List.replicate m xs).flatten := fun m => by
        induction m with
        | zero => exact .nil
        | succ m ih =>
          rw [List.replicate_succ, List.replicate_succ, List.flatten_cons, List.flatten_cons]
          exact ih.append (rp.fz fz_left)
      exact k _ _ [t] (same_upd ht) (ok_list rfl ht (rr _)) nodup1 fun a z => by rw [List.mem_singleton.mp z]; exact ht
    · cases hs
  · cases hs
theorem ok_fdiv : OpR X (binaryOp .FloorDiv) (rel2 X.K .fdiv) := OpR.of op_fdivW fun x y H Q h => by
  obtain ⟨p, q, r, rfl, rfl, hs, k⟩ := at2 h fun a b d hs => by
    have hs : dFdiv a b = some d := hs
    unfold dFdiv at hs
    split at hs
    · split at hs
      · cases hs; exact ⟨_, _, _, rfl, rfl, rfl⟩
      · cases hs
    · cases hs
  change dFdiv _ _ = some _ at hs
  unfold dFdiv at hs
  split at hs
  · rename_i i j e1 e2
    split at hs
    · rename_i hm
      cases e1; cases e2; cases hs
      exact ⟨i, j, rfl, rfl, hm, k⟩
    · cases hs
  · cases hs
theorem ok_mod : OpR X (binaryOp .Mod) (rel2 X.K .mod) := OpR.of op_mod fun x y H Q h => by
  obtain ⟨p, q, r, rfl, rfl, hs, k⟩ := at2 h fun a b d hs => by
    have hs : dMod a b = some d := hs
    unfold dMod at hs
    split at hs
    · split at hs
      · cases hs; exact ⟨_, _, _, rfl, rfl, rfl⟩
      · cases hs
    · cases hs
  change dMod _ _ = some _ at hs
  unfold dMod at hs
  split at hs
  · rename_i i j e1 e2
    split at hs
    · rename_i hm
      cases e1; cases e2; cases hs
      exact ⟨i, j, rfl, rfl, hm, k⟩
    · cases hs
  · cases hs
theorem ok_pow : OpR X (binaryOp .Pow) (rel2 X.K .pow) := OpR.of op_pow fun x y H Q h => by
  obtain ⟨p, q, r, rfl, rfl, hs, k⟩ := at2 h fun a b d hs => by
    have hs : dPow a b = some d := hs
    unfold dPow at hs
    split at hs
    · split at hs
      · cases hs; exact ⟨_, _, _, rfl, rfl, rfl⟩
      · cases hs
    · cases hs
  change dPow _ _ = some _ at hs
  unfold dPow at hs
  split at hs
  · rename_i i j e1 e2
    split at hs
    · rename_i hm
      cases e1; cases e2; cases hs
      exact ⟨i, j, rfl, rfl, hm, k⟩
    · cases hs
  · cases hs
theorem ok_shl : OpR X (binaryOp .LShift) (rel2 X.K .shl) := OpR.of op_shl fun x y H Q h => by
  obtain ⟨p, q, r, rfl, rfl, hs, k⟩ := at2 h fun a b d hs => by
    have hs : dShl a b = some d := hs
    unfold dShl at hs
    split at hs
    · split at hs
      · cases hs; exact ⟨_, _, _, rfl, rfl, rfl⟩
      · cases hs
    · cases hs
  change dShl _ _ = some _ at hs
  unfold dShl at hs
  split at hs
  · rename_i i j e1 e2
    split at hs
    · rename_i hm
      cases e1; cases e2; cases hs
      exact ⟨i, j, rfl, rfl, hm, k⟩
    · cases hs
  · cases hs
theorem ok_shr : OpR X (binaryOp .RShift) (rel2 X.K .shr) := OpR.of op_shr fun x y H Q h => by
  obtain ⟨p, q, r, rfl, rfl, hs, k⟩ := at2 h fun a b d hs => by
    have hs : dShr a b = some d := hs
    unfold dShr at hs
    split at hs
    · split at hs
      · cases hs; exact ⟨_, _, _, rfl, rfl, rfl⟩
      · cases hs
    · cases hs
  change dShr _ _ = some _ at hs
  unfold dShr at hs
  split at hs
  · rename_i i j e1 e2
    split at hs
    · rename_i hm
      cases e1; cases e2; cases hs
      exact ⟨i, j, rfl, rfl, hm, k⟩
    · cases hs
  · cases hs
theorem ok_band : OpR X (binaryOp .BitAnd) (rel2 X.K .band) := OpR.of op_and fun x y H Q h => by
  obtain ⟨p, q, r, rfl, rfl, hs, k⟩ := at2 h fun a b d hs => by
    have hs : dBand a b = some d := hs
    unfold dBand at hs
    split at hs
    · cases hs; exact ⟨_, _, _, rfl, rfl, rfl⟩
    · cases hs
  change dBand _ _ = some _ at hs
  unfold dBand at hs
  split at hs
  · rename_i i j e1 e2
    cases e1; cases e2; cases hs
    exact ⟨i, j, rfl, rfl, k⟩
  · cases hs
theorem ok_cmp {op : CmpOp} {o : Op} {f : Int → Int → Bool} (h : OpR X (compareOp op) (rI0 fun i j => .bl (f i j))) (ho : ∀ a b, opSem o [a, b] = dCmp f a b) : OpR X (compareOp op) (rel2 X.K o) := OpR.of h fun x y H Q h => by
  obtain ⟨p, q, r, rfl, rfl, hs, k⟩ := at2 h fun a b d hs => by
    rw [ho] at hs
    unfold dCmp at hs
    split at hs
    · cases hs; exact ⟨_, _, _, rfl, rfl, rfl⟩
    · cases hs
  rw [ho] at hs
  unfold dCmp at hs
  split at hs
  · rename_i i j e1 e2
    cases e1; cases e2; cases hs
    exact ⟨i, j, rfl, rfl, k⟩
  · cases hs
theorem ok_isb : OpR X (compareOp .Is) (rel2 X.K .isb) := OpR.of op_is_bl fun x y H Q h => by
  obtain ⟨p, q, r, rfl, rfl, e, k⟩ := at2 h fun a b d hs => by
    cases a with
    | nd t xs => simp [opSem] at hs
    | «at» a =>
      cases b with
      | nd t xs => cases a <;> simp [opSem] at hs
      | «at» b =>
        cases a <;> cases b <;> simp [opSem] at hs
        exact ⟨_, _, _, rfl, rfl, hs.symm⟩
  cases p <;> cases q <;> simp [opSem] at e
  subst e
  exact ⟨_, _, rfl, rfl, k⟩
theorem ok_lt : OpR X (compareOp .Lt) (rel2 X.K .lt) := ok_cmp op_lt fun _ _ => rfl
theorem ok_le : OpR X (compareOp .LtE) (rel2 X.K .le) := ok_cmp op_le fun _ _ => rfl
theorem ok_gt : OpR X (compareOp .Gt) (rel2 X.K .gt) := ok_cmp op_gt fun _ _ => rfl
theorem ok_ge : OpR X (compareOp .GtE) (rel2 X.K .ge) := ok_cmp op_ge fun _ _ => rfl
end
end Px
namespace Px
open PySem L2

/-! ### == -/
mutual
theorem eqOk_lay : ∀ (n : Nat) (d : D), eqOk n d = true → (toPy d).canLay0 = true ∧ (toPy d).depth ≤ n
  | n, .at a, h => by
    cases a with
    | str x => cases n <;> exact ⟨by rw [toPy, PyData.canLay0]; exact h, by rw [toPy, PyData.depth]; exact Nat.zero_le _⟩
    | non => exact ⟨by rw [toPy, PyData.canLay0], by rw [toPy, PyData.depth]; exact Nat.zero_le _⟩
    | bl b => exact ⟨by rw [toPy, PyData.canLay0], by rw [toPy, PyData.depth]; exact Nat.zero_le _⟩
    | int i => exact ⟨by rw [toPy, PyData.canLay0], by rw [toPy, PyData.depth]; exact Nat.zero_le _⟩
  | 0, .nd t xs, h => by cases t <;> cases h
  | n + 1, .nd t xs, h => by
    cases t with
    | lst =>
      obtain ⟨h1, h2⟩ := eqOks_lay n xs h
      exact ⟨by rw [toPy, PyData.canLay0]; exact h1, by rw [toPy, PyData.depth]; exact Nat.succ_le_succ h2⟩
    | tup =>
      obtain ⟨h1, h2⟩ := eqOks_lay n xs h
      exact ⟨by rw [toPy, PyData.canLay0]; exact h1, by rw [toPy, PyData.depth]; exact Nat.succ_le_succ h2⟩
    | _ => cases h
theorem eqOks_lay : ∀ (n : Nat) (ds : List D), eqOks n ds = true → PyData.canLayAll0 (ds.map toPy) = true ∧ PyData.depthAll (ds.map toPy) ≤ n
  | n, [], _ => ⟨by rw [List.map_nil, PyData.canLayAll0], by rw [List.map_nil, PyData.depthAll]; exact Nat.zero_le _⟩
  | n, d :: ds, h => by
    have h' : eqOk n d = true ∧ eqOks n ds = true := by rw [eqOks, Bool.and_eq_true] at h; exact h
    obtain ⟨h1, h2⟩ := eqOk_lay n d h'.1
    obtain ⟨h3, h4⟩ := eqOks_lay n ds h'.2
    exact ⟨by rw [List.map_cons, PyData.canLayAll0, h1, h3]; rfl, by rw [List.map_cons, PyData.depthAll]; exact Nat.max_le.mpr ⟨h2, h4⟩⟩
end
mutual
theorem view_dp {K : W.Frag} {H : Hp} : ∀ (n : Nat) (d : D) (v : V), eqOk n d = true → View K H v d → Dp K H v (toPy d)
  | n, .at a, v, h, r => by
    rw [r.at_inv.1]
    cases a with
    | non => rw [toPy]; exact .non
    | bl b => rw [toPy]; exact .bl b
    | int i => rw [toPy]; exact .int i
    | str x => rw [toPy]; exact .str x
  | 0, .nd t xs, _, h, _ => by cases t <;> cases h
  | n + 1, .nd t xs, v, h, r => by
    obtain ⟨p, vs, rfl, h1, h2⟩ : ∃ p vs, v = .ref p ∧ NodeR K H t p vs ∧ Reps K H H [] vs xs := by
      cases r with
      | tup q1 q2 => exact ⟨_, _, rfl, q1, q2⟩
      | frz q1 q2 => exact ⟨_, _, rfl, q1, q2⟩
    cases t with
    | lst => rw [toPy]; exact .lst h1.sq (views_dp n xs vs h h2)
    | tup => rw [toPy]; exact .tup (SqT.of h1) (views_dp n xs vs h h2)
    | _ => cases h
theorem views_dp {K : W.Frag} {H : Hp} : ∀ (n : Nat) (ds : List D) (vs : List V), eqOks n ds = true → Views K H vs ds → DpAll K H vs (ds.map toPy)
  | n, [], vs, _, r => by
    obtain ⟨_, rfl⟩ := r.inv_nil
    exact .nil
  | n, d :: ds, vs, h, r => by
    obtain ⟨v, us, rfl, h1, h2⟩ := r.uncons
    have h' : eqOk n d = true ∧ eqOks n ds = true := by rw [eqOks, Bool.and_eq_true] at h; exact h
    exact .cons (view_dp n d v h'.1 h1) (views_dp n ds us h'.2 h2)
end
mutual
theorem deq_py : ∀ (a b : D) (n m : Nat), eqOk n a = true → eqOk m b = true → deq a b = PyData.eqv (toPy a) (toPy b)
  | .at a, .at b, _, _, _, _ => by cases a <;> cases b <;> simp [deq, toPy, PyData.eqv]
  | .at a, .nd t xs, _, m, _, h => by
    cases t <;> (cases a <;> simp [deq, toPy, PyData.eqv] <;> (cases m <;> cases h))
  | .nd t xs, .at b, n, _, h, _ => by
    cases t <;> (cases b <;> simp [deq, toPy, PyData.eqv] <;> (cases n <;> cases h))
  | .nd t xs, .nd u ys, n, m, h, h' => by
    cases n with
    | zero => cases t <;> cases h
    | succ n =>
      cases m with
      | zero => cases u <;> cases h'
      | succ m =>
        cases t with
        | lst =>
          cases u with
          | lst => rw [deq, toPy, toPy, PyData.eqv]; exact deqs_py xs ys n m h h'
          | tup => simp [deq, toPy, PyData.eqv]
          | _ => cases h'
        | tup =>
          cases u with
          | tup => rw [deq, toPy, toPy, PyData.eqv]; exact deqs_py xs ys n m h h'
          | lst => simp [deq, toPy, PyData.eqv]
          | _ => cases h'
        | _ => cases h
theorem deqs_py : ∀ (xs ys : List D) (n m : Nat), eqOks n xs = true → eqOks m ys = true → deqs xs ys = PyData.eqvAll (xs.map toPy) (ys.map toPy)
  | [], [], _, _, _, _ => by simp [deqs, PyData.eqvAll]
  | [], _ :: _, _, _, _, _ => by simp [deqs, PyData.eqvAll]
  | _ :: _, [], _, _, _, _ => by simp [deqs, PyData.eqvAll]
  | x :: xs, y :: ys, n, m, h, h' => by
    rw [eqOks, Bool.and_eq_true] at h h'
    rw [deqs, List.map_cons, List.map_cons, PyData.eqvAll, deq_py x y n m h.1 h'.1, deqs_py xs ys n m h.2 h'.2]
end
section
variable {X : Cx}
def rEqR (K : W.Frag) (neg : Bool) : R2 := fun x y H Q => ∃ d e, Dp K H x d ∧ Dp K H y e ∧ d.canLay0 = true ∧ e.canLay0 = true ∧ d.depth ≤ 190 ∧ Q (.bl (if neg then !PyData.eqv d e else PyData.eqv d e)) H
theorem op_eqR (hu : X.A.units + 200 < cLine) : OpR X (compareOp .Eq) (rEqR X.K false) := by
  intro pins s σ H x y v u Q I rx ry h
  obtain ⟨d, e, hd, he, ld, le, dp, q⟩ := h
  obtain ⟨as, r1⟩ := Dp.reads I d x v hd rx
  obtain ⟨bs, r2⟩ := Dp.reads I e y u he ry
  have hm : min d.depth e.depth ≤ 190 := Nat.le_trans (Nat.min_le_left _ _) dp
  exact SeqAt.compareEq_reads r1 r2 ld le (by omega) ⟨.bl _, H, I, rfl, q⟩
theorem op_neR (hu : X.A.units + 200 < cLine) : OpR X (compareOp .NotEq) (rEqR X.K true) := by
  intro pins s σ H x y v u Q I rx ry h
  obtain ⟨d, e, hd, he, ld, le, dp, q⟩ := h
  obtain ⟨as, r1⟩ := Dp.reads I d x v hd rx
  obtain ⟨bs, r2⟩ := Dp.reads I e y u he ry
  have hm : min d.depth e.depth ≤ 190 := Nat.le_trans (Nat.min_le_left _ _) dp
  exact SeqAt.compareNe_reads r1 r2 ld le (by omega) ⟨.bl _, H, I, rfl, q⟩
/-- two lists of other lengths, whatever is in them -/
def rEqL (K : W.Frag) (neg : Bool) : R2 := fun x y H Q => ∃ p q vs us, x = .ref p ∧ y = .ref q ∧ SqL K H p vs ∧ SqL K H q us ∧ vs.length ≠ us.length ∧ Q (.bl neg) H
theorem op_eqL (hu : X.A.units < cLine) : OpR X (compareOp .Eq) (rEqL X.K false) := by
  intro pins s σ H x y v u Q I rx ry h
  obtain ⟨p, q, vs, us, rfl, rfl, h1, h2, hl, k⟩ := h
  cases (show v = Value.ref p from rx)
  cases (show u = Value.ref q from ry)
  obtain ⟨ws, r1, p1, _⟩ := I.list h1
  obtain ⟨zs, r2, p2, _⟩ := I.list h2
  have hsz : (ws.toArray.size != zs.toArray.size) = true := by
    rw [List.size_toArray, List.size_toArray, ← r1.length, ← r2.length]
    simpa using hl
  exact SeqAt.RcAt.lists_lengths p1.isList p2.isList hsz hu _ _ _ _ ⟨.bl false, H, I, rfl, k⟩
theorem op_neL (hu : X.A.units < cLine) : OpR X (compareOp .NotEq) (rEqL X.K true) := by
  intro pins s σ H x y v u Q I rx ry h
  obtain ⟨p, q, vs, us, rfl, rfl, h1, h2, hl, k⟩ := h
  cases (show v = Value.ref p from rx)
  cases (show u = Value.ref q from ry)
  obtain ⟨ws, r1, p1, _⟩ := I.list h1
  obtain ⟨zs, r2, p2, _⟩ := I.list h2
  have hsz : (ws.toArray.size != zs.toArray.size) = true := by
    rw [List.size_toArray, List.size_toArray, ← r1.length, ← r2.length]
    simpa using hl
  exact SeqAt.RcNeAt.lists_lengths p1.isList p2.isList hsz hu _ _ _ _ ⟨.bl true, H, I, rfl, k⟩
theorem view_nd {K : W.Frag} {H : Hp} {v : V} {t : NT} {ds : List D} (h : View K H v (.nd t ds)) : ∃ p vs, v = .ref p ∧ NodeR K H t p vs ∧ Reps K H H [] vs ds := by
  cases h with
  | tup q1 q2 => exact ⟨_, _, rfl, q1, q2⟩
  | frz q1 q2 => exact ⟨_, _, rfl, q1, q2⟩
theorem eq_inv {K : W.Frag} {o : Op} {v w : V} {H : Hp} {Q : VK} {f : Bool → Bool} (h : rel2 K o v w H Q) (ho : ∀ a b, opSem o [a, b] = (dEq a b).map fun c => .bl (f c)) :
    (∃ x y, v = .str x ∧ w = .str y ∧ Q (.bl (f (x == y))) H) ∨ (∃ d e, Dp K H v d ∧ Dp K H w e ∧ d.canLay0 = true ∧ e.canLay0 = true ∧ d.depth ≤ 190 ∧ Q (.bl (f (PyData.eqv d e))) H) ∨
      ∃ p q vs us, v = .ref p ∧ w = .ref q ∧ SqL K H p vs ∧ SqL K H q us ∧ vs.length ≠ us.length ∧ Q (.bl (f false)) H := by
  obtain ⟨G, a, b, R, R', d, e, h1, h2, hs, hd, hr, k⟩ := two_inv h
  rw [ho] at hs
  cases q : dEq a.d b.d with
  | none => rw [q] at hs; cases hs
  | some c =>
    rw [q] at hs; cases hs
    have fin : Q (.bl (f c)) H := k (.bl (f c)) H [] (Same.refl _) ok_atom List.nodup_nil fun _ z => by cases z
    unfold dEq at q
    split at q
    · rename_i x y e1 e2
      cases q
      exact .inl ⟨x, y, h1.at_inv e1, h2.at_inv e2, fin⟩
    · split at q
      · rename_i hok
        rw [Bool.and_eq_true] at hok
        cases q
        have l1 := eqOk_lay _ _ hok.1
        have l2 := eqOk_lay _ _ hok.2
        refine .inr (.inl ⟨toPy a.d, toPy b.d, view_dp 190 _ _ hok.1 (h1.view e), view_dp 190 _ _ hok.2 (h2.view e), l1.1, l2.1, l1.2, ?_⟩)
        rw [← deq_py _ _ _ _ hok.1 hok.2]
        exact fin
      · unfold dLens at q
        split at q
        · rename_i xs ys e1 e2
          split at q
          · rename_i hl
            cases q
            have va := h1.view e
            have vb := h2.view e
            rw [e1] at va
            rw [e2] at vb
            obtain ⟨p, us, rfl, n1, r1⟩ := view_nd va
            obtain ⟨q, ws, rfl, n2, r2⟩ := view_nd vb
            exact .inr (.inr ⟨p, q, us, ws, rfl, rfl, n1.sq, n2.sq, by rw [r1.length, r2.length]; exact hl, fin⟩)
          · cases q
        · cases q
theorem ok_eq (hu : X.A.units + 200 < cLine) : OpR X (compareOp .Eq) (rel2 X.K .eq) := OpR.of (op_eq.or ((op_eqR hu).or (op_eqL (by omega)))) fun x y H Q h => by
  rcases eq_inv (f := id) h fun _ _ => rfl with ⟨a, b, rfl, rfl, q⟩ | ⟨d, e, h1, h2, h3, h4, h5, q⟩ | q
  · refine .inl ⟨rfl, ?_⟩
    rw [dec_str]
    exact q
  · exact .inr (.inl ⟨d, e, h1, h2, h3, h4, h5, q⟩)
  · exact .inr (.inr q)
theorem ok_ne (hu : X.A.units + 200 < cLine) : OpR X (compareOp .NotEq) (rel2 X.K .ne) := OpR.of (op_ne.or ((op_neR hu).or (op_neL (by omega)))) fun x y H Q h => by
  rcases eq_inv (f := fun c => !c) h fun _ _ => rfl with ⟨a, b, rfl, rfl, q⟩ | ⟨d, e, h1, h2, h3, h4, h5, q⟩ | q
  · refine .inl ⟨rfl, ?_⟩
    rw [dec_str]
    exact q
  · exact .inr (.inl ⟨d, e, h1, h2, h3, h4, h5, q⟩)
  · exact .inr (.inr q)

/-! ### dicts looked at -/
theorem keysOf_map : ∀ {es : List D} {ks : List Key} {vs : List V} {K : W.Frag} {G H : Hp} {R : List Addr}, keysOf es = some ks → Reps K G H R vs es → vs = ks.map kV
  | [], ks, vs, _, _, _, _, h, r => by
    cases h
    obtain ⟨_, rfl⟩ := r.inv_nil
    rfl
  | d :: ds, ks, vs, _, _, _, _, h, r => by
    obtain ⟨_, _, v, us, _, rfl, h1, h2⟩ := r.inv_cons
    unfold keysOf at h
    cases p : keyOf d with
    | none => rw [p] at h; cases h
    | some k =>
      cases q : keysOf ds with
      | none => rw [p, q] at h; cases h
      | some ks' =>
        rw [p, q] at h; cases h
        rw [List.map_cons, keysOf_map q h2]
        congr 1
        cases d with
        | nd t xs => cases p
        | «at» a =>
          rw [h1.at_inv.1]
          cases a <;> cases p <;> rfl
theorem keyOf_v {d : D} {k : Key} {v : V} {K : W.Frag} {G H : Hp} {R : List Addr} (h : keyOf d = some k) (r : Rep K G H R v d) : v = kV k := by
  cases d with
  | nd t xs => cases h
  | «at» a =>
    rw [r.at_inv.1]
    cases a <;> cases h <;> rfl
theorem valV_cons {κ : Type} [DecidableEq κ] {k' k : κ} {v : V} {kvs : List (κ × V)} : valV ((k', v) :: kvs) k = if k' = k then some v else valV kvs k := by
  unfold valV
  rw [List.find?_cons]
  by_cases h : k' = k
  · rw [if_pos h]; simp [h]
  · rw [if_neg h]; simp [h]
theorem lookK_val {κ : Type} [DecidableEq κ] {K : W.Frag} {G H : Hp} : ∀ {kvs : List (κ × V)} {ks : List κ} {ds : List D} {k : κ}, kvs.map (·.1) = ks → Reps K G H [] (kvs.map (·.2)) ds →
    (lookK ks ds k = none → valV kvs k = none) ∧ ∀ d, lookK ks ds k = some d → ∃ v, valV kvs k = some v ∧ Rep K G H [] v d
  | [], ks, ds, k, e, r => by
    subst e
    refine ⟨fun _ => rfl, fun d h => ?_⟩
    unfold lookK at h
    simp at h
  | (k', v) :: kvs, ks, ds, k, e, r => by
    subst e
    cases ds with
    | nil => obtain ⟨_, z⟩ := r.inv_nil; cases z
    | cons d ds =>
      obtain ⟨v', us, ev, h1, h2⟩ := r.uncons
      cases ev
      have ih := lookK_val (k := k) rfl h2
      rw [List.map_cons, valV_cons]
      unfold lookK
      by_cases hk : k' = k
      · subst hk
        rw [if_pos rfl, if_pos rfl]
        refine ⟨(fun z => by cases z), fun d' h => ?_⟩
        cases h
        exact ⟨v, rfl, h1⟩
      · rw [if_neg hk, if_neg hk]
        exact ih
end
end Px
namespace Px
open PySem L2
theorem dLook_dK {ks : List Key} {ds : List D} {k : D} : dLook (.nd (.dK ks) ds) k = (keyOf k).map fun k => lookK ks ds k := by
  unfold dLook
  cases k <;> rfl
theorem tup_inv {K : W.Frag} {G H : Hp} {R : List Addr} {w : V} {es : List D} (e : Same G H) (h : Rep K G H R w (.nd .tup es)) : ∃ b us, w = .ref b ∧ H b = some (.tup us) ∧ Reps K G H R us es := by
  cases h with
  | tup q1 q2 => exact ⟨_, _, rfl, q1, q2⟩
  | frz q1 q2 => exact ⟨_, _, rfl, e _ _ q1, q2⟩
  | own q1 q2 => exact q1.elim
section
variable {X : Cx}
theorem dLook_get {K : W.Frag} {G Gk H : Hp} {t : NT} {p : Addr} {vs : List V} {ds : List D} {k : D} {o : Option D} {w : V} {R : List Addr} (hn : NodeR K H t p vs) (hr : Reps K G H [] vs ds) (eG : Same Gk H) (hk : Rep K Gk H R w k) (h : dLook (.nd t ds) k = some o) :
    ∃ ov, DGet H p w ov ∧ (o = none → ov = none) ∧ ∀ d, o = some d → ∃ v, ov = some v ∧ Rep K G H [] v d := by
  cases t with
  | dK ks =>
    rw [dLook_dK] at h
    obtain ⟨kvs, h1, h2, h3⟩ := hn
    cases q : keyOf k with
    | none => rw [q] at h; cases h
    | some kk =>
      rw [q] at h; cases h
      have z := lookK_val (k := kk) h2 (show Reps K G H [] (kvs.map (·.2)) ds by rw [h3]; exact hr)
      exact ⟨_, .inl ⟨kvs, kk, h1, keyOf_v q hk, rfl⟩, z⟩
  | dT ks =>
    obtain ⟨kvs, h1, h2, h3⟩ := hn
    cases k with
    | «at» a => cases h
    | nd t' es =>
      cases t' with
      | tup =>
        have h : (keysOf es).map (fun k => lookK ks ds k) = some o := h
        cases q : keysOf es with
        | none => rw [q] at h; cases h
        | some kk =>
          rw [q] at h; cases h
          have z := lookK_val (k := kk) h2 (show Reps K G H [] (kvs.map (·.2)) ds by rw [h3]; exact hr)
          obtain ⟨b, us, rfl, hb, hu⟩ := tup_inv eG hk
          exact ⟨_, .inr ⟨kvs, kk, b, h1, rfl, by rw [hb, keysOf_map q hu], rfl⟩, z⟩
      | _ => cases h
  | _ => cases h
/-! ### in -/
theorem flat_v {K : W.Frag} {G H : Hp} : ∀ {ds : List D} {vs : List V}, Reps K G H [] vs ds → ds.all flatD = true → vs.all flatV = true
  | [], vs, r, _ => by obtain ⟨_, rfl⟩ := r.inv_nil; rfl
  | d :: ds, vs, r, h => by
    obtain ⟨v, us, rfl, h1, h2⟩ := r.uncons
    rw [List.all_cons, Bool.and_eq_true] at h
    rw [List.all_cons, flat_v h2 h.2, Bool.and_true]
    cases d with
    | nd t xs => cases h.1
    | «at» a => rw [h1.at_inv.1]; cases a <;> rfl
theorem eqV_deq (a b : At) : eqV (atV a) (atV b) = deq (.at a) (.at b) := by
  cases a <;> cases b <;> simp [eqV, atV, deq]
theorem inV_deq {K : W.Frag} {G H : Hp} {a : At} : ∀ {ds : List D} {vs : List V}, Reps K G H [] vs ds → ds.all flatD = true → inV (atV a) vs = ds.any fun y => deq y (.at a)
  | [], vs, r, _ => by obtain ⟨_, rfl⟩ := r.inv_nil; rfl
  | d :: ds, vs, r, h => by
    obtain ⟨v, us, rfl, h1, h2⟩ := r.uncons
    rw [List.all_cons, Bool.and_eq_true] at h
    have ih := inV_deq (a := a) h2 h.2
    unfold inV at ih ⊢
    rw [List.any_cons, List.any_cons, ih]
    cases d with
    | nd t xs => cases h.1
    | «at» b => rw [h1.at_inv.1, eqV_deq]
theorem any_deq {a : D} {n m : Nat} (ha : eqOk n a = true) : ∀ {ys : List D}, eqOks m ys = true → (ys.map toPy).any (fun z => PyData.eqv z (toPy a)) = ys.any fun y => deq y a
  | [], _ => rfl
  | y :: ys, h => by
    rw [eqOks, Bool.and_eq_true] at h
    rw [List.map_cons, List.any_cons, List.any_cons, any_deq ha h.2, deq_py _ _ _ _ h.1 ha]
theorem shaped_of {n : Nat} {d : D} (h : eqOk n d = true) (hn : n ≤ 64) : SeqAt.shaped (toPy d) = true := by
  have l := eqOk_lay n d h
  unfold SeqAt.shaped
  rw [l.1, Bool.true_and]
  exact decide_eq_true (Nat.le_trans l.2 hn)
def rInD2 (K : W.Frag) (neg : Bool) : R2 := fun x y H Q => ∃ a ov, y = .ref a ∧ DGet H a x ov ∧ Q (.bl (if neg then !ov.isSome else ov.isSome)) H
theorem op_inDict (hu : X.A.units + 1 < cLine) : OpR X (compareOp .In) (rInD2 X.K false) := by
  intro pins s σ H x y v u Q I rx ry h
  obtain ⟨a, ov, rfl, g, q⟩ := h
  cases ry
  exact d_in hu I g rx fun s' I' => ⟨.bl ov.isSome, H, I', rfl, q⟩
theorem op_notInDict (hu : X.A.units + 1 < cLine) : OpR X (compareOp .NotIn) (rInD2 X.K true) := by
  intro pins s σ H x y v u Q I rx ry h
  obtain ⟨a, ov, rfl, g, q⟩ := h
  cases ry
  exact d_notIn hu I g rx fun s' I' => ⟨.bl (!ov.isSome), H, I', rfl, q⟩
def rInS0 (neg : Bool) : R2 := fun x y H Q => ∃ i j, x = .str i ∧ y = .str j ∧ Q (.bl (if neg then !(!(Builtin.Str.occurrences j i 0 j.length 1).isEmpty) else !(Builtin.Str.occurrences j i 0 j.length 1).isEmpty)) H
def rInL (K : W.Frag) (neg : Bool) : R2 := fun x y H Q => ∃ d ds, Dp K H x d ∧ Dp K H y (.list ds) ∧ SeqAt.shaped d = true ∧ SeqAt.shaped (.list ds) = true ∧ Q (.bl (if neg then !ds.any fun z => PyData.eqv z d else ds.any fun z => PyData.eqv z d)) H
theorem dIn_at {a : D} {y : At} {c : Bool} (h : dIn a (.at y) = some c) : ∃ x z, a = .at (.str x) ∧ y = .str z ∧ c = !(Builtin.Str.occurrences z x 0 z.length 1).isEmpty := by
  cases a with
  | nd t xs => cases h
  | «at» x =>
    cases x with
    | str x =>
      cases y with
      | str z => cases h; exact ⟨x, z, rfl, rfl, rfl⟩
      | _ => cases h
    | _ => cases h
theorem dIn_lst {a : D} {ys : List D} : dIn a (.nd .lst ys) = if (flatD a && ys.all flatD) = true then some (ys.any fun y => deq y a) else if (eqOk 60 a && eqOks 60 ys) = true then some (ys.any fun y => deq y a) else none := by
  cases a with
  | nd t xs => rfl
  | «at» x => cases x <;> rfl
theorem dIn_tup {a : D} {ys : List D} : dIn a (.nd .tup ys) = if (flatD a && ys.all flatD) = true then some (ys.any fun y => deq y a) else none := by
  cases a with
  | nd t xs => rfl
  | «at» x => cases x <;> rfl
theorem dIn_ktup {a : D} {ys : List D} : dIn a (.nd .ktup ys) = if (flatD a && ys.all flatD) = true then some (ys.any fun y => deq y a) else none := by
  cases a with
  | nd t xs => rfl
  | «at» x => cases x <;> rfl
theorem dIn_dK {a : D} {ks : List Key} {ys : List D} : dIn a (.nd (.dK ks) ys) = (dLook (.nd (.dK ks) ys) a).map Option.isSome := by
  cases a with
  | nd t xs => rfl
  | «at» x => cases x <;> rfl
theorem dIn_dT {a : D} {ks : List (List Key)} {ys : List D} : dIn a (.nd (.dT ks) ys) = (dLook (.nd (.dT ks) ys) a).map Option.isSome := by
  cases a with
  | nd t xs => rfl
  | «at» x => cases x <;> rfl
theorem in_inv {K : W.Frag} {o : Op} {v w : V} {H : Hp} {Q : VK} {neg : Bool} (h : rel2 K o v w H Q) (ho : ∀ a b, opSem o [a, b] = (dIn a b).map fun c => .bl (if neg then !c else c)) :
    rInS0 neg v w H Q ∨ rIn K neg v w H Q ∨ rInL K neg v w H Q ∨ rInD2 K neg v w H Q := by
  obtain ⟨G, a, b, R, R', d, e, h1, h2, hs, hd, hr, k⟩ := two_inv h
  rw [ho] at hs
  cases q : dIn a.d b.d with
  | none => rw [q] at hs; cases hs
  | some c =>
    rw [q] at hs; cases hs
    have fin : Q (.bl (if neg then !c else c)) H := k (.bl (if neg then !c else c)) H [] (Same.refl _) ok_atom List.nodup_nil fun _ z => by cases z
    have va := h1.view e
    have vb := h2.view e
    have dict : ∀ {t : NT} {ys : List D}, b.d = .nd t ys → (dLook (.nd t ys) a.d).map Option.isSome = some c → rInS0 neg v w H Q ∨ rIn K neg v w H Q ∨ rInL K neg v w H Q ∨ rInD2 K neg v w H Q := fun {t ys} ed q => by
      rw [ed] at vb
      cases l : dLook (.nd t ys) a.d with
      | none => rw [l] at q; cases q
      | some o =>
        rw [l] at q
        cases q
        obtain ⟨p, vs, rfl, n1, r1⟩ := view_nd vb
        obtain ⟨ov, g, z1, z2⟩ := dLook_get n1 r1 (Same.refl _) va l
        refine .inr (.inr (.inr ⟨p, ov, rfl, g, ?_⟩))
        have eo : ov.isSome = o.isSome := by
          cases o with
          | none => rw [z1 rfl] <;> rfl
          | some d => obtain ⟨v', ev, _⟩ := z2 d rfl; rw [ev] <;> rfl
        rw [eo]
        cases neg <;> exact fin
    have seq : ∀ {t : NT} {ys : List D}, b.d = .nd t ys → (∀ p vs, NodeR K H t p vs → SqL K H p vs ∨ SqT K H p vs) → flatD a.d = true → ys.all flatD = true → c = (ys.any fun y => deq y a.d) → rIn K neg v w H Q := fun {t ys} e1 hq fa fy ec => by
      rw [e1] at vb
      obtain ⟨p, vs, rfl, n1, r1⟩ := view_nd vb
      cases ea : a.d with
      | nd t xs => rw [ea] at fa; cases fa
      | «at» x =>
        rw [ea] at va ec
        have ev := va.at_inv.1
        subst ev
        refine ⟨p, vs, rfl, hq p vs n1, by cases x <;> rfl, flat_v r1 fy, ?_⟩
        rw [inV_deq r1 fy, ← ec]
        cases neg <;> exact fin
    cases ed : b.d with
    | «at» y =>
      rw [ed] at q
      obtain ⟨x, z, e1, e2, ec⟩ := dIn_at q
      subst ec e2
      refine .inl ⟨x, z, h1.at_inv e1, h2.at_inv ed, ?_⟩
      cases neg <;> exact fin
    | nd t ys =>
      rw [ed] at q
      cases t with
      | lst =>
        rw [dIn_lst] at q
        split at q
        · rename_i hf
          rw [Bool.and_eq_true] at hf
          cases q
          exact .inr (.inl (seq ed (fun p vs z => .inl z.sq) hf.1 hf.2 rfl))
        · split at q
          · rename_i hf
            rw [Bool.and_eq_true] at hf
            cases q
            rw [ed] at vb
            have hb : eqOk 61 (.nd .lst ys) = true := by rw [eqOk]; exact hf.2
            refine .inr (.inr (.inl ⟨toPy a.d, ys.map toPy, view_dp 60 _ _ hf.1 va, ?_, shaped_of hf.1 (by decide), ?_, ?_⟩))
            · have z := view_dp 61 _ _ hb vb
              rw [toPy] at z
              exact z
            · have z := shaped_of hb (by decide)
              rw [toPy] at z
              exact z
            · rw [any_deq hf.1 hf.2]
              cases neg <;> exact fin
          · cases q
      | tup =>
        rw [dIn_tup] at q
        split at q
        · rename_i hf
          rw [Bool.and_eq_true] at hf
          cases q
          exact .inr (.inl (seq ed (fun p vs z => .inr (SqT.of z)) hf.1 hf.2 rfl))
        · cases q
      | ktup =>
        rw [dIn_ktup] at q
        split at q
        · rename_i hf
          rw [Bool.and_eq_true] at hf
          cases q
          exact .inr (.inl (seq ed (fun p vs z => .inr (sqT_same same_no z)) hf.1 hf.2 rfl))
        · cases q
      | dK ks =>
        rw [dIn_dK] at q
        exact dict (t := .dK ks) (ys := ys) ed q
      | dT ks =>
        rw [dIn_dT] at q
        exact dict (t := .dT ks) (ys := ys) ed q
theorem ok_in (hu : X.A.units + 200 < cLine) : OpR X (compareOp .In) (rel2 X.K .inn) := OpR.of (op_in_str.or (op_in_seq.or ((op_inD (by omega)).or (op_inDict (by omega))))) fun x y H Q h => by
  rcases in_inv (neg := false) h (fun _ _ => by simp only [opSem]; rfl) with q | q | q | q
  · exact .inl q
  · exact .inr (.inl q)
  · exact .inr (.inr (.inl q))
  · exact .inr (.inr (.inr q))
theorem ok_notIn (hu : X.A.units + 200 < cLine) : OpR X (compareOp .NotIn) (rel2 X.K .notIn) := OpR.of (op_notIn_str.or (op_notIn_seq.or ((op_notInD (by omega)).or (op_notInDict (by omega))))) fun x y H Q h => by
  rcases in_inv (neg := true) h (fun _ _ => by simp only [opSem]; rfl) with q | q | q | q
  · exact .inl q
  · exact .inr (.inl q)
  · exact .inr (.inr (.inl q))
  · exact .inr (.inr (.inr q))
end
end Px
namespace Px
open PySem L2
theorem IxR.of {X : Cx} {r r' : R2} (h : IxR X r) (w : ∀ x y H Q, r' x y H Q → r x y H Q) : IxR X r' := fun a b pins s σ H x y v u Q I rx ry q => h a b pins s σ H x y v u Q I rx ry (w x y H Q q)
theorem SlR.of {X : Cx} {r r' : V → Option Int → Option Int → Hp → VK → Prop} (h : SlR X r) (w : ∀ x a b H Q, r' x a b H Q → r x a b H Q) : SlR X r' := fun pins s σ H x v vl vu lo hi sl Q I rx hs pl pu q => h pins s σ H x v vl vu lo hi sl Q I rx hs pl pu (w x lo hi H Q q)
def rIxD : R2 := fun x y H Q => ∃ a v, x = .ref a ∧ DGet H a y (some v) ∧ Q v H
section
variable {X : Cx}
theorem ix_dict (hu : X.A.units + 1 < cLine) : IxR X rIxD := by
  intro value slice pins s σ H x y v u Q I rx ry h hs
  obtain ⟨a, z, rfl, g, q⟩ := h
  cases rx
  exact PyProof.Rows.tail_any (dict_typeIs I g) PySem.F.slot_dict_getitem.lookup (d_getItem hu I g ry fun w' s' I' rw' => ⟨z, H, I', rw', q⟩) hs
theorem atI_rep {K : W.Frag} {G H : Hp} {ds : List D} {vs : List V} {i : Int} {d : D} (r : Reps K G H [] vs ds) (h : atI ds i = some d) : ∃ v, atI vs i = some v ∧ Rep K G H [] v d := by
  have hl := r.length ds
  unfold atI at h ⊢
  rw [hl]
  cases q : ixN ds.length i with
  | none => rw [q] at h; cases h
  | some j =>
    rw [q] at h
    exact r.get h
theorem dIx_dK {ks : List Key} {ds : List D} {k : D} : dIx (.nd (.dK ks) ds) k = (dLook (.nd (.dK ks) ds) k).join := by cases k <;> rfl
theorem dIx_dT {ks : List (List Key)} {ds : List D} {k : D} : dIx (.nd (.dT ks) ds) k = (dLook (.nd (.dT ks) ds) k).join := by cases k <;> rfl
theorem ok_ix (hu : X.A.units + 200 < cLine) : IxR X (rel2 X.K .ix) := IxR.of (ix_list.or (ix_tup.or (ix_str.or (ix_dict (by omega))))) fun x y H Q h => by
  obtain ⟨G, a, b, R, R', d, e, h1, h2, hs, hd, hr, k⟩ := two_inv h
  have hs : dIx a.d b.d = some d := hs
  obtain ⟨da, db⟩ := hd rfl
  have fin : ∀ v, Rep X.K (gx G (anyFz [a, b])) H [] v d → Q v H := fun v r => k v H [] (Same.refl _) (ok_tag rfl rfl r) List.nodup_nil fun _ z => by cases z
  cases ea : a.d with
  | «at» x =>
    rw [ea] at hs
    cases x with
    | str z =>
      cases eb : b.d with
      | nd t xs => rw [eb] at hs; cases hs
      | «at» y =>
        rw [eb] at hs
        cases y with
        | int i =>
          have hs : (if z.length ≤ szLim then (atI z.cps.toList i).map fun c => D.str ⟨#[c]⟩ else none) = some d := hs
          split at hs
          · rename_i hl
            cases q : atI z.cps.toList i with
            | none => rw [q] at hs; cases hs
            | some c =>
              rw [q] at hs; cases hs
              exact .inr (.inr (.inl ⟨z, i, c, h1.at_inv ea, h2.at_inv eb, hl, q, fin _ (.at (.str _))⟩))
          · cases hs
        | _ => cases hs
    | _ => cases hs
  | nd t xs =>
    obtain ⟨p, vs, rfl, n1, r1⟩ := h1.kids e da ea
    rw [ea] at hs
    have seq : ∀ i : Int, b.d = .int i → atI xs i = some d → ∃ v, y = .int i ∧ atI vs i = some v ∧ Q v H := fun i eb hi => by
      obtain ⟨v, q1, q2⟩ := atI_rep r1 hi
      exact ⟨v, h2.at_inv eb, q1, fin v (q2.monoG (gx_imp fz_left) _)⟩
    have dic : (dLook (.nd t xs) b.d).join = some d → rIxD (.ref p) y H Q := fun hj => by
      cases q : dLook (.nd t xs) b.d with
      | none => rw [q] at hj; cases hj
      | some o =>
        rw [q] at hj
        have ho : o = some d := hj
        obtain ⟨ov, g, _, z2⟩ := dLook_get n1 r1 (gx_same e) h2.1 q
        obtain ⟨v, rfl, rv⟩ := z2 d ho
        exact ⟨p, v, rfl, g, fin v (rv.monoG (gx_imp fz_left) _)⟩
    cases t with
    | lst =>
      cases eb : b.d with
      | nd u ys => rw [eb] at hs; cases hs
      | «at» z =>
        rw [eb] at hs
        cases z with
        | int i => obtain ⟨v, e1, e2, e3⟩ := seq i eb hs; exact .inl ⟨p, vs, i, v, rfl, e1, n1.sq, e2, e3⟩
        | _ => cases hs
    | tup =>
      cases eb : b.d with
      | nd u ys => rw [eb] at hs; cases hs
      | «at» z =>
        rw [eb] at hs
        cases z with
        | int i => obtain ⟨v, e1, e2, e3⟩ := seq i eb hs; exact .inr (.inl ⟨p, vs, i, v, rfl, e1, SqT.of n1, e2, e3⟩)
        | _ => cases hs
    | ktup =>
      cases eb : b.d with
      | nd u ys => rw [eb] at hs; cases hs
      | «at» z =>
        rw [eb] at hs
        cases z with
        | int i => obtain ⟨v, e1, e2, e3⟩ := seq i eb hs; exact .inr (.inl ⟨p, vs, i, v, rfl, e1, sqT_same same_no n1, e2, e3⟩)
        | _ => cases hs
    | dK ks => rw [dIx_dK] at hs; exact .inr (.inr (.inr (dic hs)))
    | dT ks => rw [dIx_dT] at hs; exact .inr (.inr (.inr (dic hs)))

/-! ### slices -/
theorem cut_rep {K : W.Frag} {G H : Hp} {ds : List D} {vs : List V} {lo hi : Option Int} (r : Reps K G H [] vs ds) : Reps K G H [] (cutV vs lo hi) (cutD ds lo hi) := by
  unfold cutV cutD
  rw [r.length ds]
  exact (r.drop _).take _
/-- what a slice asks: the data sliced, its bounds -/
def relSl (K : W.Frag) (x : V) (lo hi : Option Int) (H : Hp) (Q : VK) : Prop := ∃ G a R d, Same G H ∧ ValOk K G H R x a ∧ a.ow ≠ .deep ∧ dSl a.d lo hi = some d ∧
  ∀ v H' R, Same H H' → ValOk K G H' R v ((Op.sl true true).tag a.fz d) → R.Nodup → (∀ a ∈ R, H a = none) → Q v H'
def rSlS0 : V → Option Int → Option Int → Hp → VK → Prop := fun x lo hi H Q => ∃ z, x = .str z ∧ z.length ≤ sizeLine ∧ Q (.str (cutS z lo hi)) H
theorem ok_sl : SlR X (relSl X.K) := SlR.of (sl_list.or (sl_tup.or sl_str)) fun x lo hi H Q h => by
  obtain ⟨G, a, R, d, e, h1, da, hs, k⟩ := h
  cases ea : a.d with
  | «at» y =>
    rw [ea] at hs
    cases y with
    | str z =>
      have hs : (if z.length ≤ szLim then some (D.str (cutS z lo hi)) else none) = some d := hs
      split at hs
      · rename_i hl
        cases hs
        exact .inr (.inr ⟨z, h1.at_inv ea, hl, k (.str (cutS z lo hi)) H [] (Same.refl _) ok_atom List.nodup_nil fun _ z => by cases z⟩)
      · cases hs
    | _ => cases hs
  | nd t xs =>
    obtain ⟨p, vs, rfl, n1, r1⟩ := h1.kids e da ea
    rw [ea] at hs
    cases t with
    | lst =>
      cases hs
      refine .inl ⟨p, vs, rfl, n1.sq, fun q hq => ?_⟩
      exact k _ _ [q] (same_upd hq) (ok_list (o := .sl true true) rfl hq (cut_rep r1)) nodup1 fun a z => by rw [List.mem_singleton.mp z]; exact hq
    | tup =>
      have hs : (if (cutD xs lo hi).length < xs.length then some (D.tup (cutD xs lo hi)) else none) = some d := hs
      split at hs
      · rename_i hl
        cases hs
        refine .inr (.inl ⟨p, vs, rfl, SqT.of n1, fun z => ?_, fun q hq => ?_⟩)
        · unfold cutD at hl
          rw [← r1.length xs, z.1, z.2] at hl
          simp [List.length_take, List.length_drop, r1.length xs] at hl
        · exact k _ _ [] (same_upd hq) (ok_tup (o := .sl true true) hq (cut_rep r1)) List.nodup_nil fun _ z => by cases z
      · cases hs
    | _ => cases hs
end
end Px
namespace Px
open PySem L2
section
variable {X : Cx}
theorem one_inv {K : W.Frag} {o : Op} {vs : List V} {H : Hp} {Q : VK} (h : relO K o vs H Q) (hl : vs.length = 1) : ∃ v G a R d, vs = [v] ∧ Same G H ∧ ValOk K G H R v a ∧ opSem o [a.d] = some d ∧ (o.flow = true → a.ow ≠ .deep) ∧
    ∀ v H' R, Same H H' → ValOk K G H' R v (o.tag a.fz d) → R.Nodup → (∀ a ∈ R, H a = none) → Q v H' := by
  obtain ⟨G, xs, x, e, hp, ho, k⟩ := h
  match vs, hl with
  | [v], _ =>
    obtain ⟨a, R, rfl, h1⟩ := pair1 hp
    obtain ⟨d, hs, rfl, hd, hr⟩ := opVal_inv ho
    have ef : anyFz [a] = a.fz := by simp [anyFz]
    rw [ef] at k
    exact ⟨v, G, a, R, d, rfl, e, h1, hs, fun z => notDeep (hd z) (by simp), k⟩
theorem two_inv' {K : W.Frag} {o : Op} {vs : List V} {H : Hp} {Q : VK} (h : relO K o vs H Q) (hl : vs.length = 2) : ∃ v w, vs = [v, w] ∧ rel2 K o v w H Q := by
  match vs, hl with
  | [v, w], _ => exact ⟨v, w, rfl, h⟩
def lenRel (K : W.Frag) (o : Op) (n : Nat) (vs : List V) (H : Hp) (Q : VK) : Prop := vs.length = n ∧ relO K o vs H Q
theorem call_lenDict : CallR X (.builtin "len") (fun xs H Q => ∃ p kvs, xs = [.ref p] ∧ Rd H p (.dK kvs) ∧ Q (.int kvs.length) H) := by
  intro pins s σ H xs us Q I r h
  obtain ⟨p, kvs, rfl, hd, q⟩ := h
  obtain ⟨u, rfl, rx⟩ := vals1 r
  cases rx
  exact d_len I hd fun t s' I' => ⟨.int _, H, I', ⟨t, rfl⟩, q⟩
theorem ok_len : CallR X (.builtin "len") (lenRel X.K .len 1) := CallR.of (call_len_seq.or (call_len_str.or call_lenDict)) fun vs H Q h => by
  obtain ⟨v, G, a, R, d, rfl, e, h1, hs, _, k⟩ := one_inv h.2 h.1
  have hs : dLen a.d = some d := hs
  have va := h1.view e
  have fin : ∀ i : Int, d = .int i → Q (.int i) H := fun i ed => by subst ed; exact k _ H [] (Same.refl _) ok_atom List.nodup_nil fun _ z => by cases z
  cases ea : a.d with
  | «at» x =>
    rw [ea] at hs
    cases x with
    | str z =>
      have hs : (if z.length ≤ szLim then some (D.int z.length) else none) = some d := hs
      split at hs
      · rename_i hl
        cases hs
        exact .inr (.inl ⟨z, by rw [h1.at_inv ea]; rfl, hl, fin _ rfl⟩)
      · cases hs
    | _ => cases hs
  | nd t xs =>
    rw [ea] at hs va
    obtain ⟨p, us, rfl, n1, r1⟩ := view_nd va
    cases t with
    | lst => cases hs; exact .inl ⟨p, us, rfl, .inl n1.sq, by rw [r1.length]; exact fin _ rfl⟩
    | tup => cases hs; exact .inl ⟨p, us, rfl, .inr (SqT.of n1), by rw [r1.length]; exact fin _ rfl⟩
    | ktup => cases hs; exact .inl ⟨p, us, rfl, .inr (sqT_same same_no n1), by rw [r1.length]; exact fin _ rfl⟩
    | dK ks =>
      cases hs
      obtain ⟨kvs, z1, z2, z3⟩ := n1
      refine .inr (.inr ⟨p, kvs, rfl, z1, ?_⟩)
      have el : kvs.length = ks.length := by rw [← z2, List.length_map]
      rw [el]
      exact fin _ rfl
    | dT ks => cases hs
theorem ok_abs : CallR X (.builtin "abs") (lenRel X.K .abs 1) := CallR.of call_abs fun vs H Q h => by
  obtain ⟨v, G, a, R, d, rfl, e, h1, hs, _, k⟩ := one_inv h.2 h.1
  cases ea : a.d with
  | nd t xs => rw [ea] at hs; cases hs
  | «at» x =>
    rw [ea] at hs
    cases x with
    | int i => cases hs; exact ⟨i, by rw [h1.at_inv ea]; rfl, k (.int _) H [] (Same.refl _) ok_atom List.nodup_nil fun _ z => by cases z⟩
    | _ => cases hs
theorem int2 {o : Op} {f : Int → Int → Int} (ho : ∀ a b d, opSem o [a, b] = some d → ∃ i j, a = .int i ∧ b = .int j ∧ d = .int (f i j)) {vs : List V} {H : Hp} {Q : VK} (h : lenRel X.K o 2 vs H Q) : ∃ i j, vs = [.int i, .int j] ∧ Q (.int (f i j)) H := by
  obtain ⟨v, w, rfl, q⟩ := two_inv' h.2 h.1
  obtain ⟨G, a, b, R, R', d, e, h1, h2, hs, hd, hr, k⟩ := two_inv q
  obtain ⟨i, j, ea, eb, rfl⟩ := ho _ _ _ hs
  exact ⟨i, j, by rw [h1.at_inv ea, h2.at_inv eb]; rfl, k (.int _) H [] (Same.refl _) ok_atom List.nodup_nil fun _ z => by cases z⟩
theorem ok_max2 (hc : X.calm = true) : CallR X (.builtin "max") (lenRel X.K .max2 2) := CallR.of (call_max2 hc) fun vs H Q h => by
  refine int2 (f := fun i j => if j > i then j else i) (fun a b d hs => ?_) h
  cases a with
  | nd t xs => cases hs
  | «at» x =>
    cases x with
    | int i =>
      cases b with
      | nd t xs => cases hs
      | «at» y =>
        cases y with
        | int j => cases hs; exact ⟨i, j, rfl, rfl, rfl⟩
        | _ => cases hs
    | _ => cases hs
theorem ok_min2 (hc : X.calm = true) : CallR X (.builtin "min") (lenRel X.K .min2 2) := CallR.of (call_min2 hc) fun vs H Q h => by
  refine int2 (f := fun i j => if j < i then j else i) (fun a b d hs => ?_) h
  cases a with
  | nd t xs => cases hs
  | «at» x =>
    cases x with
    | int i =>
      cases b with
      | nd t xs => cases hs
      | «at» y =>
        cases y with
        | int j => cases hs; exact ⟨i, j, rfl, rfl, rfl⟩
        | _ => cases hs
    | _ => cases hs
theorem onInts_inv {K : W.Frag} {G H : Hp} {R : List Addr} {v : V} {a : Val} {f : List Int → Option Int} {d : D} (e : Same G H) (h1 : ValOk K G H R v a) (hs : onInts f a.d = some d) : ∃ p ns m, v = .ref p ∧ SqL K H p (ns.map V.int) ∧ f ns = some m ∧ d = .int m := by
  have va := h1.view e
  cases ea : a.d with
  | «at» x => rw [ea] at hs; cases hs
  | nd t xs =>
    rw [ea] at hs va
    obtain ⟨p, us, rfl, n1, r1⟩ := view_nd va
    cases t with
    | lst =>
      have hs : ((intsOf xs).bind fun ns => (f ns).map D.int) = some d := hs
      cases q : intsOf xs with
      | none => rw [q] at hs; cases hs
      | some ns =>
        rw [q] at hs
        have hs : (f ns).map D.int = some d := hs
        cases q2 : f ns with
        | none => rw [q2] at hs; cases hs
        | some m =>
          rw [q2] at hs; cases hs
          exact ⟨p, ns, m, rfl, by rw [← r1.ints q]; exact n1.sq, q2, rfl⟩
    | _ => cases hs
theorem ok_sum (hc : X.calm = true) : CallR X (.builtin "sum") (lenRel X.K .sum 1) := CallR.of (cr_sum hc) fun vs H Q h => by
  obtain ⟨v, G, a, R, d, rfl, e, h1, hs, _, k⟩ := one_inv h.2 h.1
  obtain ⟨p, ns, m, rfl, h2, h3, rfl⟩ := onInts_inv e h1 hs
  cases h3
  exact ⟨p, ns, rfl, h2, k (.int _) H [] (Same.refl _) ok_atom List.nodup_nil fun _ z => by cases z⟩
theorem max_eq {ns : List Int} {m n : Int} (h : ns.max? = some m) (h1 : n ∈ ns) (h2 : ∀ y, y ∈ ns → y ≤ n) : n = m := by
  have q := (List.max?_eq_some_iff).mp h
  have a := h2 m q.1
  have b := q.2 n h1
  omega
theorem min_eq {ns : List Int} {m n : Int} (h : ns.min? = some m) (h1 : n ∈ ns) (h2 : ∀ y, y ∈ ns → n ≤ y) : n = m := by
  have q := (List.min?_eq_some_iff).mp h
  have a := h2 m q.1
  have b := q.2 n h1
  omega
theorem ok_max1 (hc : X.calm = true) : CallR X (.builtin "max") (lenRel X.K .max1 1) := CallR.of (cr_max hc) fun vs H Q h => by
  obtain ⟨v, G, a, R, d, rfl, e, h1, hs, _, k⟩ := one_inv h.2 h.1
  obtain ⟨p, ns, m, rfl, h2, h3, rfl⟩ := onInts_inv e h1 hs
  refine ⟨p, ns, rfl, h2, ?_, fun n z1 z2 => ?_⟩
  · cases ns with
    | nil => cases h3
    | cons _ _ => exact Nat.succ_pos _
  · rw [max_eq h3 z1 z2]
    exact k (.int _) H [] (Same.refl _) ok_atom List.nodup_nil fun _ z => by cases z
theorem ok_min1 (hc : X.calm = true) : CallR X (.builtin "min") (lenRel X.K .min1 1) := CallR.of (cr_min hc) fun vs H Q h => by
  obtain ⟨v, G, a, R, d, rfl, e, h1, hs, _, k⟩ := one_inv h.2 h.1
  obtain ⟨p, ns, m, rfl, h2, h3, rfl⟩ := onInts_inv e h1 hs
  refine ⟨p, ns, rfl, h2, ?_, fun n z1 z2 => ?_⟩
  · cases ns with
    | nil => cases h3
    | cons _ _ => exact Nat.succ_pos _
  · rw [min_eq h3 z1 z2]
    exact k (.int _) H [] (Same.refl _) ok_atom List.nodup_nil fun _ z => by cases z
theorem onBls_inv {K : W.Frag} {G H : Hp} {R : List Addr} {v : V} {a : Val} {f : List Bool → Bool} {d : D} (e : Same G H) (h1 : ValOk K G H R v a) (hs : onBls f a.d = some d) : ∃ p ns, v = .ref p ∧ SqL K H p (ns.map V.bl) ∧ d = .bl (f ns) := by
  have va := h1.view e
  cases ea : a.d with
  | «at» x => rw [ea] at hs; cases hs
  | nd t xs =>
    rw [ea] at hs va
    obtain ⟨p, us, rfl, n1, r1⟩ := view_nd va
    cases t with
    | lst =>
      have hs : ((blsOf xs).map fun bs => D.bl (f bs)) = some d := hs
      cases q : blsOf xs with
      | none => rw [q] at hs; cases hs
      | some ns =>
        rw [q] at hs; cases hs
        exact ⟨p, ns, rfl, by rw [← r1.bls q]; exact n1.sq, rfl⟩
    | _ => cases hs
theorem ok_all (hc : X.calm = true) : CallR X (.builtin "all") (lenRel X.K .all 1) := CallR.of (cr_all hc) fun vs H Q h => by
  obtain ⟨v, G, a, R, d, rfl, e, h1, hs, _, k⟩ := one_inv h.2 h.1
  obtain ⟨p, ns, rfl, h2, rfl⟩ := onBls_inv e h1 hs
  exact ⟨p, ns, rfl, h2, k (.bl _) H [] (Same.refl _) ok_atom List.nodup_nil fun _ z => by cases z⟩
theorem ok_any (hc : X.calm = true) : CallR X (.builtin "any") (lenRel X.K .any 1) := CallR.of (cr_any hc) fun vs H Q h => by
  obtain ⟨v, G, a, R, d, rfl, e, h1, hs, _, k⟩ := one_inv h.2 h.1
  obtain ⟨p, ns, rfl, h2, rfl⟩ := onBls_inv e h1 hs
  exact ⟨p, ns, rfl, h2, k (.bl _) H [] (Same.refl _) ok_atom List.nodup_nil fun _ z => by cases z⟩
theorem ok_int1 : CallR X (.type "int") (lenRel X.K .int1 1) := CallR.of call_int1 fun vs H Q h => by
  obtain ⟨v, G, a, R, d, rfl, e, h1, hs, _, k⟩ := one_inv h.2 h.1
  cases ea : a.d with
  | nd t xs => rw [ea] at hs; cases hs
  | «at» x =>
    rw [ea] at hs
    cases x with
    | int i => cases hs; exact .inl ⟨i, by rw [h1.at_inv ea]; rfl, k (.int _) H [] (Same.refl _) ok_atom List.nodup_nil fun _ z => by cases z⟩
    | bl b => cases hs; exact .inr ⟨b, by rw [h1.at_inv ea]; rfl, k (.int _) H [] (Same.refl _) ok_atom List.nodup_nil fun _ z => by cases z⟩
    | _ => cases hs
theorem reps_keys {K : W.Frag} {G H : Hp} {ks : List Key} : Reps K G H [] (ks.map kV) (ks.map keyD) := .of_get (by simp) fun i v d e1 e2 => by
  rw [List.getElem?_map] at e1 e2
  cases q : ks[i]? with
  | none => rw [q] at e1; cases e1
  | some k =>
    rw [q] at e1 e2; cases e1; cases e2
    cases k with
    | inl i => exact .at (.int i)
    | inr x => exact .at (.str x)
theorem ok_list1 (hc : X.calm = true) : CallR X (.type "list") (lenRel X.K .list1 1) := CallR.of (call_list_of.or (call_listD hc)) fun vs H Q h => by
  obtain ⟨v, G, a, R, d, rfl, e, h1, hs, da, k⟩ := one_inv h.2 h.1
  have da := da rfl
  cases ea : a.d with
  | «at» x => rw [ea] at hs; cases x <;> cases hs
  | nd t xs =>
    obtain ⟨p, vs, rfl, n1, r1⟩ := h1.kids e da ea
    rw [ea] at hs
    have fin : d = .lst xs → ∀ l, H l = none → Q (.ref l) (upd H l (.lst vs)) := fun ed l hl => by
      subst ed
      exact k _ _ [l] (same_upd hl) (ok_list rfl hl r1) nodup1 fun a z => by rw [List.mem_singleton.mp z]; exact hl
    cases t with
    | lst => cases hs; exact .inl ⟨p, vs, rfl, .inl n1.sq, fin rfl⟩
    | tup => cases hs; exact .inl ⟨p, vs, rfl, .inr (SqT.of n1), fin rfl⟩
    | ktup => cases hs; exact .inl ⟨p, vs, rfl, .inr (sqT_same same_no n1), fin rfl⟩
    | dK ks =>
      cases hs
      obtain ⟨kvs, hr, ek, ev⟩ := n1
      refine .inr ⟨p, kvs, rfl, hr, fun q hq => k _ _ [q] (same_upd hq) (ok_list rfl hq ?_) nodup1 fun a z => by rw [List.mem_singleton.mp z]; exact hq⟩
      subst ek
      rw [show kvs.map (fun kv => kV kv.1) = (kvs.map (·.1)).map kV by rw [List.map_map]; rfl]
      exact reps_keys
    | _ => cases hs
theorem ok_tuple1 : CallR X (.type "tuple") (lenRel X.K .tuple1 1) := CallR.of call_tuple_of fun vs H Q h => by
  obtain ⟨v, G, a, R, d, rfl, e, h1, hs, da, k⟩ := one_inv h.2 h.1
  have da := da rfl
  cases ea : a.d with
  | «at» x => rw [ea] at hs; cases x <;> cases hs
  | nd t xs =>
    obtain ⟨p, vs, rfl, n1, r1⟩ := h1.kids e da ea
    rw [ea] at hs
    cases t with
    | lst =>
      cases hs
      exact ⟨p, vs, rfl, .inl ⟨n1.sq, fun l hl => k _ _ [] (same_upd hl) (ok_tup hl r1) List.nodup_nil fun _ z => by cases z⟩⟩
    | tup =>
      cases hs
      exact ⟨p, vs, rfl, .inr ⟨SqT.of n1, k _ H [] (Same.refl _) (ok_no (.tup n1 r1)) List.nodup_nil fun _ z => by cases z⟩⟩
    | _ => cases hs
theorem sort_eq {ns ms : List Int} (h : ms.Perm ns) (hs : ms.Pairwise (· ≤ ·)) : ms = ns.mergeSort (fun a b => decide (a ≤ b)) := by
  refine List.Perm.eq_of_pairwise (le := fun a b => a ≤ b) (fun a b _ _ h1 h2 => Int.le_antisymm h1 h2) hs ?_ (h.trans (List.mergeSort_perm ns _).symm)
  have q := List.pairwise_mergeSort (le := fun a b : Int => decide (a ≤ b)) (fun a b c h1 h2 => by simp only [decide_eq_true_eq] at *; omega) (fun a b => by simp only [Bool.or_eq_true, decide_eq_true_eq]; omega) ns
  exact q.imp fun h => of_decide_eq_true h
theorem pair_val {K : W.Frag} {G H : Hp} {v : V} {d : D} {p : Int × Int} (e : Same G H) (h : Rep K G H [] v d) (hp : pairOf d = some p) : d = pairD p ∧ ∃ t, v = .ref t ∧ H t = some (.tup [.int p.1, .int p.2]) := by
  unfold pairOf at hp
  split at hp
  · rename_i i j
    cases hp
    obtain ⟨b, us, rfl, hb, r⟩ := tup_inv e h
    have := r.ints (ns := [i, j]) rfl
    subst this
    exact ⟨rfl, b, rfl, hb⟩
  · cases hp
/-- the two ints that stand at a place -/
def pairAt (H : Hp) : V → Int × Int
  | .ref t => match H t with
    | some (.tup [.int i, .int j]) => (i, j)
    | _ => (0, 0)
  | _ => (0, 0)
theorem pairAt_of {H : Hp} {t : Addr} {p : Int × Int} (h : H t = some (.tup [.int p.1, .int p.2])) : pairAt H (.ref t) = p := by
  unfold pairAt
  dsimp only
  rw [h]
theorem pairs_vals {K : W.Frag} {G H : Hp} (e : Same G H) : ∀ {ds : List D} {vs : List V} {ps : List (Int × Int)}, Reps K G H [] vs ds → pairsOf ds = some ps → vs.map (pairAt H) = ps ∧ ∀ v ∈ vs, Rep K G H [] v (pairD (pairAt H v)) ∧ ∃ t, v = .ref t ∧ H t = some (.tup [.int (pairAt H v).1, .int (pairAt H v).2])
  | [], _, _, r, hp => by
    obtain ⟨_, rfl⟩ := r.inv_nil
    cases hp
    exact ⟨rfl, fun _ z => by cases z⟩
  | d :: ds, _, _, r, hp => by
    obtain ⟨v, us, rfl, r1, r2⟩ := r.uncons
    unfold pairsOf at hp
    cases h1 : pairOf d with
    | none => rw [h1] at hp; cases hp
    | some p =>
      cases h2 : pairsOf ds with
      | none => rw [h1, h2] at hp; cases hp
      | some ps =>
        rw [h1, h2] at hp
        cases hp
        obtain ⟨q1, q2⟩ := pairs_vals e r2 h2
        obtain ⟨rfl, t, rfl, ht⟩ := pair_val e r1 h1
        have ep := pairAt_of ht
        refine ⟨by rw [List.map_cons, ep, q1], fun w hw => ?_⟩
        rcases List.mem_cons.mp hw with rfl | hw
        · rw [ep]; exact ⟨r1, t, rfl, ht⟩
        · exact q2 w hw
theorem reps_map {K : W.Frag} {G H : Hp} {f : V → D} : ∀ {vs : List V}, (∀ v ∈ vs, Rep K G H [] v (f v)) → Reps K G H [] vs (vs.map f)
  | [], _ => .nil
  | v :: vs, h => .cons0 (h v List.mem_cons_self) (reps_map fun w hw => h w (List.mem_cons_of_mem _ hw))
theorem lexB_iff {p q : Int × Int} : lexB p q = true ↔ p.1 < q.1 ∨ (p.1 = q.1 ∧ p.2 ≤ q.2) := by simp [lexB]
theorem sortP_eq {ps qs : List (Int × Int)} (h : qs.Perm ps) (hs : qs.Pairwise fun a b => lexB a b = true) : qs = ps.mergeSort lexB := by
  refine List.Perm.eq_of_pairwise (le := fun a b => lexB a b = true) (fun a b _ _ h1 h2 => ?_) hs ?_ (h.trans (List.mergeSort_perm ps _).symm)
  · rw [lexB_iff] at h1 h2
    exact Prod.ext (by omega) (by omega)
  · exact List.pairwise_mergeSort (fun a b c h1 h2 => by rw [lexB_iff] at *; omega) (fun a b => by simp only [Bool.or_eq_true, lexB_iff]; omega) ps
theorem ok_sortedI : CallR X (.builtin "sorted") (fun vs H Q => lenRel X.K .sorted1 1 vs H Q ∧ ∃ v a ns, vs = [v] ∧ View X.K H v a ∧ (∃ xs, a = .nd .lst xs ∧ intsOf xs = some ns) ∧ ∀ ms p, ms = ns.mergeSort (fun a b => decide (a ≤ b)) → H p = none → Q (.ref p) (upd H p (.lst (ms.map V.int)))) := CallR.of cr_sortedI fun vs H Q h => by
  obtain ⟨_, v, a, ns, rfl, va, ⟨xs, rfl, q⟩, k⟩ := h
  obtain ⟨p, us, rfl, n1, r1⟩ := view_nd va
  refine ⟨p, ns, rfl, by rw [← r1.ints q]; exact n1.sq, fun ms t hp ht hn => ?_⟩
  exact k ms t (sort_eq hp ht) hn
theorem ok_sortedP : CallR X (.builtin "sorted") (fun vs H Q => ∃ a us ps, vs = [V.ref a] ∧ SqL X.K H a us ∧ us.map (pairAt H) = ps ∧ (∀ v ∈ us, ∃ t, v = .ref t ∧ H t = some (.tup [.int (pairAt H v).1, .int (pairAt H v).2])) ∧
    ∀ ws p, ws.Perm us → ws.map (pairAt H) = ps.mergeSort lexB → H p = none → Q (.ref p) (upd H p (.lst ws))) := CallR.of cr_sortedPO fun vs H Q h => by
  obtain ⟨a, us, ps, rfl, hs, e, hx, k⟩ := h
  refine ⟨a, us, pairAt H, rfl, hs, fun x hx2 => ?_, fun ys p hy hb hn => ?_⟩
  · exact hx x hx2
  · refine k ys p hb.perm (sortP_eq (by rw [← e]; exact hb.perm.map _) ?_) hn
    rw [List.pairwise_map]
    refine List.Pairwise.imp (fun {x y} h => ?_) hy
    have h' : ¬ ((pairAt H y).1 < (pairAt H x).1 ∨ ((pairAt H y).1 = (pairAt H x).1 ∧ (pairAt H y).2 < (pairAt H x).2)) := SrtO.lexB_no.mp h
    rw [lexB_iff]
    omega
end
section
open PyProof.Rows


/-! ### list(reversed(xs)), sorted(d) with pairs for keys -/
section
variable {prog : Program} {w : World} {A : Around} {E : Value → Shared → Prop} {s : Shared}
theorem call_list_rev {it l : Addr} {items : Array Value} {Q : Value → Shared → Prop} (hh : A.handled = none) (hit : s.heap.IsRevIter it l ((items.size : Int) - 1)) (hl : s.heap.IsList l items) (hne : l ≠ it) (hn : items.size ≤ sizeLine)
    (hQ : ∀ (h' : Heap) (tk : Nat) (acc : Array Value) (c : Nat), (∀ b o, b ≠ it → s.heap.get? b = some o → h'.get? b = some o) → h'.get? s.heap.objs.size = some { cls := .type "list", dict := none, data := .seq acc c, slots := #[] } → ItemsOf (fun i v => items[items.size - 1 - i]? = some v) acc items.size →
      Q (.ref s.heap.objs.size) { s with heap := h', toks := tk }) :
    wpAny (model prog w) A (call (.type "list") [.ref it]) Q E s := by
  obtain ⟨oi, hoi, _⟩ := id hit
  obtain ⟨ol, hol, _⟩ := id hl
  have hSi : s.heap.objs.size ≠ it := Nat.ne_of_gt (Heap.lt_size hoi)
  have hSl : s.heap.objs.size ≠ l := Nat.ne_of_gt (Heap.lt_size hol)
  have hSf : s.heap.objs.size ∉ [it, l] := by simp only [List.mem_cons, List.not_mem_nil, or_false, not_or]; exact ⟨hSi, hSl⟩
  refine callType_codes (Q₁ := fun obj s₁ => obj = .ref s.heap.objs.size ∧ s₁ = { s with heap := s.heap.push { cls := .type "list", data := .seq #[] } }) PySem.F.called_list (PySem.F.typeCall_list_1 _) PySem.F.entry_list_init
    (code_list_new _ ⟨rfl, rfl⟩) fun obj s₁ h₁ => ?_
  obtain ⟨rfl, rfl⟩ := h₁
  have hS : (s.heap.push { cls := .type "list", data := .seq #[] }).get? s.heap.objs.size = some { cls := .type "list", data := .seq #[] } := Heap.get?_push_size _ rfl
  refine ⟨⟨_, hS, rfl⟩, PySem.F.args_list_init_2 _ _, ?_⟩
  have W := (Walks.listRev (prog := prog) (w := w) (A := A.in1.in1) hh it l hne items).toS
  show wpAny _ _ (do let old ← Builtin.List.listItems (.ref s.heap.objs.size); Builtin.List.listUpdate (.ref s.heap.objs.size) (fun _ => #[]); letGo old.toList.reverse; Builtin.List.listExtendWith (.ref s.heap.objs.size) (.ref it) .none) _ _ _
  refine wpAny_bind ?_
  unfold Builtin.List.listItems
  refine wpAny_bind (wpAny_seqItems hS rfl (wpAny_pure ?_))
  show wpAny _ _ (updateSeq s.heap.objs.size (fun _ => #[]) >>= fun _ => letGo (#[] : Array Value).toList.reverse >>= fun _ => Builtin.List.listExtendWith (.ref s.heap.objs.size) (.ref it) .none) _ _ _
  refine wpAny_bind (wpAny_updateSeq hS rfl ?_)
  have hS₂ := Heap.get?_update_self (Obj.mapSeq (fun _ => (#[] : Array Value))) hS rfl
  have oth : ∀ b o, b ≠ s.heap.objs.size → s.heap.get? b = some o → ((s.heap.push { cls := .type "list", data := .seq #[] }).update s.heap.objs.size (Obj.mapSeq (fun _ => (#[] : Array Value)))).get? b = some o :=
    fun b o hb e => (Heap.get?_update_other _ _ (Ne.symm hb)).trans (Heap.get?_push_of_some _ e)
  refine wpAny_bind (wpAny_letGo ?_)
  have hit1 : ((s.heap.push { cls := .type "list", data := .seq #[] }).update s.heap.objs.size (Obj.mapSeq (fun _ => (#[] : Array Value)))).IsRevIter it l ((items.size : Int) - 1) := hit.at fun o e => oth it o hSi.symm e
  have hl1 : ((s.heap.push { cls := .type "list", data := .seq #[] }).update s.heap.objs.size (Obj.mapSeq (fun _ => (#[] : Array Value)))).IsList l items := by
    obtain ⟨o, ho, r⟩ := id hl
    exact ⟨o, oth l o hSl.symm ho, r⟩
  generalize hg : (s.heap.push { cls := .type "list", data := .seq #[] }).update s.heap.objs.size (Obj.mapSeq (fun _ => (#[] : Array Value))) = h1 at hS₂ oth hit1 hl1 ⊢
  have hT : ({ s with heap := h1 } : Shared).TypeIs (.ref it) "list_reverseiterator" := Heap.IsRevIter.typeIs (s := { s with heap := h1 }) hit1
  have h1' : Builtin.List.listSameRef (.ref s.heap.objs.size) (.ref it) = false := by simp [Builtin.List.listSameRef, hSi]
  unfold Builtin.List.listExtendWith
  refine wpAny_bind (wpAny_typeOf hT ?_)
  rw [if_neg (by rw [h1']; decide)]
  refine wpAny_bind (wpAny_pyIter_revIter (s := { s with heap := h1 }) hit1 ?_)
  refine wpAny_bind (wpAny_holding ?_)
  unfold Builtin.List.listLengthHint
  refine wpAny_bind (wpAny_specialOf hT RT.nolen_lri ?_)
  show wpAny _ A.in1.in1 (specialOf (Value.ref it) (Str.ofString "__length_hint__") >>= _) _ _ _
  refine wpAny_bind (wpAny_specialOf hT RT.hint_lri ?_)
  generalize hid : ("list_reverseiterator.__length_hint__" : String) = id0
  wp_delta
  rw [show splitId id0 = some ("list_reverseiterator", "__length_hint__") from by subst hid; decide +kernel]
  subst hid
  refine wpAny_bind (wpAny_isInstance (b := true) hT (by rw [isSubtype_type]; kernel_rfl) ?_)
  refine wpAny_pure ?_
  rw [if_neg (by decide)]
  have e0 : ((items.size : Nat) : Int) - 1 - ((0 : Nat) : Int) = (items.size : Int) - 1 := by omega
  refine wpAny_pure ⟨plainId_quiet PySem.F.plain_extend_loop _, codeAny_extend_loopS W hn _ hSf _ items.size 0 _ _ _ rfl (Nat.zero_le _) ⟨Nat.zero_le _, by rw [e0]; exact hit1, hl1⟩ hS₂ (ItemsOf.nil _) fun s' acc' c' hm hS' hacc => ?_⟩
  rw [Moved.eq_with hm]
  refine ⟨rfl, hQ s'.heap s'.toks acc' c' (fun b o hb e => ?_) hS' hacc⟩
  have hbS : b ≠ s.heap.objs.size := Nat.ne_of_lt (Heap.lt_size e)
  refine hm.heap b o (fun hmem => ?_) (oth b o hbS e)
  rcases List.mem_cons.mp hmem with e' | hmem
  · exact hbS e'
  · exact hb (List.mem_singleton.mp hmem)
end
section
variable {X : Cx}
def tListRev (K : W.Frag) (te : TE) : TE := fun σ H Q => te σ H fun v H1 => ∃ (a : Addr) (xs : List V), v = .ref a ∧ SqL K H1 a xs ∧ ∀ q, H1 q = none → Q (.ref q) (upd H1 q (.lst xs.reverse))
theorem pe_listRev {e : Expr} {te : TE} {p p2 pos pos2 : Pos} (hc : X.calm = true) (hg : Gl X "list") (hm : X.mg "list" = none) (hg2 : Gl X "reversed") (hm2 : X.mg "reversed" = none) (he : PE X e te)
    (hs : starEach [e] X.env = (false, eval e X.env) :: starEach [] X.env := by rfl)
    (hs2 : starEach [.Call (.Name "reversed" p2) [e] [] pos2] X.env = (false, eval (.Call (.Name "reversed" p2) [e] [] pos2) X.env) :: starEach [] X.env := by rfl) :
    PE X (.Call (.Name "list" p) [.Call (.Name "reversed" p2) [e] [] pos2] [] pos) (tListRev X.K te) := by
  refine ⟨fun pins s σ H Q I h => ?_⟩
  refine Call_ (ld_blt I hg hm boot_list (PyProof.Rows.callWith_type1 (args_cons (Call_ (ld_blt I hg2 hm2 PyProof.Rows.boot_reversed (PyProof.Rows.callWith_type1 (args_cons (thn (he.run pins s σ H _ I h) fun u s1 ⟨v, H1, I1, r1, q1⟩ => args_nil ?_) hs) hs rfl))) hs2) hs2 rfl))
  obtain ⟨a, xs, ev, hq, q⟩ := q1
  subst ev
  obtain rfl : u = Value.ref a := r1
  obtain ⟨its, rv, p', hz⟩ := I1.list hq
  refine call_reversed_list p'.isList (args_nil ?_)
  have hl := p'.isList
  obtain ⟨ol, hol, _⟩ := id hl
  have hne : a ≠ s1.heap.objs.size := Nat.ne_of_lt (Heap.lt_size hol)
  have hn : its.toArray.size ≤ sizeLine := by rw [List.size_toArray, ← rv.length]; exact hz
  refine call_list_rev (s := { s1 with heap := s1.heap.push (revObj a ((its.toArray.size : Int) - 1)) }) (I1.ok.hd hc) ⟨_, Heap.get?_push_size _ rfl, rfl, rfl⟩ (hl.push _) hne hn fun h' tk acc c hk hS hi => ?_
  refine ⟨.ref _, upd H1 _ (.lst xs.reverse), I1.laid (t' := tk) (fun b o e => hk b o (Nat.ne_of_lt (Heap.lt_size e)) (Heap.get?_push_of_some _ e)) ?_ (show ObjOk X.prog X.w _ _ _ (.lst xs.reverse) from ⟨by rw [List.length_reverse]; exact hz, acc.toList, c, RT.vals_rev rv hi, ?_⟩), rfl, q _ (I1.hok.fresh ?_)⟩
  · rw [size_push']; exact Nat.le_succ _
  · rw [Array.toArray_toList]; exact hS
  · show _ ≤ (s1.heap.push _).objs.size
    rw [size_push']; exact Nat.le_succ _
end

section
variable {X : Cx}
theorem isPair_at {pins : List (Addr × Obj)} {s : Shared} {σ : L2.St} {H : Hp} (I : Inv X pins σ H s) {t : Addr} {i j : Int} (ht : H t = some (.tup [.int i, .int j])) : Srt.IsPair s.heap (.ref t) i j := by
  obtain ⟨_, its2, r2, o, ho, hc, n, hd⟩ := I.hok _ _ ht
  obtain ⟨u1, u2, rfl, ri, rj⟩ := vals2 r2
  obtain ⟨t1, rfl⟩ := ri
  obtain ⟨t2, rfl⟩ := rj
  exact ⟨t, o, t1, t2, n, rfl, ho, hc, hd⟩
/-- sorted(d), the keys of d pairs of ints -/
theorem call_sortedDT (hc : X.calm = true) : CallR X (.builtin "sorted") (fun xs H Q => ∃ d kvs, xs = [V.ref d] ∧ Rd H d (.dT kvs) ∧ (∀ kv ∈ kvs, ∃ i j : Int, kv.1 = [.inl i, .inl j]) ∧
    ∀ p bs ws, H p = none → IsKeys H kvs bs → ws.Perm (bs.map V.ref) → ws.Pairwise (fun x y => lexB (pairAt H x) (pairAt H y) = true) → Q (.ref p) (upd H p (.lst ws))) := by
  intro pins s σ H xs us Q I r h
  obtain ⟨d, kvs, rfl, hd, hpair, q⟩ := h
  obtain ⟨u, rfl, rx⟩ := r.one
  cases rx
  obtain ⟨z, hs, ks, pr, o, es, ep, ho, hx, hdt, he, hn⟩ := (show ObjOk X.prog X.w H s.heap d (.dT kvs) from hd.ok I.hok)
  have l1 : es.size = ks.length := size_of_entries he
  have l2 : kvs.length = ks.length := Paired.length pr
  refine Calls.call_function_entry PyProof.Rows.kind_sorted PyProof.Rows.plain_sorted PyProof.Rows.entry_sorted (PyProof.Rows.args_sorted1 _) ?_
  unfold Builtin.«sorted»
  refine wpAny_bind (m := checkCount "sorted" 1 1 _) (wpAny_pure ?_)
  refine wpAny_bind (PySem.W.kdu_collect (A := X.A.in1) (kdl_raw hs hx hdt) (I.ok.hd hc) ho (by omega) fun h' tk acc kp it => ?_)
  have ea : acc.toList = ks.map fun x => Value.ref x.2.1 := by
    have hl : acc.toList.length = ks.length := by rw [Array.length_toList, it.1]; exact l1
    apply List.ext_getElem?
    intro j
    rw [List.getElem?_map]
    cases hj : acc.toList[j]? with
    | none =>
      have h1 := List.getElem?_eq_none_iff.mp hj
      rw [List.getElem?_eq_none (by omega)]
      all_goals rfl
    | some v =>
      obtain ⟨en, hen, hv⟩ := it.2 j v (by rw [← Array.getElem?_toList]; exact hj)
      have qe := entry_at he j
      rw [hen] at qe
      cases hb : ks[j]? with
      | none =>
        rw [hb] at qe
        exact nomatch (show some en = none from qe)
      | some b =>
        rw [hb] at qe
        have e2 : en = entryOfKey (tupleKind (mixKind X.prog X.w)) b := Option.some.inj qe
        rw [hv, e2]
        all_goals rfl
  obtain ⟨bs, hbs⟩ : ∃ bs, bs = ks.map fun x => x.2.1 := ⟨_, rfl⟩
  have eb : acc.toList = bs.map Value.ref := by rw [ea, hbs, List.map_map]; all_goals rfl
  have hk : IsKeys H kvs bs := hbs ▸ isKeys_of pr
  have hz : (bs.map Value.ref).length ≤ sizeLine := by rw [hbs, List.length_map, List.length_map]; omega
  have I1 : Inv X pins σ H { s with heap := h', toks := tk } := I.kept kp
  have hpr : ∀ b ∈ bs, ∃ i j : Int, H b = some (.tup [.int i, .int j]) := fun b hb => by
    obtain ⟨n, hn, e⟩ := List.getElem_of_mem hb
    have hk' := hk
    unfold IsKeys at hk'
    have : ∀ {l : List (List Key × V)} {m : List Addr}, Paired (fun p b => H b = some (.tup (p.1.map kV))) l m → (∀ kv ∈ l, ∃ i j : Int, kv.1 = [.inl i, .inl j]) → ∀ b ∈ m, ∃ i j : Int, H b = some (.tup [.int i, .int j]) := by
      intro l m hp
      induction hp with
      | nil => intro _ b hb; cases hb
      | cons h1 h2 ih =>
        intro hq b hb
        rcases List.mem_cons.mp hb with rfl | hb
        · obtain ⟨i, j, e⟩ := hq _ List.mem_cons_self
          rw [e] at h1
          exact ⟨i, j, h1⟩
        · exact ih (fun kv hkv => hq kv (List.mem_cons_of_mem _ hkv)) b hb
    exact this hk' hpair b hb
  rw [eb]
  refine wpAny_bind (wpAny_newList ?_ hz)
  have hoL : (h'.push (seqObj "list" (bs.map Value.ref).toArray 0)).get? h'.objs.size = some (seqObj "list" (bs.map Value.ref).toArray 0) := Heap.get?_push_size _ rfl
  show wpAny _ _ _ _ _ { s with heap := h'.push (seqObj "list" (bs.map Value.ref).toArray 0), toks := tk }
  have hP : ∀ v ∈ bs.map Value.ref, Srt.IsPair (h'.push (seqObj "list" (bs.map Value.ref).toArray 0)) v (pairAt H (backV v)).1 (pairAt H (backV v)).2 := fun v hv => by
    obtain ⟨b, hb, rfl⟩ := List.mem_map.mp hv
    obtain ⟨i, j, e⟩ := hpr b hb
    have ep := pairAt_of (p := (i, j)) e
    show Srt.IsPair _ (.ref b) (pairAt H (.ref b)).1 (pairAt H (.ref b)).2
    rw [ep]
    exact (isPair_at I1 e).keeps fun c ob hc _ => Heap.get?_push_of_some _ hc
  refine wpAny_bind (wpAny_holding (wpAny_call_entry slot_list_sort ⟨_, hoL, rfl⟩ entry_list_sort (SrtO.list_sort_ord (s := { s with heap := h'.push (seqObj "list" (bs.map Value.ref).toArray 0), toks := tk }) (SrtO.swo_lex fun v => pairAt H (backV v)) hoL hz
    (fun h2 => SrtO.pairs_sortableO (s := { s with heap := h'.push (seqObj "list" (bs.map Value.ref).toArray 0), toks := tk }) (by omega) hP fun ob hob => by
      have e' : some ob = some (seqObj "list" (bs.map Value.ref).toArray 0) := hob.symm.trans hoL
      cases e'
      intro c
      exact absurd (Value.type.inj c) (by decide))
    fun out hs hb => ⟨_, rfl, ?_⟩) (args_list_sort _)))
  obtain ⟨e', he'⟩ := PyProof.Rows.sortedHeap_at (vs := bs.map Value.ref) (out := out.toArray) hoL
  have h3 : ∀ u ∈ out, ∃ a, u = Value.ref a := fun u hu => by
    obtain ⟨b, _, rfl⟩ := List.mem_map.mp (hb.perm.mem_iff.mp hu)
    exact ⟨b, rfl⟩
  have hpm : (out.map backV).Perm (bs.map V.ref) := by
    have := hb.perm.map backV
    rw [List.map_map] at this
    exact this
  refine wpAny_pure ⟨_, rfl, .ref h'.objs.size, upd H h'.objs.size (.lst (out.map backV)), I1.laid (t' := tk) (fun b u e => ?_) (Nat.le_refl _)
    (show ObjOk X.prog X.w _ _ _ (.lst (out.map backV)) from ⟨by rw [hpm.length_eq, List.length_map]; rw [List.length_map] at hz; exact hz, out, e', vals_back h3, he'⟩), rfl, q _ bs _ (I1.hok.fresh (Nat.le_refl _)) hk hpm ?_⟩
  · have hb : b < h'.objs.size := Heap.lt_size e
    rw [PyProof.Rows.sortedHeap_old (Nat.ne_of_lt hb) (by rw [size_push']; exact Nat.lt_succ_of_lt hb)]
    exact Heap.get?_push_of_some _ e
  · rw [List.pairwise_map]
    refine List.Pairwise.imp (fun {x y} h => ?_) hs
    have h' := SrtO.lexB_no.mp h
    rw [lexB_iff]
    omega
end
end
section
variable {X : Cx}
theorem kpairs_all : ∀ {ks : List (List Key)} {ps : List (Int × Int)}, kpairsOf ks = some ps → ks = ps.map fun p => [.inl p.1, .inl p.2]
  | [], ps, h => by cases h; rfl
  | k :: ks, ps, h => by
    unfold kpairsOf at h
    split at h
    · rename_i z; cases z
    · rename_i i j ks' z
      cases z
      cases q : kpairsOf ks with
      | none => rw [q] at h; cases h
      | some qs => rw [q] at h; cases h; rw [List.map_cons, ← kpairs_all q]
    · cases h
theorem kints_all : ∀ {ks : List Key} {ps : List Int}, kintsOf ks = some ps → ks = ps.map Sum.inl
  | [], ps, h => by cases h; rfl
  | k :: ks, ps, h => by
    unfold kintsOf at h
    split at h
    · rename_i z; cases z
    · rename_i i ks' z
      cases z
      cases q : kintsOf ks with
      | none => rw [q] at h; cases h
      | some qs => rw [q] at h; cases h; rw [List.map_cons, ← kints_all q]
    · cases h
theorem keys_pairs {H : Hp} : ∀ {kvs : List (List Key × V)} {bs : List Addr} {ps : List (Int × Int)}, IsKeys H kvs bs → kvs.map (·.1) = ps.map (fun p => ([.inl p.1, .inl p.2] : List Key)) → (bs.map V.ref).map (pairAt H) = ps ∧ ∀ v ∈ bs.map V.ref, ∃ t, v = .ref t ∧ H t = some (.tup [.int (pairAt H v).1, .int (pairAt H v).2])
  | [], bs, ps, h, e => by
    cases h
    cases ps with
    | nil => exact ⟨rfl, fun v hv => by cases hv⟩
    | cons p ps => cases e
  | kv :: kvs, bs, ps, h, e => by
    cases h with
    | cons h1 h2 =>
      cases ps with
      | nil => cases e
      | cons p ps =>
        rw [List.map_cons, List.map_cons] at e
        obtain ⟨e1, e2⟩ := List.cons.inj e
        rw [e1] at h1
        obtain ⟨q1, q2⟩ := keys_pairs h2 e2
        have ep := pairAt_of (p := p) h1
        refine ⟨by rw [List.map_cons, List.map_cons, ep, q1], fun v hv => ?_⟩
        rcases List.mem_cons.mp hv with rfl | hv
        · exact ⟨_, rfl, by rw [ep]; exact h1⟩
        · exact q2 v hv
theorem ok_sorted1 (hc : X.calm = true) : CallR X (.builtin "sorted") (lenRel X.K .sorted1 1) := CallR.of ((ok_sortedI.or ok_sortedP).or ((call_sortedDT hc).or (call_sortedDI hc))) fun vs H Q h => by
  obtain ⟨v, G, a, R, d, rfl, e, h1, hs, da, k⟩ := one_inv h.2 h.1
  have da := da rfl
  cases ea : a.d with
  | «at» x => rw [ea] at hs; cases x <;> cases hs
  | nd t xs =>
    obtain ⟨p, us, rfl, n1, r1⟩ := h1.kids e da ea
    have va := h1.view e
    rw [ea] at hs va
    cases t with
    | lst =>
      have hs : dSorted xs = some d := hs
      unfold dSorted at hs
      split at hs
      · rename_i ns q
        cases hs
        refine .inl (.inl ⟨h, _, _, ns, rfl, va, ⟨xs, rfl, q⟩, fun ms t em hn => ?_⟩)
        subst em
        exact k _ _ [t] (same_upd hn) (ok_list rfl hn reps_ints) nodup1 fun a z => by rw [List.mem_singleton.mp z]; exact hn
      · cases q : pairsOf xs with
        | none => rw [q] at hs; cases hs
        | some ps =>
          rw [q] at hs; cases hs
          obtain ⟨q1, q2⟩ := pairs_vals (gx_same e) r1 q
          refine .inl (.inr ⟨p, us, ps, rfl, n1.sq, q1, fun v hv => (q2 v hv).2, fun ws l hw hm hn => ?_⟩)
          refine k _ _ [l] (same_upd hn) (ok_list rfl hn ?_) nodup1 fun a z => by rw [List.mem_singleton.mp z]; exact hn
          have r2 := reps_map (G := gx G (Op.sorted1.flow && a.fz)) (f := fun v => pairD (pairAt H v)) fun v hv => (q2 v (hw.mem_iff.mp hv)).1
          rw [show ws.map (fun v => pairD (pairAt H v)) = (ws.map (pairAt H)).map pairD by rw [List.map_map]; rfl, hm] at r2
          exact r2
    | dT ks =>
      have hs : ((kpairsOf ks).map fun ps => D.lst ((ps.mergeSort lexB).map pairD)) = some d := hs
      cases q : kpairsOf ks with
      | none => rw [q] at hs; cases hs
      | some ps =>
        rw [q] at hs; cases hs
        obtain ⟨kvs, hr, ek, ev⟩ := n1
        have ek2 := ek.trans (kpairs_all q)
        refine .inr (.inl ⟨p, kvs, rfl, hr, fun kv hkv => ?_, fun l bs ws hn hk hw ho => ?_⟩)
        · have hm : kv.1 ∈ kvs.map (·.1) := List.mem_map.mpr ⟨kv, hkv, rfl⟩
          rw [ek2] at hm
          obtain ⟨p, _, e⟩ := List.mem_map.mp hm
          exact ⟨p.1, p.2, e.symm⟩
        · obtain ⟨q1, q2⟩ := keys_pairs hk ek2
          have hm : ws.map (pairAt H) = ps.mergeSort lexB := sortP_eq (by rw [← q1]; exact hw.map _) (List.pairwise_map.mpr ho)
          refine k _ _ [l] (same_upd hn) (ok_list rfl hn ?_) nodup1 fun a z => by rw [List.mem_singleton.mp z]; exact hn
          have r2 := reps_map (K := X.K) (G := gx G (Op.sorted1.flow && a.fz)) (H := H) (f := fun v => pairD (pairAt H v)) (vs := ws) fun v hv => by
            obtain ⟨t, rfl, ht⟩ := q2 v (hw.mem_iff.mp hv)
            exact .tup ht (reps_ints (ns := [(pairAt H (.ref t)).1, (pairAt H (.ref t)).2]))
          rw [show ws.map (fun v => pairD (pairAt H v)) = (ws.map (pairAt H)).map pairD by rw [List.map_map]; rfl, hm] at r2
          exact r2
    | dK ks =>
      have hs : ((kintsOf ks).bind fun ns => if ns.length < 64 then some (D.lst ((ns.mergeSort (fun a b => decide (a ≤ b))).map D.int)) else none) = some d := hs
      cases q : kintsOf ks with
      | none => rw [q] at hs; cases hs
      | some ns =>
        rw [q, Option.bind_some] at hs
        split at hs
        · rename_i hl
          cases hs
          obtain ⟨kvs, hr, ek, ev⟩ := n1
          refine .inr (.inr ⟨p, kvs, ns, rfl, hr, ek.trans (kints_all q), hl, fun ms l hp ho hn => ?_⟩)
          have em := sort_eq hp ho
          subst em
          exact k _ _ [l] (same_upd hn) (ok_list rfl hn reps_ints) nodup1 fun a z => by rw [List.mem_singleton.mp z]; exact hn
        · cases hs
    | _ => cases hs
/-! dicts and ranges -/
theorem ok_dict {o : Op} {fz : Bool} {p : Addr} {ks : List Key} {ds : List D} {K : W.Frag} {G H : Hp} {kvs : List (Key × V)} (ho : o.fresh = true) (hp : H p = none) (hk : kvs.map (·.1) = ks) (h : Reps K (gx G (o.flow && fz)) H [] (kvs.map (·.2)) ds) : ValOk K G (upd H p (.dK kvs)) [p] (.ref p) (o.tag fz (.nd (.dK ks) ds)) := by
  refine ⟨.own (R := []) ⟨kvs, upd_same, hk, rfl⟩ (h.same (same_upd hp)), fun z => ?_, fun z => ?_, fun _ t ds _ _ => ⟨p, [], rfl, rfl⟩⟩
  · have z : (if o.fresh = true then Ow.top else Ow.no) = Ow.no := z
    rw [if_pos ho] at z
    cases z
  · exact ⟨p, .dK ks, ds, rfl, rfl, rfl, by intro z; cases z⟩
theorem ok_dict1 : CallR X (.type "dict") (lenRel X.K .dict1 1) := CallR.of call_dictD fun vs H Q h => by
  obtain ⟨v, G, a, R, d, rfl, e, h1, hs, da, k⟩ := one_inv h.2 h.1
  have da := da rfl
  cases ea : a.d with
  | «at» x => rw [ea] at hs; cases x <;> cases hs
  | nd t xs =>
    obtain ⟨p, us, rfl, n1, r1⟩ := h1.kids e da ea
    rw [ea] at hs
    cases t with
    | dK ks =>
      cases hs
      obtain ⟨kvs, hr, ek, ev⟩ := n1
      subst ev
      exact ⟨p, kvs, rfl, hr, fun q hq => k _ _ [q] (same_upd hq) (ok_dict rfl hq ek r1) nodup1 fun a z => by rw [List.mem_singleton.mp z]; exact hq⟩
    | _ => cases hs
theorem ok_dvm : CallR X (.builtin "divmod") (lenRel X.K .dvm 2) := CallR.of call_divmodW fun vs H Q h => by
  obtain ⟨v, w, rfl, h2⟩ := two_inv' h.2 h.1
  obtain ⟨G, a, b, R, R', d, e, h1, h2, hs, da, _, k⟩ := two_inv h2
  have hs : (match a.d, b.d with
    | .at (.int a), .at (.int b) => if 0 < b ∧ b.natAbs.log2 < 9000 then some (D.tup [.int (a / b), .int (a % b)]) else none
    | _, _ => none) = some d := by
    rw [← hs]
    cases a.d with
    | nd t xs => cases b.d <;> rfl
    | «at» x => cases x <;> cases b.d <;> rename_i y <;> (try rfl) <;> cases y <;> rfl
  split at hs
  · rename_i i j ea eb
    split at hs
    · rename_i hb
      cases hs
      have e1 := h1.at_inv ea
      have e2 := h2.at_inv eb
      subst e1
      subst e2
      refine ⟨i, j, rfl, ⟨hb.1, ?_⟩, fun p hp => ?_⟩
      · exact PyProof.noPylong_of_log2 hb.2
      · exact k _ _ [] (same_upd hp) (ok_tup hp (reps_ints (ns := [i / j, i % j]))) List.nodup_nil fun _ z => by cases z
    · cases hs
  · cases hs
end
end Px
namespace Px
open PySem L2
section
variable {X : Cx}
def tOpx (K : W.Frag) (o : Op) (ts : List TE) : TE := fun σ H Q => seqT ts σ H fun vs H' => relO K o vs H' Q
theorem rel_len {K : W.Frag} {o : Op} {n : Nat} (hn : ∀ ds d, opSem o ds = some d → ds.length = n) {vs : List V} {H : Hp} {Q : VK} (h : relO K o vs H Q) : lenRel K o n vs H Q := by
  refine ⟨?_, h⟩
  obtain ⟨G, xs, x, e, hp, ho, k⟩ := h
  obtain ⟨d, hs, _⟩ := opVal_inv ho
  have l := hn _ _ hs
  rw [List.length_map] at l
  rw [hp.length, l]

/-! ### the slice with its bounds -/
theorem pe_sl2 {r : V → Option Int → Option Int → Hp → VK → Prop} {e lo hi : Expr} {te tl th : TE} {p2 pos : Pos} (hr : SlR X r) (he : PE X e te) (hl : PE X lo tl) (hu : PE X hi th) :
    PE X (.Subscript e (.Slice (some lo) (some hi) none p2) pos) (fun σ H Q => te σ H fun x H1 => tl σ H1 fun y H2 => th σ H2 fun z H3 => ∃ i j, y = .int i ∧ z = .int j ∧ r x (some i) (some j) H3 Q) := by
  refine ⟨fun pins s σ H Q I h => ?_⟩
  refine PyProof.Rows.Subscript_ (thn (he.run pins s σ H _ I h) fun v s1 ⟨x, H1, I1, r1, q1⟩ => ?_)
  refine PySem.wpAny_Slice ?_
  rw [PySem.evalPart_some, PySem.evalPart_some, PySem.evalPart_none]
  refine thn (hl.run pins s1 σ H1 _ I1 q1) fun vl s2 ⟨y, H2, I2, r2, q2⟩ => thn (hu.run pins s2 σ H2 _ I2 q2) fun vu s3 ⟨z, H3, I3, r3, q3⟩ => ?_
  obtain ⟨i, j, rfl, rfl, q3⟩ := q3
  obtain ⟨t2, rfl⟩ := r2
  obtain ⟨t3, rfl⟩ := r3
  refine PySem.wpAny_pure ?_
  have I4 : Inv X pins σ H3 { s3 with heap := s3.heap.push { cls := .type "slice", data := .fields #[.int i t2, .int j t3, .none] } } := I3.kept (t' := s3.toks) fun b ob q => Heap.get?_push_of_some _ q
  obtain ⟨T, id, hT, ht, hg⟩ := hr pins { s3 with heap := s3.heap.push { cls := .type "slice", data := .fields #[.int i t2, .int j t3, .none] } } σ H3 x v (.int i t2) (.int j t3) (some i) (some j) s3.heap.objs.size Q I4 r1 (Heap.IsSliceOf.new ..) (.int i t2) (.int j t3) q3
  exact PyProof.Rows.tail_any (ops := [.ref s3.heap.objs.size, v]) ht hT hg (by with_unfolding_all rfl)
theorem sl_rel {K : W.Frag} {a b : Bool} {vs : List V} {H : Hp} {Q : VK} (h : relO K (.sl a b) vs H Q) :
    match a, b with
    | true, true => ∃ x i j, vs = [x, .int i, .int j] ∧ relSl K x (some i) (some j) H Q
    | true, false => ∃ x i, vs = [x, .int i] ∧ relSl K x (some i) none H Q
    | false, true => ∃ x j, vs = [x, .int j] ∧ relSl K x none (some j) H Q
    | false, false => ∃ x, vs = [x] ∧ relSl K x none none H Q := by
  obtain ⟨G, xs, x, e, hp, ho, k⟩ := h
  obtain ⟨d, hs, rfl, hd, hr⟩ := opVal_inv ho
  have deep := fun {x : Val} (z : x ∈ xs) => notDeep (hd rfl) z
  have bndI : ∀ {b : Val} {v : V} {R : List Addr} {l : Option Int}, ValOk K G H R v b → bnd b.d = some l → ∃ i, v = .int i ∧ l = some i ∧ b.fz = b.fz := fun {b v R l} h1 q => by
    cases eb : b.d with
    | nd t xs => rw [eb] at q; cases q
    | «at» y =>
      rw [eb] at q
      cases y with
      | int i => cases q; exact ⟨i, h1.at_inv eb, rfl, rfl⟩
      | _ => cases q
  have up : ∀ {a : Val}, a ∈ xs → (a.fz = true → anyFz xs = true) := fun {a} z f => anyFz_mem z f
  have widen : ∀ {v : V} {d : D} {H' : Hp} {R : List Addr} {f g : Bool}, (f = true → g = true) → ValOk K G H' R v ((Op.sl true true).tag f d) → ValOk K G H' R v ((Op.sl true true).tag g d) := fun {v d H' R f g} hfg q => by
    cases d with
    | «at» a => exact q
    | nd t ys =>
      obtain ⟨q1, q2, q3⟩ := q
      cases t <;> exact ⟨q1.monoG (gx_imp hfg) _, q2, q3⟩
  have tageq : ∀ {f : Bool} {d : D}, (Op.sl a b).tag f d = (Op.sl true true).tag f d := fun {f d} => rfl
  cases a <;> cases b
  · cases hp with
    | nil => cases hs
    | cons h1 h2 =>
      cases h2 with
      | cons h3 h4 => cases h4 <;> cases hs
      | nil =>
        obtain ⟨R, h1⟩ := h1
        exact ⟨_, rfl, G, _, R, d, e, h1, deep (by simp), hs, fun v H' R' s q => k v H' R' s (widen (up (by simp)) q)⟩
  · cases hp with
    | nil => cases hs
    | cons h1 h2 =>
      cases h2 with
      | nil => cases hs
      | cons h3 h4 =>
        cases h4 with
        | cons h5 h6 => cases h6 <;> cases hs
        | nil =>
          obtain ⟨R, h1⟩ := h1
          obtain ⟨R2, h3⟩ := h3
          rename_i x1 v1 x2 v2
          have hs : ((bnd v2.d).bind fun h => dSl v1.d none h) = some d := hs
          cases q : bnd v2.d with
          | none => rw [q] at hs; cases hs
          | some l =>
            rw [q] at hs
            obtain ⟨i, rfl, rfl, _⟩ := bndI h3 q
            exact ⟨_, i, rfl, G, _, R, d, e, h1, deep (by simp), hs, fun v H' R' s q => k v H' R' s (widen (up (by simp)) q)⟩
  · cases hp with
    | nil => cases hs
    | cons h1 h2 =>
      cases h2 with
      | nil => cases hs
      | cons h3 h4 =>
        cases h4 with
        | cons h5 h6 => cases h6 <;> cases hs
        | nil =>
          obtain ⟨R, h1⟩ := h1
          obtain ⟨R2, h3⟩ := h3
          rename_i x1 v1 x2 v2
          have hs : ((bnd v2.d).bind fun h => dSl v1.d h none) = some d := hs
          cases q : bnd v2.d with
          | none => rw [q] at hs; cases hs
          | some l =>
            rw [q] at hs
            obtain ⟨i, rfl, rfl, _⟩ := bndI h3 q
            exact ⟨_, i, rfl, G, _, R, d, e, h1, deep (by simp), hs, fun v H' R' s q => k v H' R' s (widen (up (by simp)) q)⟩
  · cases hp with
    | nil => cases hs
    | cons h1 h2 =>
      cases h2 with
      | nil => cases hs
      | cons h3 h4 =>
        cases h4 with
        | nil => cases hs
        | cons h5 h6 =>
          cases h6 with
          | cons h7 h8 => cases h8 <;> cases hs
          | nil =>
            obtain ⟨R, h1⟩ := h1
            obtain ⟨R2, h3⟩ := h3
            obtain ⟨R3, h5⟩ := h5
            rename_i x1 v1 x2 v2 x3 v3
            have hs : ((bnd v2.d).bind fun l => (bnd v3.d).bind fun h => dSl v1.d l h) = some d := hs
            cases q : bnd v2.d with
            | none => rw [q] at hs; cases hs
            | some l =>
              cases q2 : bnd v3.d with
              | none => rw [q, q2] at hs; cases hs
              | some l2 =>
                rw [q, q2] at hs
                obtain ⟨i, rfl, rfl, _⟩ := bndI h3 q
                obtain ⟨j, rfl, rfl, _⟩ := bndI h5 q2
                exact ⟨_, i, j, rfl, G, _, R, d, e, h1, deep (by simp), hs, fun v H' R' s q => k v H' R' s (widen (up (by simp)) q)⟩
end
end Px
namespace Px
open PySem L2
theorem len1 {o : Op} (h : o = .len ∨ o = .abs ∨ o = .max1 ∨ o = .min1 ∨ o = .sum ∨ o = .all ∨ o = .any ∨ o = .sorted1 ∨ o = .int1 ∨ o = .list1 ∨ o = .tuple1 ∨ o = .dict1 ∨ o = .revl) : ∀ ds d, opSem o ds = some d → ds.length = 1 := by
  intro ds d hs
  match ds with
  | [] => rcases h with h | h | h | h | h | h | h | h | h | h | h | h | h <;> subst h <;> simp [opSem] at hs
  | [a] => rfl
  | [a, b] => rcases h with h | h | h | h | h | h | h | h | h | h | h | h | h <;> subst h <;> simp [opSem] at hs
  | [a, b, c] => rcases h with h | h | h | h | h | h | h | h | h | h | h | h | h <;> subst h <;> simp [opSem] at hs
  | a :: b :: c :: e :: r => rcases h with h | h | h | h | h | h | h | h | h | h | h | h | h <;> subst h <;> simp [opSem] at hs
theorem len2 {o : Op} (h : o = .max2 ∨ o = .min2 ∨ o = .dvm) : ∀ ds d, opSem o ds = some d → ds.length = 2 := by
  intro ds d hs
  match ds with
  | [] => rcases h with h | h | h <;> subst h <;> simp [opSem] at hs
  | [a] => rcases h with h | h | h <;> subst h <;> simp [opSem] at hs
  | [a, b] => rfl
  | [a, b, c] => rcases h with h | h | h <;> subst h <;> simp [opSem] at hs
  | a :: b :: c :: e :: r => rcases h with h | h | h <;> subst h <;> simp [opSem] at hs
theorem plainIx {b : Expr} (h : noSlice b = true) : PlainIx b := by
  intro o i
  cases b <;> first | rfl | cases h
theorem noBehind {op : CmpOp} {b : Expr} (h : noSet b = true) : PySem.behindInMarks op b = false := by
  cases b <;> first | rfl | cases h
section
variable {X : Cx}
theorem bin_sound {o : Op} {op : Operator} (ho : OpR X (binaryOp op) (rel2 X.K o)) {e : Expr} {es : List Expr} {ns : List Str} {ts : List TE} (hk : o.kind = .bin op) (h : opMat o e = some (es, ns)) (hp : Paired (fun e t => PE X e t) es ts) : PE X e (tOpx X.K o ts) := by
  unfold opMat at h
  rw [hk] at h
  dsimp only at h
  split at h
  · split at h
    · rename_i a op' b pos q
      cases h
      subst q
      cases hp with
      | cons p1 r => cases r with
        | cons p2 r => cases r; exact PE.of (pe_op ho p1 p2) fun σ H Q q => q
    · cases h
  · cases h
theorem cmp_sound {o : Op} {op : CmpOp} (ho : OpR X (compareOp op) (rel2 X.K o)) {e : Expr} {es : List Expr} {ns : List Str} {ts : List TE} (hk : o.kind = .cmp op) (h : opMat o e = some (es, ns)) (hp : Paired (fun e t => PE X e t) es ts) : PE X e (tOpx X.K o ts) := by
  unfold opMat at h
  rw [hk] at h
  dsimp only at h
  split at h
  · split at h
    · rename_i a op' b pos q
      cases h
      obtain ⟨q, qs⟩ := q
      subst q
      cases hp with
      | cons p1 r => cases r with
        | cons p2 r => cases r; exact PE.of (pe_cmpR ho p1 p2 (noBehind qs)) fun σ H Q q => q
    · cases h
  · cases h
theorem notSpec {x : String} (h1 : ((x : Str) == ("__debug__" : Str)) = false) : True := trivial
theorem blt_sound {o : Op} {x id : String} {n : Nat} (ho : CallR X (.builtin id) (fun vs H Q => relO X.K o vs H Q)) (hv : bootBuiltins x = some (.builtin id)) (hnm : (x : Str) ≠ "__name__") (hdb : ((x : Str) == ("__debug__" : Str)) = false) (h0 : 0 < n)
    {e : Expr} {es : List Expr} {ns : List Str} {ts : List TE} (hk : o.kind = .blt x id n) (h : opMat o e = some (es, ns)) (hg : onGl X ns) (hp : Paired (fun e t => PE X e t) es ts) (hs : es.all noStar = true) : PE X e (tOpx X.K o ts) := by
  unfold opMat at h
  rw [hk] at h
  dsimp only at h
  split at h
  · split at h
    · rename_i y p es' pos q
      cases h
      obtain ⟨q, ql⟩ := q
      subst q
      obtain ⟨g1, g2⟩ := hg _ List.mem_cons_self
      match es, hp, hs, ql with
      | [], _, _, ql => simp at ql; omega
      | e :: es, hp, hs, _ =>
        have hs' := hs
        rw [List.all_cons, Bool.and_eq_true] at hs'
        exact pe_callB ho g1 g2 hv (pa_seq hp hs) hnm hdb (starEach_of hs'.1) (backTo_plain hs'.2)
    · cases h
  · cases h
theorem bty_sound {o : Op} {x T : String} (ho : CallR X (.type T) (fun vs H Q => relO X.K o vs H Q)) (hv : bootBuiltins x = some (.type T)) (hnm : (x : Str) ≠ "__name__") (hdb : ((x : Str) == ("__debug__" : Str)) = false)
    {e : Expr} {es : List Expr} {ns : List Str} {ts : List TE} (hk : o.kind = .bty x T) (h : opMat o e = some (es, ns)) (hg : onGl X ns) (hp : Paired (fun e t => PE X e t) es ts) (hs : es.all noStar = true) : PE X e (tOpx X.K o ts) := by
  unfold opMat at h
  rw [hk] at h
  dsimp only at h
  split at h
  · split at h
    · rename_i y p a pos q
      cases h
      subst q
      obtain ⟨g1, g2⟩ := hg _ List.mem_cons_self
      have hs' := hs
      rw [List.all_cons, Bool.and_eq_true] at hs'
      exact pe_callTy ho g1 g2 hv (pa_seq hp hs) hnm hdb (starEach_of hs'.1) (backTo_plain hs'.2)
    · cases h
  · cases h
/-! isinstance of a built-in type -/
theorem tyD_x {K : W.Frag} {H : Hp} {v : V} {d : D} {t : Ty} {b : Bool} (h : tyD d t = some b) (hv : View K H v d) : ∃ T, TyX K H v (.type T) ∧ kitB T (tyName t) = some b := by
  cases d with
  | «at» a =>
    rw [hv.at_inv.1]
    cases a with
    | non => refine ⟨"NoneType", .base .non, ?_⟩; cases h; cases t <;> decide +kernel
    | bl x => refine ⟨"bool", .base (.bl x), ?_⟩; cases h; cases t <;> decide +kernel
    | int x => refine ⟨"int", .base (.int x), ?_⟩; cases h; cases t <;> decide +kernel
    | str x => refine ⟨"str", .base (.str x), ?_⟩; cases h; cases t <;> decide +kernel
  | nd u xs =>
    obtain ⟨p, vs, rfl, n1, r1⟩ := view_nd hv
    cases u with
    | lst =>
      have e : kitB "list" (tyName t) = some b := by cases h; cases t <;> decide +kernel
      rcases n1 with n1 | ⟨o, n1⟩
      · exact ⟨"list", .base (.lst n1), e⟩
      · exact ⟨"list", .base (.frz n1), e⟩
    | tup =>
      refine ⟨"tuple", .base (.tup n1), ?_⟩; cases h; cases t <;> decide +kernel
    | _ => cases h
theorem isi_sound {t : Ty} {e : Expr} {es : List Expr} {ns : List Str} {ts : List TE} (h : opMat (.isi t) e = some (es, ns)) (hg : onGl X ns) (hp : Paired (fun e t => PE X e t) es ts) (hm : ∀ t ∈ ts, MonoE t) (hs : es.all noStar = true) : PE X e (tOpx X.K (.isi t) ts) := by
  unfold opMat at h
  have hk : (Op.isi t).kind = .ist t := rfl
  rw [hk] at h
  dsimp only at h
  split at h
  · split at h
    · rename_i y p a z p2 pos q
      cases h
      obtain ⟨q1, q2⟩ := q
      subst q1 q2
      obtain ⟨g1, g2⟩ := hg _ List.mem_cons_self
      obtain ⟨g3, g4⟩ := hg _ (List.mem_cons_of_mem _ List.mem_cons_self)
      rw [List.all_cons, Bool.and_eq_true] at hs
      cases hp with
      | cons p1 r =>
        cases r
        rename_i t1
        have pn : PE X (.Name (tyName t) p2) (tC (.ty (tyName t))) := by
          cases t <;> exact pe_bltn g3 g4 (by decide +kernel) rfl (by decide +kernel) (by decide +kernel)
        have pa : PA X [a, .Name (tyName t) p2] (seqT [t1, tC (.ty (tyName t))]) := pa_seq (.cons p1 (.cons pn .nil)) (by rw [List.all_cons, hs.1]; rfl)
        refine PE.of (pe_callB (call_isi (X := X)) g1 g2 (by decide +kernel) pa (by decide +kernel) (by decide +kernel) (starEach_of hs.1) (backTo_plain rfl)) fun σ H Q q => ?_
        refine hm t1 (by simp) σ H _ _ (fun v H1 q => ?_) q
        have q : relO X.K (.isi t) [v] H1 Q := q
        obtain ⟨v', G, a', R, d, ev, e, h1, hs, _, k⟩ := one_inv q rfl
        cases ev
        have hs : (tyD a'.d t).map D.bl = some d := hs
        cases q2 : tyD a'.d t with
        | none => rw [q2] at hs; cases hs
        | some b =>
          rw [q2] at hs; cases hs
          obtain ⟨T, x1, x2⟩ := tyD_x q2 (h1.view e)
          exact ⟨v, .ty (tyName t), .type T, .type (tyName t), b, rfl, .ty _, x1, kit_ty x2, k (.bl b) H1 [] (Same.refl _) ok_atom List.nodup_nil fun _ z => by cases z⟩
    · cases h
  · cases h
end
end Px
namespace Px
open PySem L2
section
variable {X : Cx}
theorem neg_sound {e : Expr} {es : List Expr} {ns : List Str} {ts : List TE} (h : opMat .neg e = some (es, ns)) (hp : Paired (fun e t => PE X e t) es ts) (hm : ∀ t ∈ ts, MonoE t) : PE X e (tOpx X.K .neg ts) := by
  unfold opMat at h
  have hk : Op.neg.kind = .ngt := rfl
  rw [hk] at h
  dsimp only at h
  split at h
  · cases h
    cases hp with
    | cons p1 r =>
      cases r
      rename_i t1
      refine PE.of (pe_un un_neg p1) fun σ H Q q => ?_
      refine hm t1 (by simp) σ H _ _ (fun v H1 q => ?_) q
      obtain ⟨v', G, a', R, d, ev, e, h1, hs, _, k⟩ := one_inv (show relO X.K .neg [v] H1 Q from q) rfl
      cases ev
      have hs : dNeg a'.d = some d := hs
      unfold dNeg at hs
      split at hs
      · rename_i i ea
        cases hs
        exact ⟨i, h1.at_inv ea, k (.int _) H1 [] (Same.refl _) ok_atom List.nodup_nil fun _ z => by cases z⟩
      · cases hs
  · cases h
theorem isn_val {K : W.Frag} {o : Op} {v : V} {H : Hp} {Q : VK} {f : Bool → Bool} (h : relO K o [v] H Q) (ho : ∀ a, opSem o [a] = some (.bl (f (match a with | .at .non => true | _ => false)))) : Q (.bl (f (decide (v = .non)))) H := by
  obtain ⟨v', G, a', R, d, ev, e, h1, hs, _, k⟩ := one_inv h rfl
  cases ev
  rw [ho] at hs
  cases hs
  have eb : (match a'.d with | .at .non => true | _ => false) = decide (v = .non) := by
    cases ea : a'.d with
    | «at» a => rw [h1.at_inv ea]; cases a <;> rfl
    | nd t xs =>
      obtain ⟨p, us, rfl, _⟩ := view_nd (show View K H v (.nd t xs) from ea ▸ h1.view e)
      rfl
  rw [← eb]
  exact k (.bl _) H [] (Same.refl _) ok_atom List.nodup_nil fun _ z => by cases z
theorem isn_sound {e : Expr} {es : List Expr} {ns : List Str} {ts : List TE} (h : opMat .isN e = some (es, ns)) (hp : Paired (fun e t => PE X e t) es ts) (hm : ∀ t ∈ ts, MonoE t) : PE X e (tOpx X.K .isN ts) := by
  unfold opMat at h
  have hk : Op.isN.kind = .isn := rfl
  rw [hk] at h
  dsimp only at h
  split at h
  · cases h
    cases hp with
    | cons p1 r =>
      cases r
      rename_i t1
      refine PE.of (pe_cmp (pc_isN p1)) fun σ H Q q => ?_
      exact hm t1 (by simp) σ H _ _ (fun v H1 q => isn_val (f := id) (show relO X.K .isN [v] H1 Q from q) fun a => rfl) q
  · cases h
theorem isnt_sound {e : Expr} {es : List Expr} {ns : List Str} {ts : List TE} (h : opMat .notN e = some (es, ns)) (hp : Paired (fun e t => PE X e t) es ts) (hm : ∀ t ∈ ts, MonoE t) : PE X e (tOpx X.K .notN ts) := by
  unfold opMat at h
  have hk : Op.notN.kind = .isnt := rfl
  rw [hk] at h
  dsimp only at h
  split at h
  · cases h
    cases hp with
    | cons p1 r =>
      cases r
      rename_i t1
      refine PE.of (pe_cmp (pc_notN p1)) fun σ H Q q => ?_
      refine hm t1 (by simp) σ H _ _ (fun v H1 q => isn_val (f := fun b => !b) (show relO X.K .notN [v] H1 Q from q) fun a => ?_) q
      cases a with
      | «at» x => cases x <;> rfl
      | nd t xs => rfl
  · cases h
theorem ix_sound (hu : X.A.units + 200 < cLine) {e : Expr} {es : List Expr} {ns : List Str} {ts : List TE} (h : opMat .ix e = some (es, ns)) (hp : Paired (fun e t => PE X e t) es ts) : PE X e (tOpx X.K .ix ts) := by
  unfold opMat at h
  have hk : Op.ix.kind = .ixx := rfl
  rw [hk] at h
  dsimp only at h
  split at h
  · split at h
    · rename_i q
      cases h
      cases hp with
      | cons p1 r => cases r with
        | cons p2 r => cases r; exact PE.of (pe_ix (ok_ix hu) p1 p2 (plainIx q)) fun σ H Q q => q
    · cases h
  · cases h
theorem slc_sound {a b : Bool} {e : Expr} {es : List Expr} {ns : List Str} {ts : List TE} (h : opMat (.sl a b) e = some (es, ns)) (hp : Paired (fun e t => PE X e t) es ts) (hm : ∀ t ∈ ts, MonoE t) : PE X e (tOpx X.K (.sl a b) ts) := by
  unfold opMat at h
  have hk : (Op.sl a b).kind = .slc a b := rfl
  rw [hk] at h
  cases a <;> cases b <;> dsimp only at h <;> split at h
  · cases h
    cases hp with
    | cons p1 r =>
      cases r
      rename_i t1
      refine PE.of (pe_slice ok_sl p1 po_none po_none) fun σ H Q q => ?_
      refine hm t1 (by simp) σ H _ _ (fun v H1 q => ?_) q
      obtain ⟨x, ev, q2⟩ := sl_rel (a := false) (b := false) (show relO X.K (.sl false false) [v] H1 Q from q)
      cases ev
      exact q2
  · cases h
  · cases h
    cases hp with
    | cons p1 r =>
      cases r with
      | cons p2 r =>
        cases r
        rename_i t1 t2
        refine PE.of (pe_slice ok_sl p1 po_none (po_some p2)) fun σ H Q q => ?_
        refine hm t1 (by simp) σ H _ _ (fun v H1 q => ?_) q
        refine hm t2 (by simp) σ H1 _ _ (fun w H2 q => ?_) q
        obtain ⟨x, i, ev, q2⟩ := sl_rel (a := false) (b := true) (show relO X.K (.sl false true) [v, w] H2 Q from q)
        cases ev
        exact ⟨i, rfl, q2⟩
  · cases h
  · cases h
    cases hp with
    | cons p1 r =>
      cases r with
      | cons p2 r =>
        cases r
        rename_i t1 t2
        refine PE.of (pe_slice ok_sl p1 (po_some p2) po_none) fun σ H Q q => ?_
        refine hm t1 (by simp) σ H _ _ (fun v H1 q => ?_) q
        refine hm t2 (by simp) σ H1 _ _ (fun w H2 q => ?_) q
        obtain ⟨x, i, ev, q2⟩ := sl_rel (a := true) (b := false) (show relO X.K (.sl true false) [v, w] H2 Q from q)
        cases ev
        exact ⟨i, rfl, q2⟩
  · cases h
  · cases h
    cases hp with
    | cons p1 r =>
      cases r with
      | cons p2 r =>
        cases r with
        | cons p3 r =>
          cases r
          rename_i t1 t2 t3
          refine PE.of (pe_sl2 ok_sl p1 p2 p3) fun σ H Q q => ?_
          refine hm t1 (by simp) σ H _ _ (fun v H1 q => ?_) q
          refine hm t2 (by simp) σ H1 _ _ (fun w H2 q => ?_) q
          refine hm t3 (by simp) σ H2 _ _ (fun u H3 q => ?_) q
          obtain ⟨x, i, j, ev, q2⟩ := sl_rel (a := true) (b := true) (show relO X.K (.sl true true) [v, w, u] H3 Q from q)
          cases ev
          exact ⟨i, j, rfl, rfl, q2⟩
  · cases h
theorem revl_fin {v : V} {H1 : Hp} {Q : VK} (q : relO X.K .revl [v] H1 Q) : ∃ (a : Addr) (xs : List V), v = .ref a ∧ SqL X.K H1 a xs ∧ ∀ q, H1 q = none → Q (.ref q) (upd H1 q (.lst xs.reverse)) := by
  obtain ⟨v', G, a, R, d, ev, e, h1, hs, da, k⟩ := one_inv q rfl
  cases ev
  cases ea : a.d with
  | «at» x => rw [ea] at hs; cases x <;> cases hs
  | nd t xs =>
    obtain ⟨p, us, rfl, n1, r1⟩ := h1.kids e (da rfl) ea
    rw [ea] at hs
    cases t with
    | lst =>
      cases hs
      refine ⟨p, us, rfl, n1.sq, fun l hl => k _ _ [l] (same_upd hl) (ok_list rfl hl ?_) nodup1 fun a z => by rw [List.mem_singleton.mp z]; exact hl⟩
      exact r1.reverse
    | _ => cases hs
theorem revl_sound (hc : X.calm = true) {e : Expr} {es : List Expr} {ns : List Str} {ts : List TE} (h : opMat .revl e = some (es, ns)) (hg : onGl X ns) (hp : Paired (fun e t => PE X e t) es ts) (hm : ∀ t ∈ ts, MonoE t) (hs : es.all noStar = true) : PE X e (tOpx X.K .revl ts) := by
  unfold opMat at h
  have hk : Op.revl.kind = .rvl := rfl
  rw [hk] at h
  dsimp only at h
  split at h
  · cases h
    cases hp with
    | cons p1 r =>
      cases r
      rename_i t1
      refine PE.of (pe_revL p1) fun σ H Q q => ?_
      exact hm t1 (by simp) σ H _ _ (fun v H1 q => revl_fin (show relO X.K .revl [v] H1 Q from q)) q
  · rename_i x p1 y p2 a p3 p4
    split at h
    · rename_i c
      cases h
      obtain ⟨rfl, rfl⟩ := c
      obtain ⟨gl1, m1⟩ := hg ("list" : Str) (by simp)
      obtain ⟨gl2, m2⟩ := hg ("reversed" : Str) (by simp)
      rw [List.all_cons, Bool.and_eq_true] at hs
      cases hp with
      | cons pa r =>
        cases r
        rename_i ta
        refine PE.of (pe_listRev hc gl1 m1 gl2 m2 pa (starEach_of hs.1) (starEach_of rfl)) fun σ H Q q => ?_
        exact hm ta (by simp) σ H _ _ (fun v H1 q => revl_fin (show relO X.K .revl [v] H1 Q from q)) q
    · cases h
  · cases h
theorem rng_inv {ds : List D} {ns : List Int} (h : rngInts ds = some ns) : ∃ a b, (ds = [.at (.int b)] ∧ a = 0 ∨ ds = [.at (.int a), .at (.int b)]) ∧ -(2 ^ 62) ≤ a ∧ a < 2 ^ 62 ∧ -(2 ^ 62) ≤ b ∧ b < 2 ^ 62 ∧ ns = (List.range (b - a).toNat).map fun (k : Nat) => a + (k : Int) := by
  unfold rngInts at h
  split at h
  · rename_i n
    split at h
    · rename_i c
      cases h
      exact ⟨0, n, .inl ⟨rfl, rfl⟩, by decide, by decide, c.1, c.2, by simp⟩
    · cases h
  · rename_i a b
    split at h
    · rename_i c
      cases h
      exact ⟨a, b, .inr rfl, c.1, c.2.1, c.2.2.1, c.2.2.2, rfl⟩
    · cases h
  · cases h
theorem lrng_fin {a b : Int} {G : Hp} {H : Hp} {Q : VK} {fz : Bool} {ns : List Int} {d : D} (hns : ns = (List.range (b - a).toNat).map fun (k : Nat) => a + (k : Int)) (hl : ns.length ≤ szLim) (hd : d = .lst (ns.map D.int)) (h1 : -(2 ^ 62) ≤ a) (h2 : a < 2 ^ 62) (h3 : -(2 ^ 62) ≤ b) (h4 : b < 2 ^ 62)
    (k : ∀ v H' R, Same H H' → ValOk X.K G H' R v (Op.lrng.tag fz d) → R.Nodup → (∀ a ∈ R, H a = none) → Q v H') : RgOk a b ∧ ∀ q, H q = none → Q (.ref q) (upd H q (.lst (rgV a b))) := by
  have e : rgV a b = ns.map V.int := by
    rw [hns, List.map_map]
    rfl
  refine ⟨⟨h1, h2, h3, h4, ?_⟩, fun q hq => ?_⟩
  · rw [hns, List.length_map, List.length_range] at hl
    exact hl
  · subst hd
    rw [e]
    exact k _ _ [q] (same_upd hq) (ok_list rfl hq reps_ints) nodup1 fun a z => by rw [List.mem_singleton.mp z]; exact hq
theorem lrng_sound (hc : X.calm = true) {e : Expr} {es : List Expr} {ns : List Str} {ts : List TE} (h : opMat .lrng e = some (es, ns)) (hg : onGl X ns) (hp : Paired (fun e t => PE X e t) es ts) (hm : ∀ t ∈ ts, MonoE t) (hs : es.all noStar = true) : PE X e (tOpx X.K .lrng ts) := by
  unfold opMat at h
  have hk : Op.lrng.kind = .lrg := rfl
  rw [hk] at h
  dsimp only at h
  split at h
  · rename_i x p1 y p2 es' p3 p4
    split at h
    · rename_i c
      cases h
      obtain ⟨rfl, rfl, hl⟩ := c
      obtain ⟨gl1, m1⟩ := hg ("list" : Str) (by simp)
      obtain ⟨gl2, m2⟩ := hg ("range" : Str) (by simp)
      cases hp with
      | nil => simp at hl
      | cons pa r =>
        rename_i a ta as tas
        rw [List.all_cons, Bool.and_eq_true] at hs
        cases r with
        | nil =>
          refine PE.of (pe_listRg hc gl1 m1 (prg_1 gl2 m2 pa (starEach_of hs.1)) (starEach_of rfl)) fun σ H Q q => ?_
          refine hm ta (by simp) σ H _ _ (fun v H1 q => ?_) q
          obtain ⟨v', G, x, R, d, ev, e, h1, hd, da, k⟩ := one_inv (show relO X.K .lrng [v] H1 Q from q) rfl
          cases ev
          have hd : ((rngInts [x.d]).bind fun ns => if ns.length ≤ szLim then some (D.lst (ns.map D.int)) else none) = some d := hd
          cases er : rngInts [x.d] with
          | none => rw [er] at hd; cases hd
          | some ns =>
            rw [er, Option.bind_some] at hd
            split at hd
            · rename_i hz
              cases hd
              obtain ⟨a, b, ed, b1, b2, b3, b4, en⟩ := rng_inv er
              rcases ed with ⟨ed, rfl⟩ | ed
              · have := h1.at_inv (a := .int b) (List.cons.inj ed).1
                subst this
                exact ⟨b, rfl, lrng_fin en hz rfl b1 b2 b3 b4 k⟩
              · exact absurd ed (by simp)
            · cases hd
        | cons pb r =>
          rename_i b tb bs tbs
          cases r with
          | nil =>
            rw [List.all_cons, Bool.and_eq_true] at hs
            refine PE.of (pe_listRg hc gl1 m1 (prg_2 gl2 m2 pa pb (starEach_of hs.1) (starEach_of hs.2.1) (by rw [starEach_of hs.2.1]; rfl)) (starEach_of rfl)) fun σ H Q q => ?_
            refine hm ta (by simp) σ H _ _ (fun v H1 q => ?_) q
            refine hm tb (by simp) σ H1 _ _ (fun w H2 q => ?_) q
            obtain ⟨G, x, y, R, R', d, e, h1, h2, hd, da, _, k⟩ := two_inv (show rel2 X.K .lrng v w H2 Q from q)
            have hd : ((rngInts [x.d, y.d]).bind fun ns => if ns.length ≤ szLim then some (D.lst (ns.map D.int)) else none) = some d := hd
            cases er : rngInts [x.d, y.d] with
            | none => rw [er] at hd; cases hd
            | some ns =>
              rw [er, Option.bind_some] at hd
              split at hd
              · rename_i hz
                cases hd
                obtain ⟨a, b, ed, b1, b2, b3, b4, en⟩ := rng_inv er
                rcases ed with ⟨ed, rfl⟩ | ed
                · exact absurd ed (by simp)
                · have e1 := h1.at_inv (a := .int a) (List.cons.inj ed).1
                  have e2 := h2.at_inv (a := .int b) (List.cons.inj (List.cons.inj ed).2).1
                  subst e1
                  subst e2
                  exact ⟨a, b, rfl, rfl, lrng_fin en hz rfl b1 b2 b3 b4 k⟩
              · cases hd
          | cons pc r => simp at hl
    · cases h
  · cases h
/-- EVERY OPERATION -/
theorem op_sound (hc : X.calm = true) (hu : X.A.units + 200 < cLine) {o : Op} {e : Expr} {es : List Expr} {ns : List Str} {ts : List TE} (h : opMat o e = some (es, ns)) (hg : onGl X ns) (hp : Paired (fun e t => PE X e t) es ts)
    (hm : ∀ t ∈ ts, MonoE t) (hs : es.all noStar = true) : PE X e (tOpx X.K o ts) := by
  cases o with
  | add => exact bin_sound ok_add rfl h hp
  | sub => exact bin_sound ok_sub rfl h hp
  | mul => exact bin_sound ok_mul rfl h hp
  | rep => exact bin_sound ok_rep rfl h hp
  | fdiv => exact bin_sound ok_fdiv rfl h hp
  | mod => exact bin_sound ok_mod rfl h hp
  | pow => exact bin_sound ok_pow rfl h hp
  | shl => exact bin_sound ok_shl rfl h hp
  | shr => exact bin_sound ok_shr rfl h hp
  | band => exact bin_sound ok_band rfl h hp
  | neg => exact neg_sound h hp hm
  | eq => exact cmp_sound (ok_eq hu) rfl h hp
  | ne => exact cmp_sound (ok_ne hu) rfl h hp
  | lt => exact cmp_sound ok_lt rfl h hp
  | le => exact cmp_sound ok_le rfl h hp
  | gt => exact cmp_sound ok_gt rfl h hp
  | ge => exact cmp_sound ok_ge rfl h hp
  | isN => exact isn_sound h hp hm
  | notN => exact isnt_sound h hp hm
  | inn => exact cmp_sound (ok_in hu) rfl h hp
  | notIn => exact cmp_sound (ok_notIn hu) rfl h hp
  | isb => exact cmp_sound ok_isb rfl h hp
  | ix => exact ix_sound hu h hp
  | sl a b => exact slc_sound h hp hm
  | len => exact blt_sound (CallR.of ok_len fun vs H Q q => rel_len (len1 (by simp)) q) (by decide +kernel) (by decide +kernel) (by decide +kernel) (by decide) rfl h hg hp hs
  | abs => exact blt_sound (CallR.of ok_abs fun vs H Q q => rel_len (len1 (by simp)) q) (by decide +kernel) (by decide +kernel) (by decide +kernel) (by decide) rfl h hg hp hs
  | max2 => exact blt_sound (CallR.of (ok_max2 hc) fun vs H Q q => rel_len (len2 (by simp)) q) (by decide +kernel) (by decide +kernel) (by decide +kernel) (by decide) rfl h hg hp hs
  | min2 => exact blt_sound (CallR.of (ok_min2 hc) fun vs H Q q => rel_len (len2 (by simp)) q) (by decide +kernel) (by decide +kernel) (by decide +kernel) (by decide) rfl h hg hp hs
  | max1 => exact blt_sound (CallR.of (ok_max1 hc) fun vs H Q q => rel_len (len1 (by simp)) q) (by decide +kernel) (by decide +kernel) (by decide +kernel) (by decide) rfl h hg hp hs
  | min1 => exact blt_sound (CallR.of (ok_min1 hc) fun vs H Q q => rel_len (len1 (by simp)) q) (by decide +kernel) (by decide +kernel) (by decide +kernel) (by decide) rfl h hg hp hs
  | sum => exact blt_sound (CallR.of (ok_sum hc) fun vs H Q q => rel_len (len1 (by simp)) q) (by decide +kernel) (by decide +kernel) (by decide +kernel) (by decide) rfl h hg hp hs
  | all => exact blt_sound (CallR.of (ok_all hc) fun vs H Q q => rel_len (len1 (by simp)) q) (by decide +kernel) (by decide +kernel) (by decide +kernel) (by decide) rfl h hg hp hs
  | any => exact blt_sound (CallR.of (ok_any hc) fun vs H Q q => rel_len (len1 (by simp)) q) (by decide +kernel) (by decide +kernel) (by decide +kernel) (by decide) rfl h hg hp hs
  | sorted1 => exact blt_sound (CallR.of (ok_sorted1 hc) fun vs H Q q => rel_len (len1 (by simp)) q) (by decide +kernel) (by decide +kernel) (by decide +kernel) (by decide) rfl h hg hp hs
  | int1 => exact bty_sound (CallR.of ok_int1 fun vs H Q q => rel_len (len1 (by simp)) q) (by decide +kernel) (by decide +kernel) (by decide +kernel) rfl h hg hp hs
  | list1 => exact bty_sound (CallR.of (ok_list1 hc) fun vs H Q q => rel_len (len1 (by simp)) q) (by decide +kernel) (by decide +kernel) (by decide +kernel) rfl h hg hp hs
  | tuple1 => exact bty_sound (CallR.of ok_tuple1 fun vs H Q q => rel_len (len1 (by simp)) q) (by decide +kernel) (by decide +kernel) (by decide +kernel) rfl h hg hp hs
  | isi t => exact isi_sound h hg hp hm hs
  | dict1 => exact bty_sound (CallR.of ok_dict1 fun vs H Q q => rel_len (len1 (by simp)) q) (by decide +kernel) (by decide +kernel) (by decide +kernel) rfl h hg hp hs
  | dvm => exact blt_sound (CallR.of ok_dvm fun vs H Q q => rel_len (len2 (by simp)) q) (by decide +kernel) (by decide +kernel) (by decide +kernel) (by decide) rfl h hg hp hs
  | revl => exact revl_sound hc h hg hp hm hs
  | lrng => exact lrng_sound hc h hg hp hm hs
  | sset => cases h
  | get1 => cases h
  | get2 => cases h
end
end Px
namespace Px
open PySem L2

/-! ### the text against the small language -/
structure Cfg where
  N : List Str
  fn : List Str
  gl : List Str
  ex : List Str
  free : List Str
def visB (sc : Scope) (x : Str) : Bool := match sc.names.lookup x with
  | some .local => true | some .cell => true | some .free => true | _ => false
def locB (sc : Scope) (x : Str) : Bool := match sc.names.lookup x with
  | some .local => true | some .cell => true | _ => false
def glB (sc : Scope) (x : Str) : Bool := match sc.names.lookup x with
  | some .globalImplicit => true | _ => false
def plainB (x : Str) : Bool := !(x == ("__debug__" : Str)) && !(x == ("__classdict__" : Str))
def nameB (cf : Cfg) (sc : Scope) (x : Str) (i : Nat) : Bool := decide (cf.N[i]? = some x) && visB sc x && plainB x
def constB : Const → At → Bool
  | .int i, .int j => decide (i = j)
  | .bool a, .bl b => decide (a = b)
  | .none, .non => true
  | .str x, .str y => decide (x = y)
  | _, _ => false
def cmpKind (o : Op) : Option CmpOp := match o.kind with
  | .cmp op => some op
  | _ => none
/-- names to which a comprehension stores -/
def blkName (sc scope : Scope) (x : Str) : Bool := match (relS scope sc).names.lookup x with
  | some .local => true
  | some .cell => (match scope.names.lookup x with | some .cell => true | _ => false)
  | _ => false
def tgNames : List Expr → Option (List Str)
  | [] => some []
  | .Name x _ :: es => (tgNames es).map (x :: ·)
  | _ => none
def isB (N : List Str) (xs : List Str) (is : List Nat) : Bool := match xs, is with
  | [], [] => true
  | x :: xs, i :: is => decide (N[i]? = some x) && isB N xs is
  | _, _ => false
def tgB (N : List Str) (ok : Str → Bool) (tg : Expr) (t : Tgt) : Bool := match tg, t with
  | .Name x _, .one i => decide (N[i]? = some x) && ok x
  | .Tuple es _ _, .many is => match tgNames es with
    | some xs => isB N xs is && xs.all ok
    | none => false
  | _, _ => false
def mName : MOp → String
  | .append => "append" | .extend => "extend" | .pop => "pop" | .popAt => "pop" | .clear => "clear" | .setIx => "" | .setDef => "setdefault"
def mOk : MOp → Bool
  | .append => true | .pop => true | .clear => true | .extend => true | _ => false
def mArity : MOp → Nat
  | .append => 1 | .extend => 1 | .pop => 0 | .popAt => 1 | .clear => 0 | .setIx => 99 | .setDef => 2
mutual
def ckE (cf : Cfg) : IE → Scope → Expr → Bool
  | .var i => fun sc e => (match e with | .Name x _ => nameB cf sc x i | _ => false)
  | .mv i => fun sc e => (match e with | .Name x _ => nameB cf sc x i | _ => false)
  | .io i => fun sc e => (match e with | .Name x _ => nameB cf sc x i | _ => false)
  | .cst a => fun sc e => (match e with | .Constant c _ _ => constB c a | _ => false)
  | .glob g => fun sc e => (match e with | .Name x _ => decide (cf.gl[g]? = some x) && glB sc x && plainB x | _ => false)
  | .op o es => fun sc e => (match opMat o e with
    | some (as, ns) => ns.all (fun n => glB sc n && cf.free.contains n) && as.all noStar && ckEs cf es sc as
    | none => false)
  | .and a b => fun sc e => (match e with
    | .BoolOp .And (x :: y :: r) pos => ckE cf a sc x && (match r with | [] => ckE cf b sc y | _ => ckE cf b sc (.BoolOp .And (y :: r) pos))
    | _ => false)
  | .or a b => fun sc e => (match e with
    | .BoolOp .Or (x :: y :: r) pos => ckE cf a sc x && (match r with | [] => ckE cf b sc y | _ => ckE cf b sc (.BoolOp .Or (y :: r) pos))
    | _ => false)
  | .not a => fun sc e => (match e with
    | .UnaryOp .Not x _ => ckE cf a sc x
    | _ => false)
  | .ite c a b => fun sc e => (match e with
    | .IfExp x y z _ => ckE cf c sc x && ckE cf a sc y && ckE cf b sc z
    | _ => false)
  | .chain o1 o2 a b c => fun sc e => (match e with
    | .Compare x [p1, p2] [y, z] _ => decide (cmpKind o1 = some p1) && decide (cmpKind o2 = some p2) && ckE cf a sc x && ckE cf b sc y && ckE cf c sc z && noSet y && noSet z
    | _ => false)
  | .tup es => fun sc e => (match e with
    | .Tuple as _ _ => as.all noStar && ckEs cf es sc as
    | _ => false)
  | .lst es => fun sc e => (match e with
    | .List as _ => as.all noStar && ckEs cf es sc as
    | _ => false)
  | .call f es => fun sc e => (match e with
    | .Call (.Name x _) as [] _ => decide (cf.fn[f]? = some x) && glB sc x && plainB x && as.all noStar && ckEs cf es sc as
    | _ => false)
  | .comp ie t it ic kl => fun sc e => (match e with
    | .ListComp elt [⟨tg, iter, ifs, 0⟩] scope _ => blkC cf.N sc scope (kl.map fun i => (cf.N.getD i default, i)) && tgB cf.N (blkName sc scope) tg t && ckI cf it sc tg iter && noSet iter &&
        decide (ifs.length ≤ 1) && ckEs cf ic (relS scope sc) ifs && ckE cf ie (relS scope sc) elt && (match t with | .one i => kl.contains i | .many is => is.all kl.contains)
    | _ => false)
  | .mut m i es => fun sc e => (match e with
    | .Call (.Attribute (.Name x _) m' p) as [] q => mOk m && decide (m' = (mName m : Str)) && decide (as.length = mArity m) && nameB cf sc x i && decide (p.endLine = q.line) && as.all noStar && ckEs cf es sc as
    | _ => false)
  | .dget i es => fun sc e => (match e with
    | .Call (.Attribute (.Name x _) m p) as [] q => decide (m = ("get" : Str)) && (decide (as.length = 1) || decide (as.length = 2)) && nameB cf sc x i && decide (p.endLine = q.line) && as.all noStar && ckEs cf es sc as
    | _ => false)
  | .sdf i es => fun sc e => (match e with
    | .Call (.Attribute (.Name x _) m p) as [] q => decide (m = ("setdefault" : Str)) && decide (as.length = 2) && nameB cf sc x i && decide (p.endLine = q.line) && as.all noStar && ckEs cf es sc as
    | _ => false)
  | .dK0 => fun sc e => (match e with
    | .Dict [] [] _ => true
    | _ => false)
  | .dT0 => fun sc e => (match e with
    | .Dict [] [] _ => true
    | _ => false)
  | .imm a => fun sc e => ckE cf a sc e
  | .lent a => fun sc e => ckE cf a sc e
def ckEs (cf : Cfg) : IEs → Scope → List Expr → Bool
  | .nil => fun sc es => (match es with | [] => true | _ => false)
  | .cons a as => fun sc es => (match es with
    | e :: es => ckE cf a sc e && ckEs cf as sc es
    | _ => false)
def ckI (cf : Cfg) : Itr → Scope → Expr → Expr → Bool
  | .seq a => fun sc _ e => ckE cf a sc e
  | .str a => fun sc _ e => ckE cf a sc e
  | .rng as => fun sc _ e => (match e with
    | .Call (.Name x _) es [] _ => decide (x = ("range" : Str)) && glB sc x && cf.free.contains x && es.all noStar && ckEs cf as sc es && (decide (es.length = 1) || decide (es.length = 2))
    | _ => false)
  | .enum a => fun sc tg e => (match tg, e with
    | .Tuple _ _ _, .Call (.Name x _) [y] [] _ => decide (x = ("enumerate" : Str)) && glB sc x && cf.free.contains x && noStar y && ckE cf a sc y
    | _, _ => false)
  | .zip a b => fun sc tg e => (match tg, e with
    | .Tuple _ _ _, .Call (.Name x _) [y, z] [] _ => decide (x = ("zip" : Str)) && glB sc x && cf.free.contains x && noStar y && noStar z && ckE cf a sc y && ckE cf b sc z
    | _, _ => false)
  | .rev a => fun sc _ e => (match e with
    | .Call (.Name x _) [y] [] _ => decide (x = ("reversed" : Str)) && glB sc x && cf.free.contains x && noStar y && ckE cf a sc y
    | _ => false)
end
abbrev chkE (cf : Cfg) (sc : Scope) (e : Expr) (ie : IE) : Bool := ckE cf ie sc e
abbrev chkEs (cf : Cfg) (sc : Scope) (es : List Expr) (ies : IEs) : Bool := ckEs cf ies sc es
abbrev chkI (cf : Cfg) (sc : Scope) (tg e : Expr) (it : Itr) : Bool := ckI cf it sc tg e

/-! ### where a piece of text stands -/
/-- what a def promises -/
def spF (K : W.Frag) (cls : Nat → Value) (F : List Nat → List Val → CR) (N : List Str) (np : Nat) : Sp := fun vs H Q E => vs.length = np ∧ ∃ (B : Base) (xs : List Val) (ps : List Nat), B.H0 = H ∧ vs.length = xs.length ∧ SatE K B (gam0 N.length xs) [] (L2.start N vs) H ∧ (∀ p ∈ B.io, p.1 ∈ ps) ∧
  match F ps xs with
  | .bad => False
  | .exc c => ∀ H', (∃ Γ' σ', SatE K B Γ' [] σ' H') → E (cls c) none H'
  | .ok x outs => ∀ v H', (∃ Γ' σ', SatE K B Γ' [(v, x)] σ' H' ∧ ∀ j y, outs.getD j none = some y → Γ'[j]? = some (some y)) → Q v H'
structure XOk (cf : Cfg) (P : Prg) (call : Nat → List Nat → List Val → CR) (k : Nat) (X : Cx) (W : WX) (cls : Nat → Value) (sc : Scope) : Prop where
  calm : X.calm = true
  tk : Takes X W
  nd : X.N.Nodup
  nm : X.N = cf.N
  scp : X.env.scope = sc
  room : Room k X.A
  free : ∀ x ∈ cf.free, X.mg x = none
  glob : ∀ g x, cf.gl[g]? = some x → ∃ u v, X.mg x = some u ∧ RelV v u ∧ Rep X.K noH noH [] v (P.glob g)
  fns : ∀ f x, cf.fn[f]? = some x → ∃ a fd ps N, X.mg x = some (.ref a) ∧ PySem.W.keepIn X.K (.ref a) = true ∧ Binds X.K fd ps [] ∧ FnOk X.prog X.w X.K X.mg X.base (L2.CX X.prog X.w) k a fd ps (spF X.K cls (call f) N ps.length) ∧ (∀ is xs x outs, call f is xs = .ok x outs → xs.length = ps.length ∧ xs.length ≤ N.length) ∧ (∀ is xs c, call f is xs = .exc c → xs.length = ps.length ∧ xs.length ≤ N.length)
theorem XOk.units {cf : Cfg} {P : Prg} {call : Nat → List Nat → List Val → CR} {k : Nat} {X : Cx} {W : WX} {cls : Nat → Value} {sc : Scope} (h : XOk cf P call k X W cls sc) : X.A.units + 200 < cLine := by
  have := h.room.un
  omega

section
variable {K : W.Frag} {B : Base} {Γ : Gam} {Θ Ts : List (V × Val)} {σ : St} {G G' H H' : Hp} {ρ : Nat → List Addr} {R : List Addr} {v : V} {x : Val}
/-! ### small steps of the state -/
theorem vis_of {sc : Scope} {x : Str} (h : visB sc x = true) : Vis sc x := by
  unfold visB at h
  unfold Vis
  split at h
  · rename_i e; exact .inl e
  · rename_i e; exact .inr (.inl e)
  · rename_i e; exact .inr (.inr e)
  · cases h
theorem gl_of {X : Cx} {sc : Scope} {x : Str} (hs : X.env.scope = sc) (h : glB sc x = true) : Gl X x := by
  unfold glB at h
  split at h
  · rename_i e
    show X.env.scope.names.lookup x = _
    rw [hs]; exact e
  · cases h
theorem name_of {cf : Cfg} {X : Cx} {sc : Scope} {x : Str} {i : Nat} {pos : Pos} (hN : X.N = cf.N) (hs : X.env.scope = sc) (h : nameB cf sc x i = true) : PE X (.Name x pos) (tVar i) := by
  unfold nameB plainB at h
  simp only [Bool.and_eq_true, decide_eq_true_eq, Bool.not_eq_true'] at h
  obtain ⟨⟨h1, h2⟩, h3, h4⟩ := h
  exact pe_var (by rw [hN]; exact h1) (by rw [hs]; exact vis_of h2) h3 h4
theorem lend_d : (lend x).d = x.d := rfl
theorem Sat.lendI (S : Sat K B Γ Θ σ G H ρ) (i : Nat) : SatE K B (lendI Γ i) Θ σ H := by
  unfold Px.lendI
  cases h : slotG Γ i with
  | none => exact ⟨G, ρ, S⟩
  | some x =>
    dsimp only
    split
    · exact ⟨G, ρ, S⟩
    · rename_i ho
      have q := S.freeze (slotG_some.mp h)
      have e : lend x = ⟨.no, true, x.d⟩ := by
        unfold lend
        simp [ho]
      rw [e]
      exact ⟨_, _, q⟩
theorem SatE.lendI (S : SatE K B Γ Θ σ H) (i : Nat) : SatE K B (lendI Γ i) Θ σ H := let ⟨_, _, S⟩ := S; S.lendI i
theorem SatE.lendAll : ∀ (is : List Nat) {Γ : Gam}, SatE K B Γ Θ σ H → SatE K B (lendAll Γ is) Θ σ H
  | [], _, S => S
  | i :: is, _, S => SatE.lendAll is (S.lendI i)
theorem SatE.killG : ∀ (is : List Nat) {Γ : Gam}, SatE K B Γ Θ σ H → SatE K B (killG Γ is) Θ σ H
  | [], _, S => S
  | i :: is, _, S => SatE.killG is (S.kill i)
theorem slot_lend {i : Nat} (h : slotG Γ i = some x) : slotG (lendI Γ i) i = some (lend x) := by
  unfold lendI
  rw [h]
  dsimp only
  split
  · rename_i ho; rw [lend_no ho]; exact h
  · have hi : i < Γ.length := (List.getElem?_eq_some_iff.mp (slotG_some.mp h)).1
    rw [slotG_some, List.getElem?_set_self hi]
theorem sig_of (S : Sat K B Γ Θ σ G H ρ) {i : Nat} (h : slotG Γ i = some x) : ∃ v, σ[i]? = some (some v) ∧ ValOk K G H (ρ i) v x := S.slot i x (slotG_some.mp h)
/-- a copy of what owns nothing -/
theorem Sat.copy (S : Sat K B Γ Θ σ G H ρ) {i : Nat} (h : slotG Γ i = some x) (ho : x.ow = .no) (hv : σ[i]? = some (some v)) : SatE K B Γ (Θ ++ [(v, x)]) σ H := by
  have q := slot_at S h hv
  have e := q.2.1 ho
  rw [e] at q
  exact ⟨G, _, S.push0 q⟩
/-- the last temporary becomes read-only for good -/
theorem Sat.freezeT (S : Sat K B Γ (Θ ++ [(v, x)]) σ G H ρ) : ∃ G' ρ', Sat K B Γ Θ σ G' H ρ' ∧ Same G G' ∧ ValOk K G' H [] v (lend x) := by
  have hx := S.temp Θ.length v x (by rw [List.getElem?_append_right (Nat.le_refl _), Nat.sub_self] <;> rfl)
  have hown : ∀ a ∈ ρ (Γ.length + Θ.length), G a = none := fun a z => (S.own _ a z).1
  have ext : Same G (addH G H (ρ (Γ.length + Θ.length))) := addH_ext hown
  have D := S.drop
  refine ⟨addH G H (ρ (Γ.length + Θ.length)), _, ⟨fun a o e => ?_, S.ext.trans ext, fun a o e => ?_, S.frame, S.len, fun j y e => ?_, fun j w y e => (D.temp j w y e).monoG ext, D.nod, D.dis, fun i a h => ?_, D.emp, S.io⟩, ext, hx.lent ext fun a z => addH_in z⟩
  · by_cases ha : a ∈ ρ (Γ.length + Θ.length)
    · rw [addH_in ha] at e; exact e
    · rw [addH_out ha] at e; exact S.sub a o e
  · by_cases ha : a ∈ ρ (Γ.length + Θ.length)
    · exact .inr (S.own _ a ha).2
    · rw [addH_out ha] at e; exact S.fresh a o e
  · obtain ⟨w, h1, h2⟩ := D.slot j y e
    exact ⟨w, h1, h2.monoG ext⟩
  · refine ⟨?_, (D.own i a h).2⟩
    rw [addH_out]
    · exact (D.own i a h).1
    · intro z
      split at h
      · have := S.dis i _ a h z
        omega
      · cases h
theorem Sat.lentT (S : Sat K B Γ (Θ ++ [(v, x)]) σ G H ρ) : SatE K B Γ (Θ ++ [(v, lend x)]) σ H := by
  obtain ⟨G', ρ', S', _, q⟩ := S.freezeT
  exact ⟨G', _, S'.push0 q⟩
/-! what is tuples and atoms all the way down owns nothing -/
mutual
theorem imm_rep (e : Same G H) : ∀ (d : D) {R : List Addr} {v : V}, imm d = true → Rep K G H R v d → R = [] ∧ Rep K noH H [] v d
  | .at a, _, _, _, r => by cases r; exact ⟨rfl, .at a⟩
  | .nd t xs, _, _, h, r => by
    cases t with
    | tup =>
      have h : imms xs = true := by rw [imm] at h; exact h
      obtain ⟨b, us, rfl, h1, h2⟩ := tup_inv e r
      obtain ⟨h3, h4⟩ := imms_rep e xs h h2
      exact ⟨h3, .tup h1 h4⟩
    | _ => rw [imm] at h <;> first | cases h | (intro _ z; cases z)
theorem imms_rep (e : Same G H) : ∀ (ds : List D) {R : List Addr} {vs : List V}, imms ds = true → Reps K G H R vs ds → R = [] ∧ Reps K noH H [] vs ds
  | [], _, _, _, r => by obtain ⟨rfl, rfl⟩ := r.inv_nil; exact ⟨rfl, .nil⟩
  | d :: ds, _, _, h, r => by
    obtain ⟨R1, R2, v, us, rfl, rfl, h1, h2⟩ := r.inv_cons
    rw [imms, Bool.and_eq_true] at h
    obtain ⟨e1, q1⟩ := imm_rep e d h.1 h1
    obtain ⟨e2, q2⟩ := imms_rep e ds h.2 h2
    subst e1 e2
    exact ⟨rfl, .cons0 q1 q2⟩
end
theorem Sat.immT (S : Sat K B Γ (Θ ++ [(v, x)]) σ G H ρ) (h : imm x.d = true) : SatE K B Γ (Θ ++ [(v, ⟨.no, false, x.d⟩)]) σ H := by
  have hx := S.temp Θ.length v x (by rw [List.getElem?_append_right (Nat.le_refl _), Nat.sub_self] <;> rfl)
  obtain ⟨_, q⟩ := imm_rep (gx_same S.sub) x.d h hx.1
  exact ⟨G, _, S.drop.push0 (ok_no (fz := false) q)⟩
theorem last_ok (S : Sat K B Γ (Θ ++ [(v, x)]) σ G H ρ) : ValOk K G H (ρ (Γ.length + Θ.length)) v x :=
  S.temp Θ.length v x (by rw [List.getElem?_append_right (Nat.le_refl _), Nat.sub_self] <;> rfl)
theorem boolV_inv {b : Bool} (h : boolV x = some b) : x.d = .bl b := by
  unfold boolV at h
  split at h
  · rename_i b' e; cases h; exact e
  · cases h
/-- an operand's truth -/
theorem opd_bool {o : Opd} {b : Bool} {Γ' : Gam} (S : SatE K B Γ' (Θ ++ Ts) σ H) (hO : OpdsR σ [o] [v] Ts) (h : (getD1 Γ' o).bind boolV = some b) : v = .bl b := by
  obtain ⟨G, ρ, S⟩ := S
  cases hO with
  | v r =>
    cases r
    exact (last_ok S).at_inv (boolV_inv h)
  | @b _ i _ _ _ hv r =>
    cases q : slotG Γ' i with
    | none =>
      have h : (slotG Γ' i).bind boolV = some b := h
      rw [q] at h; cases h
    | some y =>
      have h : (slotG Γ' i).bind boolV = some b := h
      rw [q] at h
      exact (slot_at S q hv).at_inv (boolV_inv h)
  | m hv r => cases h
end
end Px
namespace Px
open PySem L2

/-! ### the slots of a block -/
theorem wipe_out {σ : St} {i : Nat} : ∀ {vs : List Nat}, i ∉ vs → (wipe σ vs)[i]? = σ[i]?
  | [], _ => rfl
  | v :: vs, h => by
    show ((wipe σ vs).set v none)[i]? = _
    rw [List.getElem?_set_ne (show v ≠ i from fun e => h (e ▸ List.mem_cons_self))]
    exact wipe_out fun z => h (List.mem_cons_of_mem _ z)
theorem wipe_in {σ : St} {i : Nat} : ∀ {vs : List Nat}, i ∈ vs → i < σ.length → (wipe σ vs)[i]? = some none
  | [], h, _ => by cases h
  | v :: vs, h, hi => by
    show ((wipe σ vs).set v none)[i]? = _
    by_cases e : v = i
    · subst e
      rw [List.getElem?_set_self (by rw [wipe_length]; exact hi)]
    · rw [List.getElem?_set_ne e]
      exact wipe_in ((List.mem_cons.mp h).resolve_left fun z => e z.symm) hi
theorem wipe_ext {σ τ : St} {vs : List Nat} (hl : σ.length = τ.length) (h : ∀ i, i ∉ vs → σ[i]? = τ[i]?) : wipe σ vs = wipe τ vs := by
  refine List.ext_getElem? fun i => ?_
  by_cases hi : i ∈ vs
  · by_cases hl2 : i < σ.length
    · rw [wipe_in hi hl2, wipe_in hi (hl ▸ hl2)]
    · rw [List.getElem?_eq_none (by rw [wipe_length]; omega), List.getElem?_eq_none (by rw [wipe_length]; omega)]
  · rw [wipe_out hi, wipe_out hi, h i hi]
theorem wipe_set {σ : St} {vs : List Nat} {i : Nat} {o : Option V} (h : i ∈ vs) : wipe (σ.set i o) vs = wipe σ vs :=
  wipe_ext (by rw [List.length_set]) fun j hj => List.getElem?_set_ne (show i ≠ j from fun e => hj (e ▸ h))
theorem wipe_idem {σ : St} {vs : List Nat} : wipe (wipe σ vs) vs = wipe σ vs := wipe_ext (wipe_length _ _) fun i hi => wipe_out hi
theorem killG_len : ∀ {is : List Nat} {Γ : Gam}, (killG Γ is).length = Γ.length
  | [], _ => rfl
  | i :: is, Γ => by
    show (killG (Γ.set i none) is).length = _
    rw [killG_len, List.length_set]
theorem killG_none : ∀ {is : List Nat} {Γ : Gam} {j : Nat}, Γ[j]? = some none → (killG Γ is)[j]? = some none
  | [], _, _, h => h
  | i :: is, Γ, j, h => by
    refine killG_none (is := is) ?_
    by_cases e : i = j
    · subst e
      rw [List.getElem?_set_self (List.getElem?_eq_some_iff.mp h).1]
    · rw [List.getElem?_set_ne e]; exact h
theorem killG_in : ∀ {is : List Nat} {Γ : Gam} {j : Nat} {x : Val}, (killG Γ is)[j]? = some (some x) → j ∉ is
  | [], _, _, _, _ => by simp
  | i :: is, Γ, j, x, h => by
    have h : (killG (Γ.set i none) is)[j]? = some (some x) := h
    intro z
    rcases List.mem_cons.mp z with rfl | z
    · have hl := (List.getElem?_eq_some_iff.mp h).1
      rw [killG_len, List.length_set] at hl
      rw [killG_none (by rw [List.getElem?_set_self hl])] at h
      cases h
    · exact killG_in h z
section
variable {K : W.Frag} {B : Base} {Γ : Gam} {Θ Ts Ys : List (V × Val)} {σ : St} {G G' H H' : Hp} {ρ : Nat → List Addr} {R : List Addr} {v : V} {x : Val} {J : It} {items : List Val} {D : Addr}
theorem Sat.resig {τ : St} (S : Sat K B Γ Θ σ G H ρ) (hl : τ.length = σ.length) (hs : ∀ (i : Nat) (x : Val), Γ[i]? = some (some x) → τ[i]? = σ[i]?) (hio : ∀ p ∈ B.io, τ[p.1]? = σ[p.1]?) : Sat K B Γ Θ τ G H ρ :=
  ⟨S.sub, S.ext, S.fresh, S.frame, S.len.trans hl.symm, fun i x e => let ⟨v, h1, h2⟩ := S.slot i x e; ⟨v, (hs i x e).trans h1, h2⟩, S.temp, S.nod, S.dis, S.own, S.emp, fun p hp => (hio p hp).trans (S.io p hp)⟩
/-- a block's slots are forgotten -/
theorem SatE.wiped {kl : List Nat} (S : SatE K B Γ Θ σ H) (hio : ∀ p ∈ B.io, p.1 ∉ kl) : SatE K B (Px.killG Γ kl) Θ (wipe σ kl) H := by
  obtain ⟨G, ρ, S⟩ := SatE.killG kl S
  exact ⟨G, ρ, S.resig (wipe_length _ _) (fun i x e => wipe_out (killG_in e)) fun p hp => wipe_out (hio p hp)⟩
/-- .. and were never there -/
theorem Sat.unwipe {kl : List Nat} (S : Sat K B Γ Θ (wipe σ kl) G H ρ) (hio : ∀ p ∈ B.io, p.1 ∉ kl) : Sat K B Γ Θ σ G H ρ := by
  refine S.resig (wipe_length _ _).symm (fun i x e => ?_) fun p hp => (wipe_out (hio p hp)).symm
  obtain ⟨v, h1, _⟩ := S.slot i x e
  rw [h1]
  exact (wipe_some h1).1

/-! ### what is walked -/
def WalkOk (K : W.Frag) (G H : Hp) (J : It) (items : List Val) : Prop := ∀ G' H', Same G G' → Same G' H' → (∀ a xs, H a = some (.tup xs) → H' a = some (.tup xs)) → ∀ i,
  (∀ it, items[i]? = some it → J.go i H' ∧ ∀ x H'', J.yld i H' x H'' → Same H' H'' ∧ ValOk K G' H'' [] x it) ∧ (items.length ≤ i → J.stop i H')
theorem WalkOk.mono {G1 H1 : Hp} (h : WalkOk K G H J items) (e : Same G G1) (ht : ∀ a xs, H a = some (.tup xs) → H1 a = some (.tup xs)) : WalkOk K G1 H1 J items :=
  fun G' H' e1 e2 ht' => h G' H' (e.trans e1) e2 fun a xs r => ht' a xs (ht a xs r)
def SatW (K : W.Frag) (B : Base) (Γ : Gam) (Θ : List (V × Val)) (σ : St) (H : Hp) (J : It) (items : List Val) : Prop := ∃ G ρ, Sat K B Γ Θ σ G H ρ ∧ WalkOk K G H J items
theorem Sat.tupsStay {n : Nat} {Γ' : Gam} {Θ' : List (V × Val)} {σ' : St} {ρ' : Nat → List Addr} (S : Sat K B Γ Θ σ G H ρ) (S' : Sat K (B.at G H (owned ρ n)) Γ' Θ' σ' G' H' ρ') : ∀ a xs, H a = some (.tup xs) → H' a = some (.tup xs) := fun a xs r => by
  refine S'.frame a _ r fun z => ?_
  obtain ⟨i, _, z⟩ := mem_owned.mp z
  obtain ⟨o', e', n1, n2⟩ := S.live z
  rw [r] at e'; cases e'
  exact n1 _ rfl
theorem SatW.e (S : SatW K B Γ Θ σ H J items) : SatE K B Γ Θ σ H := let ⟨G, ρ, S, _⟩ := S; ⟨G, ρ, S⟩
/-- one turn -/
theorem SatW.turn (S : SatW K B Γ Θ σ H J items) : ∃ B' : Base, B'.io = B.io ∧ (∀ i it, items[i]? = some it → J.go i H ∧ ∀ x H'', J.yld i H x H'' → SatE K B' Γ (Θ ++ [(x, it)]) σ H'') ∧ (∀ i, items.length ≤ i → J.stop i H) ∧
    SatE K B' Γ Θ σ H ∧ ∀ Γ' Θ' σ' H', SatE K B' Γ' Θ' σ' H' → SatW K B Γ' Θ' σ' H' J items := by
  obtain ⟨G, ρ, S, w⟩ := S
  refine ⟨B.at G H (owned ρ (Γ.length + Θ.length)), rfl, fun i it e => ?_, fun i hi => (w G H (Same.refl _) S.sub (fun _ _ r => r) i).2 hi, ⟨G, ρ, S.rebase⟩, fun Γ' Θ' σ' H' ⟨G', ρ', S'⟩ => ⟨G', ρ', S.unbase S', w.mono S'.ext (S.tupsStay S')⟩⟩
  obtain ⟨h1, h2⟩ := (w G H (Same.refl _) S.sub (fun _ _ r => r) i).1 it e
  refine ⟨h1, fun x H'' y => ?_⟩
  obtain ⟨e2, ok⟩ := h2 x H'' y
  exact ⟨G, _, (S.rebase.same e2).push0 ok⟩
/-- a place of none is written -/
theorem Sat.wr {l : List V} {o' : HO} (S : Sat K B Γ Θ σ G H ρ) (hD : H D = some (.lst l)) (hn : ∀ i, D ∉ ρ i) (hG : G D = none) (hB : B.H0 D = none ∨ D ∈ B.rin) : Sat K B Γ Θ σ G (upd H D o') ρ := by
  have ht : ∀ a xs, H a = some (.tup xs) → upd H D o' a = some (.tup xs) := fun a xs r => by
    rw [upd_ne (fun e => by rw [e, hD] at r; cases r)]
    exact r
  refine ⟨fun a o e => ?_, S.ext, S.fresh, fun a o h1 h2 => ?_, S.len, fun i y e => ?_, fun j w y e => ?_, S.nod, S.dis, S.own, S.emp, S.io⟩
  · rw [upd_ne (fun z => by rw [z, hG] at e; cases e)]
    exact S.sub a o e
  · rw [upd_ne (fun z => by
      rcases hB with q | q
      · rw [z, q] at h1; cases h1
      · exact h2 (z ▸ q))]
    exact S.frame a o h1 h2
  · obtain ⟨w, h1, h2⟩ := S.slot i y e
    exact ⟨w, h1, h2.stay ht fun a z => upd_ne fun e => hn i (e ▸ z)⟩
  · exact (S.temp j w y e).stay ht fun a z => upd_ne fun e => hn _ (e ▸ z)

/-! ### a comprehension's list as it grows -/
def SatL (K : W.Frag) (B : Base) (Γ : Gam) (Θ Ys : List (V × Val)) (D : Addr) (σ : St) (H : Hp) (J : It) (items : List Val) : Prop :=
  ∃ G ρ, Sat K B Γ (Θ ++ Ys) σ G H ρ ∧ WalkOk K G H J items ∧ H D = some (.lst (Ys.map (·.1))) ∧ (∀ i, D ∉ ρ i) ∧ G D = none ∧ (B.H0 D = none ∨ D ∈ B.rin)
theorem SatW.start (S : SatW K B Γ Θ σ H J items) (hD : H D = none) : SatL K B Γ Θ [] D σ (upd H D (.lst [])) J items := by
  obtain ⟨G, ρ, S, w⟩ := S
  have e : Same H (upd H D (.lst [])) := same_upd hD
  obtain ⟨n1, n2, n3⟩ := S.newOwn hD
  refine ⟨G, ρ, ?_, w.mono (Same.refl _) fun a xs r => e _ _ r, upd_same, n1, n2, n3⟩
  rw [List.append_nil]
  exact S.same e
theorem SatL.e (S : SatL K B Γ Θ Ys D σ H J items) : SatE K B Γ (Θ ++ Ys) σ H := let ⟨G, ρ, S, _⟩ := S; ⟨G, ρ, S⟩
theorem SatL.turn (S : SatL K B Γ Θ Ys D σ H J items) : ∃ B' : Base, B'.io = B.io ∧ (∀ i it, items[i]? = some it → J.go i H ∧ ∀ x H'', J.yld i H x H'' → SatE K B' Γ (Θ ++ Ys ++ [(x, it)]) σ H'') ∧ (∀ i, items.length ≤ i → J.stop i H) ∧
    ∀ Γ' Ts σ' H', SatE K B' Γ' (Θ ++ Ys ++ Ts) σ' H' → H' D = some (.lst (Ys.map (·.1))) ∧ SatL K B Γ' Θ (Ys ++ Ts) D σ' (upd H' D (.lst ((Ys ++ Ts).map (·.1)))) J items := by
  obtain ⟨G, ρ, S, w, hD, hn, hG, hB⟩ := S
  refine ⟨B.at G H (owned ρ (Γ.length + (Θ ++ Ys).length)), rfl, fun i it e => ?_, fun i hi => (w G H (Same.refl _) S.sub (fun _ _ r => r) i).2 hi, fun Γ' Ts σ' H' ⟨G', ρ', S'⟩ => ?_⟩
  · obtain ⟨h1, h2⟩ := (w G H (Same.refl _) S.sub (fun _ _ r => r) i).1 it e
    refine ⟨h1, fun x H'' y => ?_⟩
    obtain ⟨e2, ok⟩ := h2 x H'' y
    exact ⟨G, _, (S.rebase.same e2).push0 ok⟩
  · have no : D ∉ owned ρ (Γ.length + (Θ ++ Ys).length) := fun z => by
      obtain ⟨i, _, z⟩ := mem_owned.mp z
      exact hn i z
    have hD' : H' D = some (.lst (Ys.map (·.1))) := S'.frame D _ hD no
    have hn' : ∀ i, D ∉ ρ' i := fun i z => by
      rcases (S'.own i D z).2 with q | q
      · have q : H D = none := q
        rw [hD] at q; cases q
      · exact no q
    have hG' : G' D = none := by
      cases e : G' D with
      | none => rfl
      | some o =>
        rcases S'.fresh D o e with q | q | q
        · have q : G D = some o := q
          rw [hG] at q; cases q
        · have q : H D = none := q
          rw [hD] at q; cases q
        · exact absurd q no
    refine ⟨hD', G', ρ', ?_, ?_, upd_same, hn', hG', hB⟩
    · rw [← List.append_assoc]
      exact (S.unbase S').wr hD' hn' hG' hB
    · refine w.mono S'.ext fun a xs r => ?_
      have q := S.tupsStay S' a xs r
      rw [upd_ne (fun e => by rw [e, hD'] at q; cases q)]
      exact q
theorem SatL.done (S : SatL K B Γ Θ Ys D σ H J items) : SatE K B Γ (Θ ++ [(.ref D, mkL (Ys.map (·.2)))]) σ H := by
  obtain ⟨G, ρ, S, w, hD, hn, hG, hB⟩ := S
  refine ⟨G, _, S.drop.push (R := D :: catR ρ (Γ.length + Θ.length) Ys.length) ⟨?_, fun z => ?_, fun z => ?_, fun z t ds ed nt => ⟨D, _, rfl, rfl⟩⟩ (List.nodup_cons.mpr ⟨fun z => ?_, nodup_catR S.nod S.dis _ _⟩) fun a h => ?_⟩
  · have q := S.reps
    show Rep K (gx G (anyFz (Ys.map (·.2)))) _ _ _ (.nd .lst ((Ys.map (·.2)).map (·.d)))
    rw [map_d]
    exact .own (show NodeO _ .lst D _ from hD) q
  · unfold mkL at z
    dsimp only at z
    split at z <;> cases z
  · have h : anyOw (Ys.map (·.2)) = false := by
      cases h : anyOw (Ys.map (·.2)) with
      | false => rfl
      | true => unfold mkL at z; rw [h] at z; cases z
    exact ⟨D, .lst, _, rfl, by rw [S.catNo h], rfl, by decide⟩
  · obtain ⟨j, _, _, h3⟩ := mem_catR z
    exact hn j h3
  · rcases List.mem_cons.mp h with rfl | h
    · refine ⟨fun i z => ?_, hG, hB⟩
      split at z
      · exact hn i z
      · cases z
    · exact S.dropApart h
end

/-! ### targets -/
def tgIn : Tgt → List Nat → Prop
  | .one i, vs => i ∈ vs
  | .many is, vs => ∀ i ∈ is, i ∈ vs
def tTg (r : Rd0) (C : Ctx) (t : Tgt) : TG := fun v σ H Q => ∃ B Γ Θ x, SatE r.K B Γ (Θ ++ [(v, x)]) σ H ∧ IoIn B C ∧
  (setTgt C t x Γ).post (fun _ _ => False) (fun _ Γ' => ∀ σ', SatE r.K B Γ' Θ σ' H → (∀ vs, tgIn t vs → wipe σ' vs = wipe σ vs) → Q σ' H)
def gNames : List Nat → TGs
  | [] => gNil
  | i :: is => gCons (gName i) (gNames is)
def setAll : St → List Nat → List V → St
  | σ, i :: is, v :: vs => setAll (σ.set i (some v)) is vs
  | σ, _, _ => σ
theorem gNames_run : ∀ {is : List Nat} {vs : List V} {σ : St} {H : Hp} {Q : St → Hp → Prop}, vs.length = is.length → Q (setAll σ is vs) H → gNames is vs σ H Q
  | [], [], _, _, _, _, q => ⟨rfl, q⟩
  | [], _ :: _, _, _, _, h, _ => by simp at h
  | _ :: _, [], _, _, _, h, _ => by simp at h
  | i :: is, v :: vs, σ, H, Q, h, q => ⟨v, vs, rfl, gNames_run (is := is) (by simpa using h) q⟩
theorem setAll_wipe : ∀ {is : List Nat} {vs : List V} {σ : St} {kl : List Nat}, (∀ i ∈ is, i ∈ kl) → wipe (setAll σ is vs) kl = wipe σ kl
  | [], _, _, _, _ => by unfold setAll; rfl
  | _ :: _, [], _, _, _ => by unfold setAll; rfl
  | i :: is, v :: vs, σ, kl, h => by
    unfold setAll
    rw [setAll_wipe fun j hj => h j (List.mem_cons_of_mem _ hj), wipe_set (h i List.mem_cons_self)]
section
variable {X : Cx}
def tgOk (X : Cx) (ok : Str → Bool) : Prop := ∀ x, ok x = true → Loc X.env.scope x ∧ (X.fn x = true ∨ X.env.scope.names.lookup x = some .local)
theorem pgs_names {ok : Str → Bool} (hN : X.N.Nodup) (hk : tgOk X ok) : ∀ {es : List Expr} {xs : List Str} {is : List Nat}, tgNames es = some xs → isB X.N xs is = true → xs.all ok = true →
    PGs X es (gNames is) ∧ (assignEach es X.env).length = is.length ∧ (assignEach es X.env).findIdx? (·.1) = none
  | [], xs, is, h, hi, ho => by
    cases h
    cases is with
    | nil => exact ⟨pgs_nil, rfl, rfl⟩
    | cons i is => cases hi
  | e :: es, xs, is, h, hi, ho => by
    cases e with
    | Name x p =>
      have h : (tgNames es).map (x :: ·) = some xs := h
      cases q : tgNames es with
      | none => rw [q] at h; cases h
      | some ys =>
        rw [q] at h; cases h
        cases is with
        | nil => cases hi
        | cons i is =>
          unfold isB at hi
          rw [Bool.and_eq_true, decide_eq_true_eq] at hi
          rw [List.all_cons, Bool.and_eq_true] at ho
          obtain ⟨h1, h2, h3⟩ := pgs_names hN hk q hi.2 ho.2
          obtain ⟨k1, k2⟩ := hk x ho.1
          refine ⟨pgs_cons (pg_name hN hi.1 k1 k2) h1, congrArg (· + 1) h2, ?_⟩
          show List.findIdx? _ ((false, _) :: assignEach es X.env) = none
          rw [List.findIdx?_cons, h3]
          rfl
    | _ => cases h
section
variable {K : W.Frag} {B : Base} {Θ : List (V × Val)} {G H : Hp} {C : Ctx}
theorem child_ok {fz : Bool} {d : D} {v : V} (h : Rep K (gx G fz) H [] v d) : ValOk K G H [] v (childV fz d) := by
  cases d with
  | «at» a => rw [h.at_inv.1]; exact ok_atom
  | nd t xs => exact ok_no h
theorem go_run {fz : Bool} {Q : Gam → Prop} (io : IoIn B C) : ∀ {is : List Nat} {ds : List D} {vs : List V} {Γ : Gam} {σ : St} {ρ : Nat → List Addr}, ds.length = is.length → Sat K B Γ Θ σ G H ρ → Reps K (gx G fz) H [] vs ds →
    (setTgt.go C fz is ds Γ).post (fun _ _ => False) (fun _ Γ' => Q Γ') → ∃ Γ', Q Γ' ∧ SatE K B Γ' Θ (setAll σ is vs) H
  | [], ds, vs, Γ, σ, ρ, _, S, _, h => by
    unfold setTgt.go at h
    unfold setAll
    cases ds <;> exact ⟨_, h, ⟨_, _, S⟩⟩
  | i :: is, [], vs, Γ, σ, ρ, hl, S, _, h => by simp at hl
  | i :: is, d :: ds, vs, Γ, σ, ρ, hl, S, r, h => by
    obtain ⟨v, us, rfl, r1, r2⟩ := r.uncons
    unfold setTgt.go at h
    split at h
    · exact h.elim
    · rename_i n1
      split at h
      · rename_i n2
        have S2 := (S.push0 (child_ok r1)).store n2 fun p hp e => n1 (e ▸ io p hp)
        exact go_run (is := is) io (Nat.succ.inj hl) S2 r2 h
      · exact h.elim
end
/-- A TARGET -/
theorem pg_tg {r : Rd0} {C : Ctx} {ok : Str → Bool} (hr : r.K = X.K) (hc : X.calm = true) (hN : X.N.Nodup) (hk : tgOk X ok) {tg : Expr} {t : Tgt} (h : tgB X.N ok tg t = true) : PG X tg (tTg r C t) := by
  cases t with
  | one i =>
    cases tg with
    | Name x p =>
      have h : (decide (X.N[i]? = some x) && ok x) = true := h
      rw [Bool.and_eq_true, decide_eq_true_eq] at h
      obtain ⟨k1, k2⟩ := hk x h.2
      refine PG.of (pg_name hN h.1 k1 k2) fun v σ H Q ⟨B, Γ, Θ, x, S, io, q⟩ => ?_
      have q : (if i ∈ C.io then R.bad else if i < Γ.length then R.ok () (Γ.set i (some x)) else R.bad).post (fun _ _ => False) (fun _ Γ' => ∀ σ', SatE r.K B Γ' Θ σ' H → (∀ vs, tgIn (.one i) vs → wipe σ' vs = wipe σ vs) → Q σ' H) := q
      split at q
      · exact q.elim
      · rename_i n1
        split at q
        · rename_i n2
          exact q _ (S.store n2 fun p hp e => n1 (e ▸ io p hp)) fun vs hv => wipe_set hv
        · exact q.elim
    | _ => cases h
  | many is =>
    cases tg with
    | Tuple es kk p =>
      have h : (match tgNames es with
        | some xs => isB X.N xs is && xs.all ok
        | none => false) = true := h
      cases q : tgNames es with
      | none => rw [q] at h; cases h
      | some xs =>
        rw [q] at h
        dsimp only at h
        rw [Bool.and_eq_true] at h
        obtain ⟨p1, p2, p3⟩ := pgs_names hN hk q h.1 h.2
        have go : ∀ {B : Base} {Γ : Gam} {Θ : List (V × Val)} {x : Val} {v : V} {σ : St} {H : Hp} {Q : St → Hp → Prop} {nt : NT} {ds : List D}, nt = .tup ∨ nt = .lst → SatE X.K B Γ (Θ ++ [(v, x)]) σ H → IoIn B C → x.ow = .no → x.d = .nd nt ds → ds.length = is.length →
            (setTgt.go C x.fz is ds Γ).post (fun _ _ => False) (fun _ Γ' => ∀ σ', SatE X.K B Γ' Θ σ' H → (∀ vs, tgIn (.many is) vs → wipe σ' vs = wipe σ vs) → Q σ' H) →
            ∃ a xs, v = .ref a ∧ NodeR X.K H nt a xs ∧ xs.length = is.length ∧ gNames is xs σ H Q := fun {B Γ Θ x v σ H Q nt ds} hnt S io ho hd hl z => by
          obtain ⟨G, ρ, S⟩ := S
          have ok := last_ok S
          have e0 := ok.2.1 ho
          rw [e0] at ok
          obtain ⟨a, us, rfl, n1, n2⟩ := ok.kids S.sub (by rw [ho]; intro z; cases z) hd
          obtain ⟨Γ', k1, k2⟩ := go_run io hl S.drop n2 z
          have lu := n2.length ds
          exact ⟨a, us, rfl, n1, lu.trans hl, gNames_run (lu.trans hl) (k1 _ k2 fun vs hv => setAll_wipe hv)⟩
        refine ⟨fun pins s σ H v u Q I ru ⟨B, Γ, Θ, x, S, io, z⟩ => ?_⟩
        rw [hr] at S z
        have z : (match x.ow, x.d with
          | .no, .nd .tup ds => if ds.length = is.length then setTgt.go C x.fz is ds Γ else .bad
          | .no, .nd .lst ds => if ds.length = is.length then setTgt.go C x.fz is ds Γ else .bad
          | _, _ => .bad : R Unit).post (fun _ _ => False) (fun _ Γ' => ∀ σ', SatE X.K B Γ' Θ σ' H → (∀ vs, tgIn (.many is) vs → wipe σ' vs = wipe σ vs) → Q σ' H) := z
        split at z
        · rename_i ds ho hd
          split at z
          · rename_i hl
            obtain ⟨a, us, rfl, n1, l1, g⟩ := go (.inl rfl) S io ho hd hl z
            exact (pg_tup hc p1 p2 p3).run pins s σ H _ u Q I ru ⟨a, us, rfl, SqT.of n1, l1, g⟩
          · exact z.elim
        · rename_i ds ho hd
          split at z
          · rename_i hl
            obtain ⟨a, us, rfl, n1, l1, g⟩ := go (.inr rfl) S io ho hd hl z
            exact (pg_unl hc p1 p2 p3).run pins s σ H _ u Q I ru ⟨a, us, rfl, n1.sq, l1, g⟩
          · exact z.elim
        · exact z.elim
    | _ => cases h
end
end Px
namespace Px
open PySem L2

/-! ### an expression as a value and as a test -/
def plainT (e : Expr) : Prop := ∀ (env : PySem.Env) (whole : Sem Value), isTrue e env whole = (do let v ← whole; standAt e.pos; holding [v] (truthy v))
def noBool (e : Expr) : Prop := ∀ op as pos, e ≠ .BoolOp op as pos
structure PB (X : Cx) (e : Expr) (t : TE) : Prop where
  pe : PE X e t
  pt : PT X e (tTest t)
  pw : ∀ op as pos, e = .BoolOp op as pos → PW X e (tTest t)
theorem PW.of {X : Cx} {e : Expr} {t t' : TT} (h : PW X e t) (w : ∀ σ H Q, t' σ H Q → t σ H Q) : PW X e t' := ⟨fun wh pins s σ H Q I q => h.run wh pins s σ H Q I (w σ H Q q)⟩
theorem PTs.of {X : Cx} {es : List Expr} {t t' : TT} (h : PTs X es t) (w : ∀ σ H Q, t' σ H Q → t σ H Q) : PTs X es t' := ⟨fun pins s σ H Q I q => h.run pins s σ H Q I (w σ H Q q)⟩
theorem PB.of {X : Cx} {e : Expr} {t t' : TE} (h : PB X e t) (w : ∀ σ H Q, t' σ H Q → t σ H Q) : PB X e t' :=
  ⟨PE.of h.pe w, PT.of h.pt fun σ H Q q => w σ H _ q, fun op as pos e => PW.of (h.pw op as pos e) fun σ H Q q => w σ H _ q⟩
theorem pb_plain {X : Cx} {e : Expr} {t : TE} (h : PE X e t) (hp : plainT e) (hn : noBool e) : PB X e t := ⟨h, pt_val h (hp X.env), fun op as pos e => absurd e (hn op as pos)⟩
theorem pb_test {X : Cx} {e : Expr} {t : TE} (h : PE X e t) (ht : PT X e (tTest t)) (hn : noBool e) : PB X e t := ⟨h, ht, fun op as pos e => absurd e (hn op as pos)⟩
theorem mat_plain {o : Op} {e : Expr} {r : List Expr × List Str} (h : opMat o e = some r) (h1 : ∀ op, o.kind ≠ .cmp op) (h2 : o.kind ≠ .isn) (h3 : o.kind ≠ .isnt) : plainT e := by
  unfold opMat at h
  cases hk : o.kind with
  | cmp op => exact absurd hk (h1 op)
  | isn => exact absurd hk h2
  | isnt => exact absurd hk h3
  | meth m id n => rw [hk] at h; cases h
  | sst => rw [hk] at h; cases h
  | slc a b =>
    rw [hk] at h
    cases a <;> cases b <;> (dsimp only at h; split at h <;> first | (intro env whole; rfl) | cases h)
  | _ => rw [hk] at h; dsimp only at h; split at h <;> first | (intro env whole; rfl) | cases h
theorem mat_noBool {o : Op} {e : Expr} {r : List Expr × List Str} (h : opMat o e = some r) : noBool e := by
  intro op as pos q
  subst q
  unfold opMat at h
  cases hk : o.kind with
  | slc a b => rw [hk] at h; cases a <;> cases b <;> cases h
  | _ => rw [hk] at h; cases h
section
variable {X : Cx}
theorem cmp_soundT {o : Op} {op : CmpOp} (ho : OpR X (compareOp op) (rel2 X.K o)) {e : Expr} {es : List Expr} {ns : List Str} {ts : List TE} (hk : o.kind = .cmp op) (h : opMat o e = some (es, ns)) (hp : Paired (fun e t => PE X e t) es ts) : PT X e (tTest (tOpx X.K o ts)) := by
  unfold opMat at h
  rw [hk] at h
  dsimp only at h
  split at h
  · split at h
    · rename_i a op' b pos q
      cases h
      obtain ⟨q, qs⟩ := q
      subst q
      cases hp with
      | cons p1 r => cases r with
        | cons p2 r => cases r; exact PT.of (pt_cmpR ho p1 p2 (noBehind qs)) fun σ H Q q => q
    · cases h
  · cases h
theorem isn_soundT {e : Expr} {es : List Expr} {ns : List Str} {ts : List TE} (h : opMat .isN e = some (es, ns)) (hp : Paired (fun e t => PE X e t) es ts) (hm : ∀ t ∈ ts, MonoE t) : PT X e (tTest (tOpx X.K .isN ts)) := by
  unfold opMat at h
  have hk : Op.isN.kind = .isn := rfl
  rw [hk] at h
  dsimp only at h
  split at h
  · cases h
    cases hp with
    | cons p1 r =>
      cases r
      rename_i t1
      refine PT.of (pt_cmp (pc_isN p1)) fun σ H Q q => ?_
      exact hm t1 (by simp) σ H _ _ (fun v H1 q => isn_val (f := id) (Q := fun x H1 => ∃ c, x = .bl c ∧ Q c H1) (show relO X.K .isN [v] H1 _ from q) fun a => rfl) q
  · cases h
theorem isnt_soundT {e : Expr} {es : List Expr} {ns : List Str} {ts : List TE} (h : opMat .notN e = some (es, ns)) (hp : Paired (fun e t => PE X e t) es ts) (hm : ∀ t ∈ ts, MonoE t) : PT X e (tTest (tOpx X.K .notN ts)) := by
  unfold opMat at h
  have hk : Op.notN.kind = .isnt := rfl
  rw [hk] at h
  dsimp only at h
  split at h
  · cases h
    cases hp with
    | cons p1 r =>
      cases r
      rename_i t1
      refine PT.of (pt_cmp (pc_notN p1)) fun σ H Q q => ?_
      refine hm t1 (by simp) σ H _ _ (fun v H1 q => isn_val (f := fun b => !b) (Q := fun x H1 => ∃ c, x = .bl c ∧ Q c H1) (show relO X.K .notN [v] H1 _ from q) fun a => ?_) q
      cases a with
      | «at» x => cases x <;> rfl
      | nd t xs => rfl
  · cases h
theorem op_pb (hc : X.calm = true) (hu : X.A.units + 200 < cLine) {o : Op} {e : Expr} {es : List Expr} {ns : List Str} {ts : List TE} (h : opMat o e = some (es, ns)) (hg : onGl X ns) (hp : Paired (fun e t => PE X e t) es ts)
    (hm : ∀ t ∈ ts, MonoE t) (hs : es.all noStar = true) : PB X e (tOpx X.K o ts) := by
  have pe := op_sound hc hu h hg hp hm hs
  have nb := mat_noBool h
  have go : (∀ op, o.kind ≠ .cmp op) → o.kind ≠ .isn → o.kind ≠ .isnt → PB X e (tOpx X.K o ts) := fun h1 h2 h3 => pb_plain pe (mat_plain h h1 h2 h3) nb
  cases o with
  | eq => exact pb_test pe (cmp_soundT (ok_eq hu) rfl h hp) nb
  | ne => exact pb_test pe (cmp_soundT (ok_ne hu) rfl h hp) nb
  | lt => exact pb_test pe (cmp_soundT ok_lt rfl h hp) nb
  | le => exact pb_test pe (cmp_soundT ok_le rfl h hp) nb
  | gt => exact pb_test pe (cmp_soundT ok_gt rfl h hp) nb
  | ge => exact pb_test pe (cmp_soundT ok_ge rfl h hp) nb
  | isN => exact pb_test pe (isn_soundT h hp hm) nb
  | notN => exact pb_test pe (isnt_soundT h hp hm) nb
  | inn => exact pb_test pe (cmp_soundT (ok_in hu) rfl h hp) nb
  | notIn => exact pb_test pe (cmp_soundT (ok_notIn hu) rfl h hp) nb
  | isb => exact pb_test pe (cmp_soundT ok_isb rfl h hp) nb
  | _ => exact go (fun _ z => by cases z) (fun z => by cases z) (fun z => by cases z)
/-- a comparison's operator -/
theorem cmp_of (hu : X.A.units + 200 < cLine) {o : Op} {p : CmpOp} (h : cmpKind o = some p) : OpR X (compareOp p) (rel2 X.K o) := by
  cases o <;> cases h
  · exact ok_eq hu
  · exact ok_ne hu
  · exact ok_lt
  · exact ok_le
  · exact ok_gt
  · exact ok_ge
  · exact ok_in hu
  · exact ok_notIn hu
  · exact ok_isb
theorem noLast {p1 p2 : CmpOp} {b c : Expr} (h : noSet c = true) : lastMarks [p1, p2] [b, c] = false := by
  show lastMarks [p2] [c] = false
  exact noBehind h
theorem chain_pb (hu : X.A.units + 200 < cLine) {o1 o2 : Op} {p1 p2 : CmpOp} (h1 : cmpKind o1 = some p1) (h2 : cmpKind o2 = some p2) {a b c : Expr} {pos : Pos} {ta tb tc : TE} (ha : PE X a ta) (hb : PE X b tb) (hc : PE X c tc) (hn : noSet c = true) :
    PB X (.Compare a [p1, p2] [b, c] pos) (tChain (rel2 X.K o1) (rel2 X.K o2) ta tb tc) :=
  pb_test (pe_chain (cmp_of hu h1) (cmp_of hu h2) ha hb hc (noLast hn)) (pt_chain (cmp_of hu h1) (cmp_of hu h2) ha hb hc (noLast hn)) fun _ _ _ z => by cases z
/-! and, or, not, if-else -/
theorem rest_pb {op : BoolOp} {y : Expr} {r : List Expr} {pos : Pos} {t : TE} (h : PB X (match r with | [] => y | _ => .BoolOp op (y :: r) pos) t) : PE X (.BoolOp op (y :: r) pos) t ∧ PW X (.BoolOp op (y :: r) pos) (tTest t) := by
  cases r with
  | nil =>
    refine ⟨pe_one h.pe, ?_⟩
    cases op with
    | And => exact pw_and1 h.pt
    | Or => exact pw_or1 h.pt
  | cons z r => exact ⟨h.pe, h.pw _ _ _ rfl⟩
theorem and_pb {a b : Expr} {r : List Expr} {pos : Pos} {ta tb : TE} (hm : MonoE ta) (ha : PB X a ta) (hb : PB X (match r with | [] => b | _ => .BoolOp .And (b :: r) pos) tb) : PB X (.BoolOp .And (a :: b :: r) pos) (tAndV ta tb) := by
  obtain ⟨h1, h2⟩ := rest_pb hb
  have pw : PW X (.BoolOp .And (a :: b :: r) pos) (tTest (tAndV ta tb)) := PW.of (pw_and ha.pt h2) fun σ H Q q => by
    refine hm σ H _ _ (fun v H1 q => ?_) q
    obtain ⟨c, e, q⟩ := q
    refine ⟨c, e, ?_⟩
    cases c with
    | true => exact q
    | false =>
      obtain ⟨k, e, q⟩ := q
      cases e
      exact q
  exact ⟨pe_and ha.pe h1, pw.pt, fun _ _ _ _ => pw⟩
theorem or_pb {a b : Expr} {r : List Expr} {pos : Pos} {ta tb : TE} (hm : MonoE ta) (ha : PB X a ta) (hb : PB X (match r with | [] => b | _ => .BoolOp .Or (b :: r) pos) tb) : PB X (.BoolOp .Or (a :: b :: r) pos) (tOrV ta tb) := by
  obtain ⟨h1, h2⟩ := rest_pb hb
  have pw : PW X (.BoolOp .Or (a :: b :: r) pos) (tTest (tOrV ta tb)) := PW.of (pw_or ha.pt h2) fun σ H Q q => by
    refine hm σ H _ _ (fun v H1 q => ?_) q
    obtain ⟨c, e, q⟩ := q
    refine ⟨c, e, ?_⟩
    cases c with
    | false => exact q
    | true =>
      obtain ⟨k, e, q⟩ := q
      cases e
      exact q
  exact ⟨pe_or ha.pe h1, pw.pt, fun _ _ _ _ => pw⟩
theorem not_pb {a : Expr} {pos : Pos} {ta : TE} (hm : MonoE ta) (ha : PB X a ta) : PB X (.UnaryOp .Not a pos) (tNotV ta) :=
  pb_test (pe_not ha.pe) (PT.of (pt_not ha.pt) fun σ H Q q => by
    refine hm σ H _ _ (fun v H1 q => ?_) q
    obtain ⟨c, e, k, e2, q⟩ := q
    cases e2
    exact ⟨c, e, q⟩) fun _ _ _ z => by cases z
theorem pt_ifExp {c a b : Expr} {pos : Pos} {tA tB tC : TT} (hc : PT X c tC) (ha : PT X a tA) (hb : PT X b tB) : PT X (.IfExp c a b pos) (fun σ H Q => tC σ H fun k H1 => if k = true then tA σ H1 Q else tB σ H1 Q) := by
  refine ⟨fun pins s σ H Q I h => ?_⟩
  refine PyProof.Rows.isTrue_IfExp (thn (hc.run pins s σ H _ I h) fun d s1 ⟨H1, I1, q1⟩ => ?_)
  cases d with
  | true => exact ha.run pins s1 σ H1 Q I1 q1
  | false => exact hb.run pins s1 σ H1 Q I1 q1
theorem ite_pb {c a b : Expr} {pos : Pos} {tc ta tb : TE} (hc : PB X c tc) (ha : PB X a ta) (hb : PB X b tb) : PB X (.IfExp c a b pos) (tIf (tTest tc) ta tb) :=
  pb_test (pe_ifExp hc.pt ha.pe hb.pe) (PT.of (pt_ifExp hc.pt ha.pt hb.pt) fun σ H Q q => q) fun _ _ _ z => by cases z
end

/-! ### the readings' steps -/
section
variable {r : Rd0} {C : Ctx} {σ : St} {H : Hp}
theorem OpdsR.join {o : Opd} {v : V} {os : List Opd} {vs : List V} {Ts Ts2 : List (V × Val)} (h : OpdsR σ [o] [v] Ts) (h2 : OpdsR σ os vs Ts2) : OpdsR σ (o :: os) (v :: vs) (Ts ++ Ts2) := by
  cases h with
  | v q => cases q; exact .v h2
  | b hv q => cases q; exact .b hv h2
  | m hv q => cases q; exact .m hv h2
theorem wE_drop {B : Base} {Θ Ts : List (V × Val)} {c : Nat} {Γ : Gam} (h : wE r B Θ σ c Γ) : wE r B (Θ ++ Ts) σ c Γ := fun H' S => h H' S.drop
/-- an operand that is no name -/
theorem tO_tV {ie : IE} {Q : VK} (h1 : ∀ i, ie ≠ .var i) (h2 : ∀ i, ie ≠ .io i) (h : tO r C (fun Γ => opdOf ie Γ (evE C ie Γ)) σ H Q) : tV r C (evE C ie) σ H Q := by
  obtain ⟨B, Γ, Θ, S, io, p⟩ := h
  refine ⟨B, Γ, Θ, S, io, ?_⟩
  have e : opdOf ie Γ (evE C ie Γ) = (evE C ie Γ).bind fun x Γ' => .ok (.v x) Γ' := by
    cases ie <;> first | rfl | exact absurd rfl (h1 _) | exact absurd rfl (h2 _)
  have p : ((evE C ie Γ).bind fun x Γ' => .ok (.v x) Γ' : R Opd).post (wE r B Θ σ) (fun o Γ' => ∀ v Ts H', OpdsR σ [o] [v] Ts → SatE r.K B Γ' (Θ ++ Ts) σ H' → Q v H') := e ▸ p
  exact post_imp (post_bind.mp p) (fun _ _ z => z) fun x Γ' q v H' S' => q v [(v, x)] H' (.v .nil) S'
theorem tO_var {i : Nat} {Q : VK} (h : tO r C (fun Γ => opdOf (.var i) Γ (evE C (.var i) Γ)) σ H Q) : tVar i σ H Q := by
  obtain ⟨B, Γ, Θ, S, io, p⟩ := h
  have p : (if (slotG Γ i).isSome then R.ok (.b i) Γ else .bad : R Opd).post (wE r B Θ σ) (fun o Γ' => ∀ v Ts H', OpdsR σ [o] [v] Ts → SatE r.K B Γ' (Θ ++ Ts) σ H' → Q v H') := p
  split at p
  · rename_i e
    obtain ⟨x, e⟩ := Option.isSome_iff_exists.mp e
    have S' := S
    obtain ⟨G, ρ, S⟩ := S
    obtain ⟨v, hv, _⟩ := sig_of S e
    exact ⟨v, hv, p v [] H (.b hv .nil) (by rw [List.append_nil]; exact S')⟩
  · exact p.elim
theorem tO_io {i : Nat} {Q : VK} (h : tO r C (fun Γ => opdOf (.io i) Γ (evE C (.io i) Γ)) σ H Q) : tVar i σ H Q := by
  obtain ⟨B, Γ, Θ, S, io, p⟩ := h
  have p : (if (slotG Γ i).isSome then R.ok (.m i) Γ else .bad : R Opd).post (wE r B Θ σ) (fun o Γ' => ∀ v Ts H', OpdsR σ [o] [v] Ts → SatE r.K B Γ' (Θ ++ Ts) σ H' → Q v H') := p
  split at p
  · rename_i e
    obtain ⟨x, e⟩ := Option.isSome_iff_exists.mp e
    have S' := S
    obtain ⟨G, ρ, S⟩ := S
    obtain ⟨v, hv, _⟩ := sig_of S e
    exact ⟨v, hv, p v [] H (.m hv .nil) (by rw [List.append_nil]; exact S')⟩
  · exact p.elim
theorem tOs_cons {ie : IE} {ies : IEs} {Q : List V → Hp → Prop} (h : tOs r C (evOs C (.cons ie ies)) σ H Q) : tO r C (fun Γ => opdOf ie Γ (evE C ie Γ)) σ H fun v H1 => tOs r C (evOs C ies) σ H1 fun vs H2 => Q (v :: vs) H2 := by
  obtain ⟨B, Γ, Θ, S, io, p⟩ := h
  refine ⟨B, Γ, Θ, S, io, ?_⟩
  rw [evOs] at p
  refine post_imp (post_bind.mp p) (fun _ _ z => z) fun o Γ1 q v Ts H1 hO S1 => ?_
  refine ⟨B, Γ1, Θ ++ Ts, S1, io, post_imp (post_bind.mp q) (fun _ _ z => wE_drop z) fun os Γ2 q vs Ts2 H2 hO2 S2 => ?_⟩
  exact q (v :: vs) (Ts ++ Ts2) H2 (hO.join hO2) (by rw [← List.append_assoc]; exact S2)
theorem tVs_cons {ie : IE} {ies : IEs} {Q : List V → Hp → Prop} (h : tVs r C (evEs C (.cons ie ies)) σ H Q) : tV r C (evE C ie) σ H fun v H1 => tVs r C (evEs C ies) σ H1 fun vs H2 => Q (v :: vs) H2 := by
  obtain ⟨B, Γ, Θ, S, io, p⟩ := h
  refine ⟨B, Γ, Θ, S, io, ?_⟩
  rw [evEs] at p
  refine post_imp (post_bind.mp p) (fun _ _ z => z) fun x Γ1 q v H1 S1 => ?_
  refine ⟨B, Γ1, Θ ++ [(v, x)], S1, io, post_imp (post_bind.mp q) (fun _ _ z => wE_drop z) fun xs Γ2 q Ts H2 e S2 => ?_⟩
  refine q ((v, x) :: Ts) H2 (by rw [List.map_cons, e]) ?_
  rw [List.append_assoc] at S2
  exact S2
def tsO (r : Rd0) (C : Ctx) : IEs → List TE
  | .nil => []
  | .cons e es => tO r C (fun Γ => opdOf e Γ (evE C e Γ)) :: tsO r C es
def tsV (r : Rd0) (C : Ctx) : IEs → List TE
  | .nil => []
  | .cons e es => tV r C (evE C e) :: tsV r C es
theorem tsO_mono : ∀ (es : IEs), ∀ t ∈ tsO r C es, MonoE t
  | .nil, t, h => by unfold tsO at h; cases h
  | .cons e es, t, h => by
    unfold tsO at h
    rcases List.mem_cons.mp h with rfl | h
    · exact tO_mono
    · exact tsO_mono es t h
theorem tOs_seq : ∀ (es : IEs) {σ : St} {H : Hp} {Q : List V → Hp → Prop}, tOs r C (evOs C es) σ H Q → seqT (tsO r C es) σ H Q
  | .nil, σ, H, Q, ⟨B, Γ, Θ, S, io, p⟩ => by
    rw [evOs] at p
    exact p [] [] H .nil (by rw [List.append_nil]; exact S)
  | .cons e es, σ, H, Q, h => tO_mono σ H _ _ (fun v H1 q => tOs_seq es q) (tOs_cons h)
theorem tVs_seq : ∀ (es : IEs) {σ : St} {H : Hp} {Q : List V → Hp → Prop}, tVs r C (evEs C es) σ H Q → seqT (tsV r C es) σ H Q
  | .nil, σ, H, Q, ⟨B, Γ, Θ, S, io, p⟩ => by
    rw [evEs] at p
    exact p [] H rfl (by rw [List.append_nil]; exact S)
  | .cons e es, σ, H, Q, h => tV_mono σ H _ _ (fun v H1 q => tVs_seq es q) (tVs_cons h)
theorem idxM_none {os : List Opd} {i : Nat} (h : idxM os = []) : findM os i = none := by
  cases q : findM os i with
  | none => rfl
  | some j =>
    have := idxM_mem (findM_some q)
    rw [h] at this; cases this
/-- an operation -/
theorem op_rel {o : Op} {es : IEs} {Q : VK} (h : tV r C (evE C (.op o es)) σ H Q) : tOpx r.K o (tsO r C es) σ H Q := by
  refine tOs_seq es ?_
  obtain ⟨B, Γ, Θ, S, io, p⟩ := h
  refine ⟨B, Γ, Θ, S, io, ?_⟩
  rw [evE] at p
  refine post_imp (post_bind.mp p) (fun _ _ z => z) fun os Γ' q vs Ts H' hO S' => ?_
  split at q
  · obtain ⟨x, e, q⟩ := post_opt q
    cases e1 : getO Γ' os with
    | none => rw [e1] at e; cases e
    | some xs =>
      rw [e1] at e
      obtain ⟨G, ρ, S'⟩ := S'
      exact ⟨G, xs, x, S'.sub, S'.opds hO e1, e, fun v H2 R e2 ok nd fr => q v H2 (S'.drop.pushNew e2 ok nd fr)⟩
  · exact q.elim
/-- and, or, not, if-else -/
theorem opd_bools {B : Base} {Γ' : Gam} {Θ Ts : List (V × Val)} {o : Opd} {v : V} (S : SatE r.K B Γ' (Θ ++ Ts) σ H) (hO : OpdsR σ [o] [v] Ts) {α : Type} {k : Bool → R α} {E : Nat → Gam → Prop} {Q : α → Gam → Prop}
    (h : (match (getD1 Γ' o).bind boolV with | some b => k b | none => .bad : R α).post E Q) : ∃ b, v = .bl b ∧ (k b).post E Q := by
  cases e : (getD1 Γ' o).bind boolV with
  | none => rw [e] at h; exact h.elim
  | some b =>
    rw [e] at h
    exact ⟨b, opd_bool S hO e, h⟩
theorem no_ok {B : Base} {Γ : Gam} {Θ : List (V × Val)} {a : At} (S : SatE r.K B Γ Θ σ H) : SatE r.K B Γ (Θ ++ [(atV a, ⟨.no, false, .at a⟩)]) σ H := let ⟨G, _, S⟩ := S; ⟨G, _, S.push0 ok_atom⟩
theorem and_rel {a b : IE} {Q : VK} (h : tV r C (evE C (.and a b)) σ H Q) : tAndV (tO r C (fun Γ => opdOf a Γ (evE C a Γ))) (tV r C (evE C b)) σ H Q := by
  obtain ⟨B, Γ, Θ, S, io, p⟩ := h
  refine ⟨B, Γ, Θ, S, io, ?_⟩
  rw [evE] at p
  refine post_imp (post_bind.mp p) (fun _ _ z => z) fun o Γ' q v Ts H1 hO S1 => ?_
  cases e : (getD1 Γ' o).bind boolV with
  | none => rw [e] at q; exact q.elim
  | some c =>
    rw [e] at q
    refine ⟨c, opd_bool S1 hO e, ?_⟩
    cases c with
    | true => exact ⟨B, Γ', Θ, S1.drop, io, q⟩
    | false => exact q _ H1 (no_ok (a := .bl false) S1.drop)
theorem or_rel {a b : IE} {Q : VK} (h : tV r C (evE C (.or a b)) σ H Q) : tOrV (tO r C (fun Γ => opdOf a Γ (evE C a Γ))) (tV r C (evE C b)) σ H Q := by
  obtain ⟨B, Γ, Θ, S, io, p⟩ := h
  refine ⟨B, Γ, Θ, S, io, ?_⟩
  rw [evE] at p
  refine post_imp (post_bind.mp p) (fun _ _ z => z) fun o Γ' q v Ts H1 hO S1 => ?_
  cases e : (getD1 Γ' o).bind boolV with
  | none => rw [e] at q; exact q.elim
  | some c =>
    rw [e] at q
    refine ⟨c, opd_bool S1 hO e, ?_⟩
    cases c with
    | false => exact ⟨B, Γ', Θ, S1.drop, io, q⟩
    | true => exact q _ H1 (no_ok (a := .bl true) S1.drop)
theorem not_rel {a : IE} {Q : VK} (h : tV r C (evE C (.not a)) σ H Q) : tNotV (tO r C (fun Γ => opdOf a Γ (evE C a Γ))) σ H Q := by
  obtain ⟨B, Γ, Θ, S, io, p⟩ := h
  refine ⟨B, Γ, Θ, S, io, ?_⟩
  rw [evE] at p
  refine post_imp (post_bind.mp p) (fun _ _ z => z) fun o Γ' q v Ts H1 hO S1 => ?_
  cases e : (getD1 Γ' o).bind boolV with
  | none => rw [e] at q; exact q.elim
  | some c =>
    rw [e] at q
    exact ⟨c, opd_bool S1 hO e, q _ H1 (no_ok (a := .bl (!c)) S1.drop)⟩
theorem ite_rel {c a b : IE} {Q : VK} (h : tV r C (evE C (.ite c a b)) σ H Q) : tIf (tTest (tO r C (fun Γ => opdOf c Γ (evE C c Γ)))) (tV r C (evE C a)) (tV r C (evE C b)) σ H Q := by
  obtain ⟨B, Γ, Θ, S, io, p⟩ := h
  refine ⟨B, Γ, Θ, S, io, ?_⟩
  rw [evE] at p
  refine post_imp (post_bind.mp p) (fun _ _ z => z) fun o Γ' q v Ts H1 hO S1 => ?_
  cases e : (getD1 Γ' o).bind boolV with
  | none => rw [e] at q; exact q.elim
  | some k =>
    rw [e] at q
    refine ⟨k, opd_bool S1 hO e, ?_⟩
    cases k with
    | true => exact ⟨B, Γ', Θ, S1.drop, io, q⟩
    | false => exact ⟨B, Γ', Θ, S1.drop, io, q⟩
theorem getO2 {Γ : Gam} {a b : Opd} {x y : Val} (h1 : getD1 Γ a = some x) (h2 : getD1 Γ b = some y) : getO Γ [a, b] = some [x, y] := by
  cases a with
  | m i => cases h1
  | v x' =>
    cases h1
    cases b with
    | m i => cases h2
    | v y' => cases h2; rfl
    | b j =>
      have h2 : slotG Γ j = some y := h2
      show ((slotG Γ j).bind fun x => (some ([] : List Val)).map (x :: ·)).map (x :: ·) = _
      rw [h2]; rfl
  | b i =>
    have h1 : slotG Γ i = some x := h1
    cases b with
    | m i => cases h2
    | v y' =>
      cases h2
      show ((slotG Γ i).bind fun x => (some [y]).map (x :: ·)) = _
      rw [h1]; rfl
    | b j =>
      have h2 : slotG Γ j = some y := h2
      show ((slotG Γ i).bind fun x => ((slotG Γ j).bind fun y => (some ([] : List Val)).map (y :: ·)).map (x :: ·)) = _
      rw [h1, h2]; rfl
theorem bool_at {K : W.Frag} {G : Hp} {R : List Addr} {x : Val} {v : V} {b : Bool} (h : ValOk K G H R v x) (e : boolV x = some b) : v = .bl b := h.at_inv (boolV_inv e)
theorem chain_rel {o1 o2 : Op} {a b c : IE} {Q : VK} (h : tV r C (evE C (.chain o1 o2 a b c)) σ H Q) :
    tChain (rel2 r.K o1) (rel2 r.K o2) (tO r C (fun Γ => opdOf a Γ (evE C a Γ))) (tO r C (fun Γ => opdOf b Γ (evE C b Γ))) (tO r C (fun Γ => opdOf c Γ (evE C c Γ))) σ H Q := by
  obtain ⟨B, Γ, Θ, S, io, p⟩ := h
  refine ⟨B, Γ, Θ, S, io, ?_⟩
  rw [evE] at p
  refine post_imp (post_bind.mp p) (fun _ _ z => z) fun oa Γ1 q v Ts1 H1 hO1 S1 => ?_
  refine ⟨B, Γ1, Θ ++ Ts1, S1, io, post_imp (post_bind.mp q) (fun _ _ z => wE_drop z) fun ob Γ2 q w Ts2 H2 hO2 S2 => ?_⟩
  split at q
  · rename_i x y ea eb
    cases ev : opVal o1 [x, y] with
    | none => rw [ev] at q; exact q.elim
    | some z1 =>
      rw [ev] at q
      have q : (match boolV z1 with
        | some false => .ok ⟨.no, false, .bl false⟩ Γ2
        | some true => (opdOf c Γ2 (evE C c Γ2)).bind fun oc Γ3 => match getD1 Γ3 ob, getD1 Γ3 oc with
          | some y, some z => opt (opVal o2 [y, z]) Γ3
          | _, _ => .bad
        | none => .bad : R Val).post (wE r B Θ σ) (fun x Γ' => ∀ v H', SatE r.K B Γ' (Θ ++ [(v, x)]) σ H' → Q v H') := q
      obtain ⟨G, ρ, S2'⟩ := S2
      have S2'' : Sat r.K B Γ2 (Θ ++ (Ts1 ++ Ts2)) σ G H2 ρ := by rw [← List.append_assoc]; exact S2'
      refine ⟨G, [x, y], z1, S2'.sub, S2''.opds (hO1.join hO2) (getO2 ea eb), ev, fun v3 H3 R3 e3 ok3 nd3 fr3 => ?_⟩
      cases eb1 : boolV z1 with
      | none => rw [eb1] at q; exact q.elim
      | some k =>
        rw [eb1] at q
        refine ⟨k, bool_at ok3 eb1, ?_⟩
        have S3 : SatE r.K B Γ2 (Θ ++ Ts1 ++ Ts2) σ H3 := ⟨G, ρ, S2'.same e3⟩
        cases k with
        | false => exact q _ H3 (no_ok (a := .bl false) (Θ := Θ) S3.drop.drop)
        | true =>
          refine ⟨B, Γ2, Θ ++ Ts1 ++ Ts2, S3, io, post_imp (post_bind.mp q) (fun _ _ z => wE_drop (wE_drop z)) fun oc Γ3 q u Ts3 H4 hO3 S4 => ?_⟩
          split at q
          · rename_i y' z' eb' ec'
            obtain ⟨x2, e2, q⟩ := post_opt q
            obtain ⟨G4, ρ4, S4⟩ := S4
            have S4' : Sat r.K B Γ3 ((Θ ++ Ts1) ++ (Ts2 ++ Ts3)) σ G4 H4 ρ4 := by rw [← List.append_assoc]; exact S4
            exact ⟨G4, [y', z'], x2, S4.sub, S4'.opds (hO2.join hO3) (getO2 eb' ec'), e2, fun v5 H5 R5 e5 ok5 nd5 fr5 => q v5 H5 (S4'.drop.drop.pushNew e5 ok5 nd5 fr5)⟩
          · exact q.elim
  · exact q.elim
/-- displays -/
theorem tup_rel {es : IEs} {Q : VK} (h : tV r C (evE C (.tup es)) σ H Q) : tTup (seqT (tsV r C es)) σ H Q := by
  refine tVs_seq es ?_
  obtain ⟨B, Γ, Θ, S, io, p⟩ := h
  refine ⟨B, Γ, Θ, S, io, ?_⟩
  rw [evE] at p
  refine post_imp (post_bind.mp p) (fun _ _ z => z) fun xs Γ' q Ts H' e S' => ?_
  split at q
  · rename_i hl
    subst e
    exact ⟨by rw [List.length_map] at hl ⊢; exact hl, fun p hp => q _ _ (S'.mkTup hp)⟩
  · exact q.elim
theorem lst_rel {es : IEs} {Q : VK} (h : tV r C (evE C (.lst es)) σ H Q) : tLst (seqT (tsV r C es)) σ H Q := by
  refine tVs_seq es ?_
  obtain ⟨B, Γ, Θ, S, io, p⟩ := h
  refine ⟨B, Γ, Θ, S, io, ?_⟩
  rw [evE] at p
  refine post_imp (post_bind.mp p) (fun _ _ z => z) fun xs Γ' q Ts H' e S' => ?_
  split at q
  · rename_i hl
    subst e
    exact ⟨by rw [List.length_map] at hl ⊢; exact hl, fun p hp => q _ _ (S'.mkLst hp)⟩
  · exact q.elim
theorem var_rel {i : Nat} {Q : VK} (h : tV r C (evE C (.var i)) σ H Q) : tVar i σ H Q := by
  obtain ⟨B, Γ, Θ, S, io, p⟩ := h
  rw [evE] at p
  cases e : slotG Γ i with
  | none => rw [e] at p; exact p.elim
  | some x =>
    rw [e] at p
    obtain ⟨G, ρ, S2⟩ := S.lendI i
    obtain ⟨v, hv, _⟩ := sig_of S2 (slot_lend e)
    exact ⟨v, hv, p v H (S2.copy (slot_lend e) rfl hv)⟩
theorem mv_rel {i : Nat} {Q : VK} (h : tV r C (evE C (.mv i)) σ H Q) : tVar i σ H Q := by
  obtain ⟨B, Γ, Θ, ⟨G, ρ, S⟩, io, p⟩ := h
  rw [evE] at p
  cases e : slotG Γ i with
  | none => rw [e] at p; exact p.elim
  | some x =>
    rw [e] at p
    obtain ⟨v, hv, _⟩ := sig_of S e
    exact ⟨v, hv, p v H ⟨_, _, S.mv (slotG_some.mp e) hv⟩⟩
theorem lent_rel {a : IE} {Q : VK} (h : tV r C (evE C (.lent a)) σ H Q) : tV r C (evE C a) σ H Q := by
  obtain ⟨B, Γ, Θ, S, io, p⟩ := h
  refine ⟨B, Γ, Θ, S, io, ?_⟩
  rw [evE] at p
  refine post_imp (post_bind.mp p) (fun _ _ z => z) fun x Γ' q v H' ⟨G, ρ, S'⟩ => q v H' S'.lentT
theorem imm_rel {a : IE} {Q : VK} (h : tV r C (evE C (.imm a)) σ H Q) : tV r C (evE C a) σ H Q := by
  obtain ⟨B, Γ, Θ, S, io, p⟩ := h
  refine ⟨B, Γ, Θ, S, io, ?_⟩
  rw [evE] at p
  refine post_imp (post_bind.mp p) (fun _ _ z => z) fun x Γ' q v H' ⟨G, ρ, S'⟩ => ?_
  split at q
  · rename_i hi
    exact q v H' (S'.immT hi)
  · exact q.elim
theorem cst_rel {a : At} {Q : VK} (h : tV r C (evE C (.cst a)) σ H Q) : tC (atV a) σ H Q := by
  obtain ⟨B, Γ, Θ, S, io, p⟩ := h
  rw [evE] at p
  exact p _ H (no_ok S)
theorem glob_rel {g : Nat} {v : V} {Q : VK} (hr : Rep r.K noH noH [] v (C.glob g)) (h : tV r C (evE C (.glob g)) σ H Q) : tC v σ H Q := by
  obtain ⟨B, Γ, Θ, ⟨G, ρ, S⟩, io, p⟩ := h
  rw [evE] at p
  exact p v H ⟨G, _, S.push0 (ok_no (fz := false) (hr.same same_no))⟩
theorem d0_ok {B : Base} {Γ : Gam} {Θ : List (V × Val)} {p : Addr} {t : NT} {o : HO} (S : SatE r.K B Γ Θ σ H) (hp : H p = none) (ho : ∀ H', H' p = some o → NodeO H' t p []) (ht : t ≠ .tup) : SatE r.K B Γ (Θ ++ [(.ref p, ⟨.top, false, .nd t []⟩)]) σ (upd H p o) := by
  obtain ⟨G, ρ, S⟩ := S
  refine S.pushNew (R := [p]) (same_upd hp) ⟨.own (ho _ upd_same) .nil, (fun z => by cases z), (fun _ => ⟨p, t, [], rfl, rfl, rfl, ht⟩), (fun z => by cases z)⟩ nodup1 fun a z => ?_
  rw [List.mem_singleton] at z
  rw [z]; exact hp
theorem dK0_rel {Q : VK} (h : tV r C (evE C .dK0) σ H Q) : tDNewK σ H Q := by
  obtain ⟨B, Γ, Θ, S, io, p⟩ := h
  rw [evE] at p
  exact fun a ha => p _ _ (d0_ok S ha (fun H' e => ⟨[], e, rfl, rfl⟩) (by decide))
theorem dT0_rel {Q : VK} (h : tV r C (evE C .dT0) σ H Q) : tDNewT σ H Q := by
  obtain ⟨B, Γ, Θ, S, io, p⟩ := h
  rw [evE] at p
  exact fun a ha => p _ _ (d0_ok S ha (fun H' e => ⟨[], e, rfl, rfl⟩) (by decide))
end
end Px
namespace Px
open PySem L2

/-! ### what is iterated -/
section
variable {K : W.Frag} {B : Base} {Γ : Gam} {Θ Ts : List (V × Val)} {σ : St} {G G' H H' : Hp} {ρ : Nat → List Addr} {R : List Addr} {v : V} {x : Val} {d : D} {ds es : List D} {vs : List V}
theorem rep0_nd {t : NT} (h : Rep K G H [] v (.nd t ds)) : ∃ p vs, v = .ref p ∧ ((t = .tup ∧ H p = some (.tup vs)) ∨ NodeR K G t p vs) ∧ Reps K G H [] vs ds := by
  have key : ∀ R, Rep K G H R v (.nd t ds) → R = [] → ∃ p vs, v = .ref p ∧ ((t = .tup ∧ H p = some (.tup vs)) ∨ NodeR K G t p vs) ∧ Reps K G H [] vs ds := by
    intro R h e
    cases h with
    | tup q1 q2 => subst e; exact ⟨_, _, rfl, .inl ⟨rfl, q1⟩, q2⟩
    | frz q1 q2 => exact ⟨_, _, rfl, .inr q1, q2⟩
    | own q1 q2 => cases e
  exact key [] h rfl
theorem Rep.on (h : Rep K G H [] v d) (e : Same G G') (ht : ∀ a xs, H a = some (.tup xs) → H' a = some (.tup xs)) : Rep K G' H' [] v d := Rep.monoG e d (h.stay ht d fun a z => by cases z)
theorem item_ok {fz : Bool} {G1 : Hp} (h : Rep K (gx G fz) H [] v d) (e : Same G G1) (ht : ∀ a xs, H a = some (.tup xs) → H' a = some (.tup xs)) : ValOk K G1 H' [] v (childV fz d) := child_ok (h.on (gx_mono e) ht)
theorem sameTup (e : Same H H') : ∀ a xs, H a = some (.tup xs) → H' a = some (.tup xs) := fun a xs r => e a _ r
theorem walk_lst {fz : Bool} {a : Addr} (h1 : SqL K (gx G fz) a vs) (h2 : Reps K (gx G fz) H [] vs ds) : WalkOk K G H (Itl K a) (ds.map (childV fz)) := by
  intro G' H' e1 e2 ht i
  have hl := h2.length ds
  have q : SqL K H' a vs := (gx_le.trans (e1.trans e2)).seq h1
  refine ⟨fun it e => ?_, fun hi => ⟨vs, q, by rw [List.length_map] at hi; omega⟩⟩
  rw [List.getElem?_map] at e
  cases ed : ds[i]? with
  | none => rw [ed] at e; cases e
  | some d =>
    rw [ed] at e; cases e
    obtain ⟨w, hw, r⟩ := h2.get ed
    refine ⟨⟨vs, w, q, hw⟩, fun x H'' y => ?_⟩
    obtain ⟨rfl, y⟩ := y
    have := y vs q
    rw [hw] at this; cases this
    exact ⟨Same.refl _, item_ok r e1 ht⟩
theorem walk_tup {fz : Bool} {a : Addr} (h1 : H a = some (.tup vs) ∨ SqT K (gx G fz) a vs) (h2 : Reps K (gx G fz) H [] vs ds) : WalkOk K G H (Itt K a) (ds.map (childV fz)) := by
  intro G' H' e1 e2 ht i
  have hl := h2.length ds
  have q : SqT K H' a vs := h1.elim (fun r => .of (ht a vs r)) fun r => sqT_same (gx_le.trans (e1.trans e2)) r
  refine ⟨fun it e => ?_, fun hi => ⟨vs, q, by rw [List.length_map] at hi; omega⟩⟩
  rw [List.getElem?_map] at e
  cases ed : ds[i]? with
  | none => rw [ed] at e; cases e
  | some d =>
    rw [ed] at e; cases e
    obtain ⟨w, hw, r⟩ := h2.get ed
    refine ⟨⟨vs, w, q, hw⟩, fun x H'' y => ?_⟩
    obtain ⟨rfl, y⟩ := y
    have := y vs q
    rw [hw] at this; cases this
    exact ⟨Same.refl _, item_ok r e1 ht⟩
theorem walk_rev {fz : Bool} {a : Addr} (h1 : SqL K (gx G fz) a vs) (h2 : Reps K (gx G fz) H [] vs ds) : WalkOk K G H (Itv K a vs.length) (ds.reverse.map (childV fz)) := by
  intro G' H' e1 e2 ht i
  have hl := h2.length ds
  have q : SqL K H' a vs := (gx_le.trans (e1.trans e2)).seq h1
  refine ⟨fun it e => ?_, fun hi => by rw [List.length_map, List.length_reverse] at hi; show vs.length ≤ i; omega⟩
  rw [List.getElem?_map] at e
  cases ed : ds.reverse[i]? with
  | none => rw [ed] at e; cases e
  | some d =>
    rw [ed] at e; cases e
    have hi : i < ds.length := by
      have := (List.getElem?_eq_some_iff.mp ed).1
      rw [List.length_reverse] at this; exact this
    rw [List.getElem?_reverse hi] at ed
    obtain ⟨w, hw, r⟩ := h2.get ed
    rw [← hl] at hw
    refine ⟨⟨by omega, vs, w, q, hw⟩, fun x H'' y => ?_⟩
    obtain ⟨rfl, y⟩ := y
    have := y vs q
    rw [hw] at this; cases this
    exact ⟨Same.refl _, item_ok r e1 ht⟩
theorem walk_str {z : Str} : WalkOk K G H (Its z) (strKids z) := by
  intro G' H' e1 e2 ht i
  unfold strKids
  refine ⟨fun it e => ?_, fun hi => by rw [List.length_map, Array.length_toList] at hi; exact hi⟩
  rw [List.getElem?_map, Array.getElem?_toList] at e
  cases ed : z.cps[i]? with
  | none => rw [ed] at e; cases e
  | some c =>
    rw [ed] at e; cases e
    refine ⟨(Array.getElem?_eq_some_iff.mp ed).1, fun x H'' y => ?_⟩
    obtain ⟨rfl, c', y, rfl⟩ := y
    rw [ed] at y; cases y
    exact ⟨Same.refl _, ok_atom (a := .str _)⟩
theorem walk_rng {lo : Int} {n : Nat} : WalkOk K G H (L2.Itr lo n) (((List.range n).map fun (k : Nat) => lo + (k : Int)).map fun n => ⟨.no, false, .int n⟩) := by
  intro G' H' e1 e2 ht i
  refine ⟨fun it e => ?_, fun hi => by rw [List.length_map, List.length_map, List.length_range] at hi; exact hi⟩
  rw [List.getElem?_map, List.getElem?_map] at e
  cases ed : (List.range n)[i]? with
  | none => rw [ed] at e; cases e
  | some c =>
    rw [ed] at e; cases e
    obtain ⟨hi, hc⟩ := List.getElem?_eq_some_iff.mp ed
    rw [List.getElem_range] at hc
    subst hc
    rw [List.length_range] at hi
    refine ⟨hi, fun x H'' y => ?_⟩
    obtain ⟨rfl, rfl⟩ := y
    exact ⟨Same.refl _, ok_atom (a := .int _)⟩
theorem pair_ok {fz : Bool} {T : Addr} {w1 w2 : V} {d1 d2 : D} (hT : H T = none) (h1 : Rep K (gx G fz) H [] w1 d1) (h2 : Rep K (gx G fz) H [] w2 d2) : Same H (upd H T (.tup [w1, w2])) ∧ ValOk K G (upd H T (.tup [w1, w2])) [] (.ref T) ⟨.no, fz, .tup [d1, d2]⟩ :=
  ⟨same_upd hT, ok_no (.tup upd_same (.cons0 (h1.same (same_upd hT)) (.cons0 (h2.same (same_upd hT)) .nil)))⟩
theorem walk_enum {fz : Bool} {a : Addr} (h1 : SqL K (gx G fz) a vs) (h2 : Reps K (gx G fz) H [] vs ds) : WalkOk K G H (Ite K a) (ds.mapIdx fun k d => ⟨.no, fz, .tup [.int (k : Nat), d]⟩) := by
  intro G' H' e1 e2 ht i
  have hl := h2.length ds
  have q : SqL K H' a vs := (gx_le.trans (e1.trans e2)).seq h1
  refine ⟨fun it e => ?_, fun hi => ⟨vs, q, by rw [List.length_mapIdx] at hi; omega⟩⟩
  rw [List.getElem?_mapIdx] at e
  cases ed : ds[i]? with
  | none => rw [ed] at e; cases e
  | some d =>
    rw [ed] at e; cases e
    obtain ⟨w, hw, r⟩ := h2.get ed
    refine ⟨⟨vs, w, q, hw⟩, fun x H'' y => ?_⟩
    obtain ⟨T, w', rfl, hT, rfl, y⟩ := y
    have := y vs q
    rw [hw] at this; cases this
    exact pair_ok hT (.at (.int _)) (r.on (gx_mono e1) ht)
theorem walk_zip {f1 f2 : Bool} {a b : Addr} {us : List V} (h1 : SqL K (gx G f1) a vs) (h2 : Reps K (gx G f1) H [] vs ds) (k1 : SqL K (gx G f2) b us) (k2 : Reps K (gx G f2) H [] us es) :
    WalkOk K G H (Itz K a b) ((ds.zip es).map fun p => ⟨.no, f1 || f2, .tup [p.1, p.2]⟩) := by
  intro G' H' e1 e2 ht i
  have hl := h2.length ds
  have kl := k2.length es
  have q : SqL K H' a vs := (gx_le.trans (e1.trans e2)).seq h1
  have q2 : SqL K H' b us := (gx_le.trans (e1.trans e2)).seq k1
  refine ⟨fun it e => ?_, fun hi => ⟨vs, us, q, q2, by rw [List.length_map, List.length_zip] at hi; omega⟩⟩
  rw [List.getElem?_map] at e
  cases ed : (ds.zip es)[i]? with
  | none => rw [ed] at e; cases e
  | some p =>
    rw [ed] at e; cases e
    obtain ⟨ea, eb⟩ := List.getElem?_zip_eq_some.mp ed
    obtain ⟨w, hw, r⟩ := h2.get ea
    obtain ⟨w2, hw2, r2⟩ := k2.get eb
    refine ⟨⟨vs, us, w, w2, q, q2, hw, hw2⟩, fun x H'' y => ?_⟩
    obtain ⟨T, x1, x2, rfl, hT, rfl, y1, y2⟩ := y
    have t1 := y1 vs q
    rw [hw] at t1; cases t1
    have t2 := y2 us q2
    rw [hw2] at t2; cases t2
    refine pair_ok hT (Rep.monoG (gx_imp fun z => ?_) _ (r.on (gx_mono e1) ht)) (Rep.monoG (gx_imp fun z => ?_) _ (r2.on (gx_mono e1) ht))
    · rw [z]; rfl
    · rw [z, Bool.or_true]
/-- the last temporary, a list, made read-only -/
theorem SatE.lent_lst (S : SatE K B Γ (Θ ++ [(v, x)]) σ H) (hd : x.d = .nd .lst ds) : ∃ G ρ p vs, v = .ref p ∧ Sat K B Γ Θ σ G H ρ ∧ SqL K (gx G (lend x).fz) p vs ∧ Reps K (gx G (lend x).fz) H [] vs ds := by
  obtain ⟨G, ρ, S⟩ := S
  obtain ⟨G', ρ', S', _, ok⟩ := S.freezeT
  have h := ok.1
  rw [lend_d, hd] at h
  obtain ⟨p, vs, rfl, h1, h2⟩ := rep0_nd h
  refine ⟨G', ρ', p, vs, rfl, S', ?_, h2⟩
  rcases h1 with ⟨h, _⟩ | h
  · cases h
  · exact h.sq
end

/-! ### an iterable's reading -/
def tI (r : Rd0) (C : Ctx) (f : Gam → R (List Val)) : TI := fun σ H Q => ∃ B Γ Θ, SatE r.K B Γ Θ σ H ∧ IoIn B C ∧ (f Γ).post (wE r B Θ σ) (fun items Γ' => ∀ J H', SatW r.K B Γ' Θ σ H' J items → Q J H')
section
variable {X : Cx} {W : WX} {cls : Nat → Value} {C : Ctx} {tg e : Expr} {ie : IE}
theorem pi_seq (h : PE X e (tV ⟨X.K, W, cls⟩ C (evE C ie))) : PI X tg e (tI ⟨X.K, W, cls⟩ C (evI C (.seq ie))) := by
  constructor
  intro pins s σ H Q I ⟨B, Γ, Θ, S, io, p⟩
  rw [evI] at p
  cases er : evE C ie Γ with
  | bad => rw [er] at p; exact p.elim
  | exc c Γ' =>
    rw [er] at p
    exact (pi_list h).run pins s σ H Q I ⟨B, Γ, Θ, S, io, by rw [er]; exact p⟩
  | ok x Γ' =>
    rw [er] at p
    have p : (match kidsD x.d with
      | some ds => .ok (ds.map (childV (lend x).fz)) Γ'
      | none => .bad : R (List Val)).post (wE ⟨X.K, W, cls⟩ B Θ σ) (fun items Γ' => ∀ J H', SatW X.K B Γ' Θ σ H' J items → Q J H') := p
    cases ed : x.d with
    | «at» a => rw [ed] at p; exact p.elim
    | nd t ds =>
      have tup : t = .tup ∨ t = .ktup → kidsD x.d = some ds → wpAny (model X.prog X.w) X.A (eval e X.env) (fun v s1 => wpAny (model X.prog X.w) X.A (pyIter v) (PIE X pins σ tg Q) X.xe s1) X.xe s := fun ht hk => by
        rw [hk] at p
        refine (pi_tup h).run pins s σ H Q I ⟨B, Γ, Θ, S, io, ?_⟩
        rw [er]
        intro v H' ⟨G, ρ, S'⟩
        obtain ⟨G', ρ', S2, _, ok⟩ := S'.freezeT
        have h := ok.1
        rw [lend_d, ed] at h
        obtain ⟨a, vs, rfl, h1, h2⟩ := rep0_nd h
        have h3 : H' a = some (.tup vs) ∨ SqT X.K (gx G' (lend x).fz) a vs := by
          rcases h1 with ⟨_, h1⟩ | h1
          · exact .inl h1
          · rcases ht with rfl | rfl
            · exact .inr (.of h1)
            · exact .inr (sqT_same same_no h1)
        refine ⟨a, rfl, ⟨vs, h3.elim SqT.of fun z => sqT_same (gx_same S2.sub) z⟩, p _ H' ⟨G', ρ', S2, walk_tup h3 h2⟩⟩
      cases t with
      | lst =>
        rw [ed] at p
        refine (pi_list h).run pins s σ H Q I ⟨B, Γ, Θ, S, io, ?_⟩
        rw [er]
        intro v H' S'
        obtain ⟨G', ρ', a, vs, rfl, S2, h1, h2⟩ := S'.lent_lst ed
        exact ⟨a, rfl, ⟨vs, (gx_same S2.sub).seq h1⟩, p _ H' ⟨G', ρ', S2, walk_lst h1 h2⟩⟩
      | tup => exact tup (.inl rfl) (by rw [ed]; rfl)
      | ktup => exact tup (.inr rfl) (by rw [ed]; rfl)
      | dK ks => rw [ed] at p; exact p.elim
      | dT ks => rw [ed] at p; exact p.elim
theorem pi_strv (h : PE X e (tV ⟨X.K, W, cls⟩ C (evE C ie))) : PI X tg e (tI ⟨X.K, W, cls⟩ C (evI C (.str ie))) := by
  refine PI.of (pi_str h) fun σ H Q ⟨B, Γ, Θ, S, io, p⟩ => ⟨B, Γ, Θ, S, io, ?_⟩
  rw [evI] at p
  refine post_imp (post_bind.mp p) (fun _ _ z => z) fun x Γ' q v H' S' => ?_
  split at q
  · rename_i z ed
    obtain ⟨G, ρ, S'⟩ := S'
    exact ⟨z, (last_ok S').at_inv ed, q _ H' ⟨G, _, S'.drop, walk_str⟩⟩
  · exact q.elim
theorem rngInts_inv {ds : List D} {ns : List Int} (h : rngInts ds = some ns) : (∃ n, ds = [.at (.int n)] ∧ -(2 ^ 62) ≤ n ∧ n < 2 ^ 62 ∧ ns = (List.range n.toNat).map fun (k : Nat) => (k : Int)) ∨
    (∃ i j, ds = [.at (.int i), .at (.int j)] ∧ (-(2 ^ 62) ≤ i ∧ i < 2 ^ 62 ∧ -(2 ^ 62) ≤ j ∧ j < 2 ^ 62) ∧ ns = (List.range (j - i).toNat).map fun (k : Nat) => i + (k : Int)) := by
  unfold rngInts at h
  split at h
  · split at h
    · rename_i n hb
      cases h
      exact .inl ⟨n, rfl, hb.1, hb.2, rfl⟩
    · cases h
  · split at h
    · rename_i i j hb
      cases h
      exact .inr ⟨i, j, rfl, hb, rfl⟩
    · cases h
  · cases h
theorem pi_rng {es : List Expr} {as : IEs} {p pos : Pos} (hg : Gl X "range") (hm : X.mg "range" = none) (hp : Paired (fun e t => PE X e t) es (tsO ⟨X.K, W, cls⟩ C as)) (hs : es.all noStar = true) (hl : es.length = 1 ∨ es.length = 2) :
    PI X tg (.Call (.Name "range" p) es [] pos) (tI ⟨X.K, W, cls⟩ C (evI C (.rng as))) := by
  have key : ∀ (σ : St) (H : Hp) (Q : It → Hp → Prop), tI ⟨X.K, W, cls⟩ C (evI C (.rng as)) σ H Q → seqT (tsO ⟨X.K, W, cls⟩ C as) σ H fun vs H' =>
      (∃ n : Int, vs = [.int n] ∧ -(2 ^ 62) ≤ n ∧ n < 2 ^ 62 ∧ Q (L2.Itr 0 n.toNat) H') ∨ (∃ i j : Int, vs = [.int i, .int j] ∧ (-(2 ^ 62) ≤ i ∧ i < 2 ^ 62 ∧ -(2 ^ 62) ≤ j ∧ j < 2 ^ 62) ∧ Q (L2.Itr i (j - i).toNat) H') := by
    intro σ H Q ⟨B, Γ, Θ, S, io, p⟩
    refine tOs_seq as ⟨B, Γ, Θ, S, io, ?_⟩
    rw [evI] at p
    refine post_imp (post_bind.mp p) (fun _ _ z => z) fun os Γ' q vs Ts H' hO S' => ?_
    split at q
    · cases e1 : getO Γ' os with
      | none => rw [e1] at q; exact q.elim
      | some xs =>
        rw [e1] at q
        replace q : (match rngInts (xs.map (·.d)) with
          | some ns => .ok (ns.map fun n => ⟨.no, false, .int n⟩) Γ'
          | none => .bad : R (List Val)).post (wE ⟨X.K, W, cls⟩ B Θ σ) (fun items Γ' => ∀ J H', SatW X.K B Γ' Θ σ H' J items → Q J H') := q
        obtain ⟨G, ρ, S'⟩ := S'
        have hP := S'.opds hO e1
        have atI : ∀ {R : List Addr} {v : V} {x : Val} {n : Int}, ValOk X.K G H' R v x → x.d = .at (.int n) → v = .int n := fun h e => h.at_inv e
        cases e2 : rngInts (xs.map (·.d)) with
        | none => rw [e2] at q; exact q.elim
        | some ns =>
          rw [e2] at q
          rcases rngInts_inv e2 with ⟨n, ed, b1, b2, rfl⟩ | ⟨i, j, ed, hb, rfl⟩
          · obtain ⟨x1, xr, rfl, ea, er⟩ := List.map_eq_cons_iff.mp ed
            rw [List.map_eq_nil_iff] at er
            subst er
            cases hP with
            | cons h1 hr =>
              cases hr
              obtain ⟨R1, h1⟩ := h1
              refine .inl ⟨n, by rw [atI h1 ea], b1, b2, q _ H' ⟨G, _, S'.drop, ?_⟩⟩
              have w := walk_rng (K := X.K) (G := G) (H := H') (lo := 0) (n := n.toNat)
              simp only [Int.zero_add] at w
              exact w
          · obtain ⟨x1, xr, rfl, ea, er⟩ := List.map_eq_cons_iff.mp ed
            obtain ⟨x2, xr, rfl, eb, er⟩ := List.map_eq_cons_iff.mp er
            rw [List.map_eq_nil_iff] at er
            subst er
            cases hP with
            | cons h1 hr =>
              cases hr with
              | cons h2 hr =>
                cases hr
                obtain ⟨R1, h1⟩ := h1
                obtain ⟨R2, h2⟩ := h2
                exact .inr ⟨i, j, by rw [atI h1 ea, atI h2 eb], hb, q _ H' ⟨G, _, S'.drop, walk_rng⟩⟩
    · exact q.elim
  have ha := pa_seq hp hs
  have hm1 := tsO_mono (r := ⟨X.K, W, cls⟩) (C := C) as
  revert key ha hm1
  generalize tsO ⟨X.K, W, cls⟩ C as = ts at hp
  intro key ha hm1
  match es, ts, hl, hp, hs, ha, hm1, key with
  | [a], [t1], _, _, hs, ha, hm1, key =>
    rw [List.all_cons, Bool.and_eq_true] at hs
    refine PI.of (pi_range1 hg hm ha (starEach_of hs.1)) fun σ H Q q => ?_
    refine hm1 t1 (by simp) σ H _ _ (fun v H1 q => ?_) (key σ H Q q)
    rcases q with q | ⟨i, j, e, _⟩
    · exact q
    · cases e
  | [a, b], [t1, t2], _, _, hs, ha, hm1, key =>
    rw [List.all_cons, List.all_cons, Bool.and_eq_true, Bool.and_eq_true] at hs
    refine PI.of (pi_range2 hg hm ha (by rw [starEach_of hs.1, starEach_of hs.2.1]; rfl) (starEach_of hs.2.1)) fun σ H Q q => ?_
    refine hm1 t1 (by simp) σ H _ _ (fun v H1 q => hm1 t2 (by simp) σ H1 _ _ (fun w H2 q => ?_) q) (key σ H Q q)
    rcases q with ⟨n, e, _⟩ | q
    · cases e
    · exact q
  | [], _, hl, _, _, _, _, _ => simp at hl
  | _ :: _ :: _ :: _, _, hl, _, _, _, _, _ => simp at hl
  | [_], [], _, hp, _, _, _, _ => cases hp
  | [_], _ :: _ :: _, _, hp, _, _, _, _ => cases hp with | cons _ h => cases h
  | [_, _], [], _, hp, _, _, _, _ => cases hp
  | [_, _], [_], _, hp, _, _, _, _ => cases hp with | cons _ h => cases h
  | [_, _], _ :: _ :: _ :: _, _, hp, _, _, _, _ => cases hp with | cons _ h => cases h with | cons _ h => cases h
theorem pi_enumv {elts : List Expr} {kk : Nat} {tpos p pos : Pos} (hg : Gl X "enumerate") (hm : X.mg "enumerate" = none) (h : PE X e (tV ⟨X.K, W, cls⟩ C (evE C ie))) (hs : noStar e = true) :
    PI X (.Tuple elts kk tpos) (.Call (.Name "enumerate" p) [e] [] pos) (tI ⟨X.K, W, cls⟩ C (evI C (.enum ie))) := by
  refine PI.of (pi_enum hg hm (pa_seq (.cons h .nil) (by rw [List.all_cons, hs]; rfl)) (starEach_of hs)) fun σ H Q ⟨B, Γ, Θ, S, io, p⟩ => ⟨B, Γ, Θ, S, io, ?_⟩
  rw [evI] at p
  refine post_imp (post_bind.mp p) (fun _ _ z => z) fun x Γ' q v H' S' => ?_
  split at q
  · rename_i ds ed
    obtain ⟨G, ρ, a, vs, rfl, S2, h1, h2⟩ := S'.lent_lst ed
    exact ⟨a, vs, rfl, (gx_same S2.sub).seq h1, q _ H' ⟨G, ρ, S2, walk_enum h1 h2⟩⟩
  · exact q.elim
theorem pi_revv {p pos : Pos} (hg : Gl X "reversed") (hm : X.mg "reversed" = none) (h : PE X e (tV ⟨X.K, W, cls⟩ C (evE C ie))) (hs : noStar e = true) :
    PI X tg (.Call (.Name "reversed" p) [e] [] pos) (tI ⟨X.K, W, cls⟩ C (evI C (.rev ie))) := by
  refine PI.of (pi_reversed hg hm (pa_seq (.cons h .nil) (by rw [List.all_cons, hs]; rfl)) (starEach_of hs)) fun σ H Q ⟨B, Γ, Θ, S, io, p⟩ => ⟨B, Γ, Θ, S, io, ?_⟩
  rw [evI] at p
  refine post_imp (post_bind.mp p) (fun _ _ z => z) fun x Γ' q v H' S' => ?_
  split at q
  · rename_i ds ed
    obtain ⟨G, ρ, a, vs, rfl, S2, h1, h2⟩ := S'.lent_lst ed
    exact ⟨a, vs, rfl, (gx_same S2.sub).seq h1, q _ H' ⟨G, ρ, S2, walk_rev h1 h2⟩⟩
  · exact q.elim
theorem pi_zipv {elts : List Expr} {kk : Nat} {e2 : Expr} {ie2 : IE} {tpos p pos : Pos} (hg : Gl X "zip") (hm : X.mg "zip" = none) (h : PE X e (tV ⟨X.K, W, cls⟩ C (evE C ie))) (h2 : PE X e2 (tV ⟨X.K, W, cls⟩ C (evE C ie2))) (hs : noStar e = true) (hs2 : noStar e2 = true) :
    PI X (.Tuple elts kk tpos) (.Call (.Name "zip" p) [e, e2] [] pos) (tI ⟨X.K, W, cls⟩ C (evI C (.zip ie ie2))) := by
  refine PI.of (pi_zip hg hm (pa_seq (.cons h (.cons h2 .nil)) (by rw [List.all_cons, List.all_cons, hs, hs2]; rfl)) (starEach_of hs) (backTo_plain (by rw [List.all_cons, hs2]; rfl))) fun σ H Q ⟨B, Γ, Θ, S, io, p⟩ => ⟨B, Γ, Θ, S, io, ?_⟩
  rw [evI] at p
  refine post_imp (post_bind.mp p) (fun _ _ z => z) fun x Γ1 q v H1 S1 => ?_
  refine ⟨B, Γ1, Θ ++ [(v, x)], S1, io, post_imp (post_bind.mp q) (fun _ _ z => wE_drop z) fun y Γ2 q w H2 S2 => ?_⟩
  split at q
  · rename_i ds es ed1 ed2
    obtain ⟨G, ρ, b, us, rfl, S3, k1, k2⟩ := S2.lent_lst ed2
    obtain ⟨G', ρ', S4, eG, ok⟩ := S3.freezeT
    have h := ok.1
    rw [lend_d, ed1] at h
    obtain ⟨a, vs, rfl, h1, h3⟩ := rep0_nd h
    have h1 : SqL X.K (gx G' (lend x).fz) a vs := by
      rcases h1 with ⟨z, _⟩ | z
      · cases z
      · exact z.sq
    refine ⟨a, b, vs, us, rfl, (gx_same S4.sub).seq h1, (gx_same S4.sub).seq ((gx_mono eG).seq k1), q _ H2 ⟨G', ρ', S4, walk_zip h1 h3 ((gx_mono eG).seq k1) (Reps.monoG (gx_mono eG) _ k2)⟩⟩
  · exact q.elim
end
end Px
namespace Px
open PySem L2

/-! ### operands made read-only ahead of a call -/
def lendO : Opd → Opd
  | .v x => .v (lend x)
  | .b i => .b i
  | .m i => .m i
def lendT (p : V × Val) : V × Val := (p.1, lend p.2)
theorem lend_lend {x : Val} : lend (lend x) = lend x := lend_no rfl
theorem idxB_lend : ∀ {os : List Opd}, idxB (os.map lendO) = idxB os
  | [] => rfl
  | .v x :: os => idxB_lend (os := os)
  | .b i :: os => congrArg (i :: ·) (idxB_lend (os := os))
  | .m i :: os => idxB_lend (os := os)
theorem idxM_lend : ∀ {os : List Opd}, idxM (os.map lendO) = idxM os
  | [] => rfl
  | .v x :: os => idxM_lend (os := os)
  | .b i :: os => idxM_lend (os := os)
  | .m i :: os => congrArg (i :: ·) (idxM_lend (os := os))
theorem findM_lend {i : Nat} : ∀ {os : List Opd}, findM (os.map lendO) i = findM os i
  | [] => rfl
  | .v x :: os => congrArg (Option.map (· + 1)) (findM_lend (os := os))
  | .b j :: os => congrArg (Option.map (· + 1)) (findM_lend (os := os))
  | .m j :: os => by
    show (if j = i then some 0 else (findM (os.map lendO) i).map (· + 1)) = if j = i then some 0 else (findM os i).map (· + 1)
    rw [findM_lend]
theorem retG_lend {Γ outs : Gam} {os : List Opd} : retG Γ (os.map lendO) outs = retG Γ os outs := by
  unfold retG
  simp only [findM_lend]
theorem retG_none {Γ outs : Gam} {os : List Opd} (h : idxM os = []) : retG Γ os outs = Γ := by
  refine List.ext_getElem? fun i => ?_
  by_cases hi : i < Γ.length
  · rw [retG_at hi, idxM_none h, List.getElem?_eq_getElem hi]
  · rw [List.getElem?_eq_none (by rw [retG_len]; omega), List.getElem?_eq_none (by omega)]
theorem slotG_set_ne {Γ : Gam} {i j : Nat} {o : Option Val} (h : i ≠ j) : slotG (Γ.set i o) j = slotG Γ j := by
  unfold slotG
  rw [List.getElem?_set_ne h]
theorem lendI_ne {Γ : Gam} {i j : Nat} (h : i ≠ j) : slotG (lendI Γ i) j = slotG Γ j := by
  unfold lendI
  split
  · split
    · rfl
    · exact slotG_set_ne h
  · rfl
theorem lendAll_at : ∀ {is : List Nat} {Γ : Gam} {j : Nat} {x : Val}, slotG Γ j = some x → ∃ y, slotG (lendAll Γ is) j = some y ∧ lend y = lend x ∧ (j ∉ is → y = x) ∧ ((j ∈ is ∨ x.ow = .no) → y.ow = .no)
  | [], Γ, j, x, h => ⟨x, h, rfl, fun _ => rfl, fun z => z.elim (fun z => by cases z) fun z => z⟩
  | i :: is, Γ, j, x, h => by
    by_cases e : i = j
    · subst e
      obtain ⟨y, h1, h2, h3, h4⟩ := lendAll_at (is := is) (slot_lend h)
      exact ⟨y, h1, h2.trans lend_lend, fun z => absurd List.mem_cons_self z, fun _ => h4 (.inr rfl)⟩
    · obtain ⟨y, h1, h2, h3, h4⟩ := lendAll_at (is := is) ((lendI_ne e).trans h)
      refine ⟨y, h1, h2, fun z => h3 fun q => z (List.mem_cons_of_mem _ q), fun z => h4 ?_⟩
      exact z.imp (fun z => (List.mem_cons.mp z).resolve_left fun q => e q.symm) fun z => z
theorem argO_lendAll {Γ : Gam} {is : List Nat} : ∀ {os : List Opd} {xs : List Val}, (∀ i ∈ idxM os, i ∉ is) → argO Γ os = some xs → argO (lendAll Γ is) (os.map lendO) = some xs
  | [], xs, _, h => h
  | .v x :: os, xs, hm, h => by
    unfold argO at h
    cases q : argO Γ os with
    | none => rw [q] at h; cases h
    | some ys =>
      rw [q] at h; cases h
      show (argO (lendAll Γ is) (os.map lendO)).map (lend (lend x) :: ·) = _
      rw [argO_lendAll (os := os) hm q, lend_lend]
      rfl
  | .b i :: os, xs, hm, h => by
    unfold argO at h
    cases p : slotG Γ i with
    | none => rw [p] at h; cases h
    | some x =>
      cases q : argO Γ os with
      | none => rw [p, q] at h; cases h
      | some ys =>
        rw [p, q] at h; cases h
        obtain ⟨y, h1, h2, _⟩ := lendAll_at (is := is) p
        show (slotG (lendAll Γ is) i).bind (fun x => (argO (lendAll Γ is) (os.map lendO)).map (lend x :: ·)) = _
        rw [argO_lendAll (os := os) hm q, h1]
        show some (lend y :: ys) = some (lend x :: ys)
        rw [h2]
  | .m i :: os, xs, hm, h => by
    unfold argO at h
    cases p : slotG Γ i with
    | none => rw [p] at h; cases h
    | some x =>
      cases q : argO Γ os with
      | none => rw [p, q] at h; cases h
      | some ys =>
        rw [p, q] at h; cases h
        obtain ⟨y, h1, _, h3, _⟩ := lendAll_at (is := is) p
        show (slotG (lendAll Γ is) i).bind (fun x => (argO (lendAll Γ is) (os.map lendO)).map (x :: ·)) = _
        rw [argO_lendAll (os := os) (fun i hi => hm i (List.mem_cons_of_mem _ hi)) q, h1, h3 (hm i List.mem_cons_self)]
        rfl
theorem argO_slot {Γ : Gam} {i : Nat} : ∀ {os : List Opd} {xs : List Val}, argO Γ os = some xs → i ∈ idxB os → ∃ x, slotG Γ i = some x
  | [], _, _, h => by cases h
  | .v x :: os, xs, h, hi => by
    unfold argO at h
    cases q : argO Γ os with
    | none => rw [q] at h; cases h
    | some ys => exact argO_slot (os := os) q hi
  | .b j :: os, xs, h, hi => by
    unfold argO at h
    cases p : slotG Γ j with
    | none => rw [p] at h; cases h
    | some x =>
      cases q : argO Γ os with
      | none => rw [p, q] at h; cases h
      | some ys =>
        rcases List.mem_cons.mp hi with rfl | hi
        · exact ⟨x, p⟩
        · exact argO_slot (os := os) q hi
  | .m j :: os, xs, h, hi => by
    unfold argO at h
    cases p : slotG Γ j with
    | none => rw [p] at h; cases h
    | some x =>
      cases q : argO Γ os with
      | none => rw [p, q] at h; cases h
      | some ys => exact argO_slot (os := os) q hi
theorem OpdsR.lend {σ : St} : ∀ {os : List Opd} {vs : List V} {Ts : List (V × Val)}, OpdsR σ os vs Ts → OpdsR σ (os.map lendO) vs (Ts.map lendT)
  | _, _, _, .nil => .nil
  | _, _, _, .v h => .v h.lend
  | _, _, _, .b hv h => .b hv h.lend
  | _, _, _, .m hv h => .m hv h.lend
theorem ioOf_pos {p : Nat × V} : ∀ {os : List Opd} {vs : List V} {j : Nat}, p ∈ ioOf j os vs → p.1 ∈ posM j os
  | [], _, _, h => by unfold ioOf at h; cases h
  | o :: os, [], _, h => by cases o <;> (unfold ioOf at h; cases h)
  | .v x :: os, v :: vs, j, h => ioOf_pos (os := os) (vs := vs) h
  | .b i :: os, v :: vs, j, h => ioOf_pos (os := os) (vs := vs) h
  | .m i :: os, v :: vs, j, h => by
    rcases List.mem_cons.mp h with rfl | h
    · exact List.mem_cons_self
    · exact List.mem_cons_of_mem _ (ioOf_pos (os := os) (vs := vs) h)
section
variable {K : W.Frag} {B : Base} {Γ : Gam} {Θ Ts : List (V × Val)} {σ : St} {G G' H H' : Hp} {ρ : Nat → List Addr} {R : List Addr} {v : V} {x : Val} {os : List Opd} {vs : List V} {xs : List Val}
theorem lendTs_go : ∀ (n : Nat) {Ts : List (V × Val)} {G : Hp} {ρ : Nat → List Addr}, Ts.length = n → Sat K B Γ (Θ ++ Ts) σ G H ρ → ∃ G' ρ', Same G G' ∧ Sat K B Γ (Θ ++ Ts.map lendT) σ G' H ρ'
  | 0, Ts, G, ρ, hn, S => by
    have e := List.eq_nil_of_length_eq_zero hn
    subst e
    exact ⟨G, ρ, Same.refl _, S⟩
  | n + 1, Ts, G, ρ, hn, S => by
    rcases List.eq_nil_or_concat Ts with e | ⟨T0, t, e⟩
    · rw [e] at hn; cases hn
    · subst e
      rw [List.concat_eq_append, List.length_append, List.length_singleton] at hn
      rw [List.concat_eq_append, ← List.append_assoc] at S
      obtain ⟨G1, ρ1, S1, e1, ok⟩ := S.freezeT
      obtain ⟨G2, ρ2, e2, S2⟩ := lendTs_go n (by omega) S1
      have S3 := S2.push0 (ok.monoG e2)
      rw [List.append_assoc] at S3
      have e3 : (T0.concat t).map lendT = T0.map lendT ++ [(t.1, lend t.2)] := by rw [List.concat_eq_append, List.map_append]; rfl
      rw [e3]
      exact ⟨G2, _, e1.trans e2, S3⟩
theorem SatE.lendTs (S : SatE K B Γ (Θ ++ Ts) σ H) : SatE K B Γ (Θ ++ Ts.map lendT) σ H := by
  obtain ⟨G, ρ, S⟩ := S
  obtain ⟨G', ρ', _, S'⟩ := lendTs_go _ rfl S
  exact ⟨G', ρ', S'⟩
theorem regB_nil (S : Sat K B Γ (Θ ++ Ts) σ G H ρ) (hO : OpdsR σ os vs Ts) (h1 : ∀ i ∈ idxB os, ∃ y, slotG Γ i = some y ∧ y.ow = .no) (h2 : ∀ t ∈ Ts, t.2.ow = .no) : regB ρ (Γ.length + Θ.length) os = [] := by
  refine List.eq_nil_iff_forall_not_mem.mpr fun a z => ?_
  rcases mem_regB hO z with ⟨i, hi, q⟩ | ⟨j, j1, j2, q⟩
  · obtain ⟨y, e, ho⟩ := h1 i hi
    obtain ⟨w, _, ok⟩ := S.slot i y (slotG_some.mp e)
    rw [ok.2.1 ho] at q; cases q
  · have hj : j - (Γ.length + Θ.length) < Ts.length := by omega
    have ok := S.tail (j - (Γ.length + Θ.length)) Ts[j - (Γ.length + Θ.length)].1 Ts[j - (Γ.length + Θ.length)].2 (by rw [List.getElem?_eq_getElem hj])
    rw [show Γ.length + Θ.length + (j - (Γ.length + Θ.length)) = j by omega] at ok
    rw [ok.2.1 (h2 _ (List.getElem_mem hj))] at q; cases q
end
def outsFz (outs : Gam) : Bool := outs.any fun o => match o with | some y => y.fz | none => false
theorem outsFz_at {outs : Gam} (h : outsFz outs = false) {j : Nat} {x : Val} (e : outs.getD j none = some x) : x.fz = false := by
  have q := List.any_eq_false.mp h (some x) (by
    rw [List.getD_eq_getElem?_getD] at e
    cases q : outs[j]? with
    | none => rw [q] at e; cases e
    | some o =>
      rw [q] at e
      have e : o = some x := e
      subst e
      exact List.mem_of_getElem? q)
  simpa using q
section
variable {r : Rd0} {C : Ctx} {σ : St} {H : Hp}
/-- A CALL -/
theorem call_rel {f np : Nat} {N : List Str} {es : IEs} {Q : VK} (h1 : ∀ is xs x outs, C.call f is xs = .ok x outs → xs.length = np ∧ xs.length ≤ N.length) (h2 : ∀ is xs c, C.call f is xs = .exc c → xs.length = np ∧ xs.length ≤ N.length)
    (h : tV r C (evE C (.call f es)) σ H Q) : tCallS (spF r.K r.cls (C.call f) N np) (WE r.W) (seqT (tsO r C es)) σ H Q := by
  refine tOs_seq es ?_
  obtain ⟨B, Γ, Θ, S, io, p⟩ := h
  refine ⟨B, Γ, Θ, S, io, ?_⟩
  rw [evE] at p
  refine post_imp (post_bind.mp p) (fun _ _ z => z) fun os Γ' q vs Ts H1 hO S1 => ?_
  cases ea : argO Γ' os with
  | none => rw [ea] at q; exact q.elim
  | some xs =>
    rw [ea] at q
    dsimp only at q
    split at q
    · rename_i hc
      obtain ⟨hM, hBM⟩ := hc
      have lv : vs.length = xs.length := by rw [hO.len, argO_len ea]
      cases ec : C.call f (posM 0 os) xs with
      | bad => rw [ec] at q; exact q.elim
      | exc c =>
        rw [ec] at q
        have q : wE r B Θ σ c (if idxM os = [] then Γ' else retG Γ' os []) := q
        obtain ⟨l1, l2⟩ := h2 _ _ _ ec
        obtain ⟨G, ρ, S1⟩ := S1
        refine ⟨lv.trans l1, _, xs, posM 0 os, rfl, lv, ⟨_, _, S1.enter hO ea l2 hM hBM⟩, fun p hp => ioOf_pos hp, ?_⟩
        rw [ec]
        intro H2 ⟨Γc, σc, Gc, ρc, Sc⟩
        have L := S1.leave (N := N) (outs := []) hO hM hBM (Sc.push0 (ok_atom (a := .non))) (.inr ⟨rfl, fun j x e => by cases e⟩) (fun j x e => by cases e)
        refine q H2 ?_
        split
        · rename_i hn
          rw [retG_none hn] at L
          exact L.drop
        · exact L.drop
      | ok x outs =>
        rw [ec] at q
        have q : ∀ v H', SatE r.K B (if idxM os = [] then (if x.fz then lendAll Γ' (idxB os) else Γ') else retG (if x.fz || outsFz outs then lendAll Γ' (idxB os) else Γ') os outs) (Θ ++ [(v, x)]) σ H' → Q v H' := q
        obtain ⟨l1, l2⟩ := h1 _ _ _ _ ec
        -- without, with the operands made read-only
        by_cases hz : (x.fz || (if idxM os = [] then false else outsFz outs)) = true
        · have S2 := SatE.lendTs (SatE.lendAll (idxB os) S1)
          obtain ⟨G, ρ, S2⟩ := S2
          have hO2 := hO.lend
          have ea2 : argO (lendAll Γ' (idxB os)) (os.map lendO) = some xs := argO_lendAll hBM ea
          have hM2 : (idxM (os.map lendO)).Nodup := by rw [idxM_lend]; exact hM
          have hBM2 : ∀ i ∈ idxM (os.map lendO), i ∉ idxB (os.map lendO) := by rw [idxM_lend, idxB_lend]; exact hBM
          have rn := regB_nil S2 hO2 (fun i hi => by
            rw [idxB_lend] at hi
            obtain ⟨x, hx⟩ := argO_slot ea hi
            obtain ⟨y, y1, _, _, y2⟩ := lendAll_at (is := idxB os) hx
            exact ⟨y, y1, y2 (.inl hi)⟩) (fun t ht => by
            obtain ⟨t', _, rfl⟩ := List.mem_map.mp ht
            rfl)
          have ps : posM 0 (os.map lendO) = posM 0 os := by
            have : ∀ (os : List Opd) (j : Nat), posM j (os.map lendO) = posM j os := by
              intro os
              induction os with
              | nil => intro j; rfl
              | cons o os ih =>
                intro j
                cases o with
                | v x => exact ih (j + 1)
                | b i => exact ih (j + 1)
                | m i => exact congrArg (j :: ·) (ih (j + 1))
            exact this os 0
          refine ⟨lv.trans l1, _, xs, posM 0 os, rfl, lv, ⟨_, _, S2.enter hO2 ea2 l2 hM2 hBM2⟩, fun p hp => by rw [← ps]; exact ioOf_pos hp, ?_⟩
          rw [ec]
          intro v H2 ⟨Γc, σc, ⟨Gc, ρc, Sc⟩, ho⟩
          have L0 := S2.leave (N := N) (outs := []) hO2 hM2 hBM2 Sc (.inl rn) (fun j x e => by cases e)
          have L := S2.leave (N := N) (outs := outs) hO2 hM2 hBM2 Sc (.inl rn) ho
          rw [retG_lend] at L0 L
          refine q v H2 ?_
          split
          · rename_i hn
            rw [if_pos hn, Bool.or_false] at hz
            rw [if_pos hz]
            rw [retG_none hn] at L0
            exact L0
          · rename_i hn
            rw [if_neg hn] at hz
            rw [if_pos hz]
            exact L
        · obtain ⟨G, ρ, S1⟩ := S1
          have hz : (x.fz || (if idxM os = [] then false else outsFz outs)) = false := by simpa using hz
          rw [Bool.or_eq_false_iff] at hz
          refine ⟨lv.trans l1, _, xs, posM 0 os, rfl, lv, ⟨_, _, S1.enter hO ea l2 hM hBM⟩, fun p hp => ioOf_pos hp, ?_⟩
          rw [ec]
          intro v H2 ⟨Γc, σc, ⟨Gc, ρc, Sc⟩, ho⟩
          refine q v H2 ?_
          split
          · rename_i hn
            rw [hz.1]
            have L := S1.leave (N := N) (outs := []) hO hM hBM Sc (.inr ⟨hz.1, fun j x e => by cases e⟩) (fun j x e => by cases e)
            rw [retG_none hn] at L
            exact L
          · rename_i hn
            rw [if_neg hn] at hz
            rw [hz.1, hz.2]
            exact S1.leave (N := N) (outs := outs) hO hM hBM Sc (.inr ⟨hz.1, fun j x e => outsFz_at hz.2 e⟩) ho
    · exact q.elim
end
section
variable {X : Cx} {CXT0 : CXT} {k : Nat} {f : Addr} {fd : FuncData} {ps : List Str} {sp : Sp} {E : St → XK} {x : Str} {p pos : Pos}
theorem pe_callS0 (F : FnOk X.prog X.w X.K X.mg X.base CXT0 k f fd ps sp) (hr : Room k X.A) (hg : Gl X x) (hm : X.mg x = some (.ref f)) (hk : PySem.W.keepIn X.K (.ref f) = true) (hb : Binds X.K fd ps []) (hx : ∀ σ, PassesAt CXT0 X σ (E σ)) (hdb : (x == ("__debug__" : Str)) = false) :
    PE X (.Call (.Name x p) [] [] pos) (tCallS sp E tNil) := by
  constructor
  intro pins s σ H Q I h
  exact wpAny_Call_Name_kw (ld_glob I hg hm (PySem.W.callWith_K0 I.kIn hk (run_fnS (us := []) F hr hb (hx σ) I .nil h)) hdb)
theorem pe_callAny (F : FnOk X.prog X.w X.K X.mg X.base CXT0 k f fd ps sp) (hr : Room k X.A) (hg : Gl X x) (hm : X.mg x = some (.ref f)) (hk : PySem.W.keepIn X.K (.ref f) = true) (hb : Binds X.K fd ps []) (hx : ∀ σ, PassesAt CXT0 X σ (E σ)) (hdb : (x == ("__debug__" : Str)) = false)
    {es : List Expr} {ts : List TE} (hp : Paired (fun e t => PE X e t) es ts) (hs : es.all noStar = true) : PE X (.Call (.Name x p) es [] pos) (tCallS sp E (seqT ts)) := by
  cases es with
  | nil =>
    cases hp
    exact pe_callS0 F hr hg hm hk hb hx hdb
  | cons e es =>
    have hs' := hs
    rw [List.all_cons, Bool.and_eq_true] at hs'
    exact pe_callS F hr hg hm hk hb hx (pa_seq hp hs) hdb (starEach_of hs'.1) (backTo_plain hs'.2)
end
end Px
namespace Px
open PySem L2

/-! ### a list written -/
section
variable {K : W.Frag} {B : Base} {Γ : Gam} {Θ Ts : List (V × Val)} {σ : St} {G G' H H' : Hp} {ρ : Nat → List Addr} {R : List Addr} {v w : V} {x y : Val} {d : D} {ds es : List D} {vs : List V}
theorem Reps.split {es : List D} : ∀ {ds : List D} {R : List Addr} {vs : List V}, Reps K G H R vs (ds ++ es) → ∃ R1 R2 us ws, R = R1 ++ R2 ∧ vs = us ++ ws ∧ Reps K G H R1 us ds ∧ Reps K G H R2 ws es
  | [], R, vs, h => ⟨[], R, [], vs, rfl, rfl, .nil, h⟩
  | d :: ds, R, vs, h => by
    obtain ⟨Ra, Rb, v, us, rfl, rfl, h1, h2⟩ := h.inv_cons
    obtain ⟨R1, R2, us, ws, rfl, rfl, h3, h4⟩ := Reps.split h2
    exact ⟨Ra ++ R1, R2, v :: us, ws, (List.append_assoc _ _ _).symm, rfl, .cons h1 h3, h4⟩
theorem Reps.one_inv (h : Reps K G H R vs [d]) : ∃ v, vs = [v] ∧ Rep K G H R v d := by
  obtain ⟨R1, R2, v, us, rfl, rfl, h1, h2⟩ := h.inv_cons
  obtain ⟨rfl, rfl⟩ := h2.inv_nil
  rw [List.append_nil]
  exact ⟨v, rfl, h1⟩
theorem Reps.one (h : Rep K G H R v d) : Reps K G H R [v] [d] := by
  have := Reps.cons h (.nil)
  rw [List.append_nil] at this
  exact this
/-- places that none owns become read-only -/
theorem Sat.freezeR (S : Sat K B Γ Θ σ G H ρ) (ha : ∀ a ∈ R, (∀ i, a ∉ ρ i) ∧ G a = none ∧ (B.H0 a = none ∨ a ∈ B.rin)) : Sat K B Γ Θ σ (addH G H R) H ρ ∧ Same G (addH G H R) := by
  have ext : Same G (addH G H R) := addH_ext fun a z => (ha a z).2.1
  refine ⟨⟨fun a o e => ?_, S.ext.trans ext, fun a o e => ?_, S.frame, S.len, fun j y e => ?_, fun j w y e => (S.temp j w y e).monoG ext, S.nod, S.dis, fun i a h => ?_, S.emp, S.io⟩, ext⟩
  · by_cases h : a ∈ R
    · rw [addH_in h] at e; exact e
    · rw [addH_out h] at e; exact S.sub a o e
  · by_cases h : a ∈ R
    · exact .inr (ha a h).2.2
    · rw [addH_out h] at e; exact S.fresh a o e
  · obtain ⟨w, h1, h2⟩ := S.slot j y e
    exact ⟨w, h1, h2.monoG ext⟩
  · refine ⟨?_, (S.own i a h).2⟩
    rw [addH_out fun z => (ha a z).1 i h]
    exact (S.own i a h).1
theorem joinOw_no {a b : Ow} (h : a ≠ .no) : joinOw a b ≠ .no := by cases a <;> cases b <;> simp_all [joinOw]
theorem joinOw_top {a b : Ow} (h : joinOw a b = .top) : a = .top ∧ b = .no := by cases a <;> cases b <;> simp_all [joinOw]
theorem ne_lst {p : Addr} {l : List V} {o' : HO} (h : H p = some (.lst l)) : ∀ a xs, H a = some (.tup xs) → upd H p o' a = some (.tup xs) := fun a xs r => by
  rw [upd_ne (fun e => by rw [e, h] at r; cases r)]
  exact r
/-- what a slot's own list is -/
theorem Sat.listAt {i : Nat} (S : Sat K B Γ Θ σ G H ρ) (hx : slotG Γ i = some x) (ho : x.ow ≠ .no) (hd : x.d = .lst ds) : ∃ p vs R, σ[i]? = some (some (.ref p)) ∧ ρ i = p :: R ∧ H p = some (.lst vs) ∧ Reps K (gx G x.fz) H R vs ds ∧ (x.ow = .top → R = []) ∧ R.Nodup ∧ p ∉ R := by
  obtain ⟨v, hv, ok⟩ := S.slot i x (slotG_some.mp hx)
  obtain ⟨p, vs, R, rfl, eR, nO, r, hz⟩ := ok.root ho hd (by decide)
  have nd := S.nod i
  rw [eR] at nd
  exact ⟨p, vs, R, hv, eR, nO, r, hz, (List.nodup_cons.mp nd).2, (List.nodup_cons.mp nd).1⟩
/-- a slot's own list gets other items: some of its own, some of the temporaries' -/
theorem Sat.putList {i : Nat} {p : Addr} {us : List V} {es : List D} {R R' : List Addr} {o : Ow} {f : Bool} (S : Sat K B Γ (Θ ++ Ts) σ G H ρ) (hx : slotG Γ i = some x) (hv : σ[i]? = some (some (.ref p))) (eR : ρ i = p :: R) (hH : H p = some (.lst vs)) (hn : R'.Nodup)
    (hs : ∀ a ∈ R', a ∈ R ∨ ∃ j, Γ.length + Θ.length ≤ j ∧ a ∈ ρ j) (r : Reps K (gx G f) H R' us es) (ho : o ≠ .no) (ht : o = .top → R' = []) :
    Sat K B (Γ.set i (some ⟨o, f, .lst es⟩)) Θ σ G (upd H p (.lst us)) (upr (fun j => if j < Γ.length + Θ.length then ρ j else []) i (p :: R')) := by
  have hi : i < Γ.length := (List.getElem?_eq_some_iff.mp (slotG_some.mp hx)).1
  have pin : p ∈ ρ i := by rw [eR]; exact List.mem_cons_self
  have hp : p ∉ R' := fun z => by
    rcases hs p z with q | ⟨j, hj, q⟩
    · have nd := S.nod i
      rw [eR] at nd
      exact (List.nodup_cons.mp nd).1 q
    · have := S.dis i j p pin q
      omega
  have r' : Reps K (gx G f) (upd H p (.lst us)) R' us es := r.stay (ne_lst hH) es fun a z => upd_ne fun e => hp (e ▸ z)
  refine S.setRoot (slotG_some.mp hx) eR hv hn hp hs ⟨.own (show NodeO _ .lst p us from upd_same) r', fun z => absurd z ho, fun z => ?_, fun _ t ds _ _ => ⟨p, R', rfl, rfl⟩⟩
  exact ⟨p, .lst, es, rfl, by rw [ht z], rfl, by decide⟩
theorem slot_set {i : Nat} (hi : i < Γ.length) : slotG (Γ.set i (some x)) i = some x := by rw [slotG_some, List.getElem?_set_self hi]
/-- append -/
theorem SatE.append {i : Nat} {x' r : Val} (S : SatE K B Γ (Θ ++ [(w, y)]) σ H) (hx : slotG Γ i = some x) (ho : x.ow ≠ .no) (hm : mutV .append x [y] = some (r, x')) :
    ∃ p vs, σ[i]? = some (some (.ref p)) ∧ H p = some (.lst vs) ∧ vs.length < szLim ∧ SatE K B (Γ.set i (some x')) (Θ ++ [(.non, r)]) σ (upd H p (.lst (vs ++ [w]))) := by
  obtain ⟨G, ρ, S⟩ := S
  replace hm : (match x.d with
    | .nd .lst ds => if ds.length < szLim then some (⟨.no, false, .non⟩, ⟨joinOw x.ow y.ow, x.fz || y.fz, .lst (ds ++ [y.d])⟩) else none
    | _ => none : Option (Val × Val)) = some (r, x') := hm
  split at hm
  · rename_i ds hd
    split at hm
    · rename_i hl
      cases hm
      obtain ⟨p, vs, R, hv, eR, hH, r, hz, nd, np⟩ := S.listAt hx ho hd
      have oky := last_ok S
      have hi : i < Γ.length := (List.getElem?_eq_some_iff.mp (slotG_some.mp hx)).1
      refine ⟨p, vs, hv, hH, by rw [r.length]; exact hl, ?_⟩
      have S2 := S.putList (o := joinOw x.ow y.ow) (f := x.fz || y.fz) (R' := R ++ ρ (Γ.length + Θ.length)) (us := vs ++ [w]) (es := ds ++ [y.d]) hx hv eR hH (List.nodup_append.mpr ⟨nd, S.nod _, fun a h1 b h2 e => ?_⟩)
        (fun a z => (List.mem_append.mp z).imp (fun z => z) fun z => ⟨_, Nat.le_refl _, z⟩) (Reps.append (Reps.one (Rep.monoG (gx_imp fun z => by rw [z, Bool.or_true]) _ oky.1)) (Reps.monoG (gx_imp fun z => by rw [z]; rfl) _ r)) (joinOw_no ho) (fun z => ?_)
      · exact ⟨G, _, S2.push0 (ok_atom (a := .non))⟩
      · subst e
        have := S.dis i _ a (by rw [eR]; exact List.mem_cons_of_mem _ h1) h2
        omega
      · obtain ⟨z1, z2⟩ := joinOw_top z
        rw [hz z1, oky.2.1 z2]; rfl
    · cases hm
  · cases hm
/-- extend, by a list that is owned itself -/
theorem SatE.extend {i : Nat} {x' r : Val} (S : SatE K B Γ (Θ ++ [(w, y)]) σ H) (hx : slotG Γ i = some x) (ho : x.ow ≠ .no) (hm : mutV .extend x [y] = some (r, x')) :
    ∃ p q vs ws, σ[i]? = some (some (.ref p)) ∧ w = .ref q ∧ H p = some (.lst vs) ∧ H q = some (.lst ws) ∧ vs.length + ws.length ≤ szLim ∧ SatE K B (Γ.set i (some x')) (Θ ++ [(.non, r)]) σ (upd H p (.lst (vs ++ ws))) := by
  obtain ⟨G, ρ, S⟩ := S
  replace hm : (match x.d, y.d with
    | .nd .lst ds, .nd .lst es => if ds.length + es.length ≤ szLim ∧ y.ow ≠ .no then some (⟨.no, false, .non⟩, ⟨if y.ow = .deep then .deep else x.ow, x.fz || y.fz, .lst (ds ++ es)⟩) else none
    | _, _ => none : Option (Val × Val)) = some (r, x') := hm
  split at hm
  · rename_i ds es hd he
    split at hm
    · rename_i hl
      obtain ⟨hl, hyo⟩ := hl
      cases hm
      obtain ⟨p, vs, R, hv, eR, hH, r, hz, nd, np⟩ := S.listAt hx ho hd
      have oky := last_ok S
      obtain ⟨q, ws, R2, rfl, eq, hq, rq, zq⟩ := oky.root hyo he (by decide)
      have hi : i < Γ.length := (List.getElem?_eq_some_iff.mp (slotG_some.mp hx)).1
      have nd2 := S.nod (Γ.length + Θ.length)
      rw [eq] at nd2
      have in2 : ∀ a ∈ R2, a ∈ ρ (Γ.length + Θ.length) := fun a z => by rw [eq]; exact List.mem_cons_of_mem _ z
      refine ⟨p, q, vs, ws, hv, rfl, hH, hq, by rw [r.length, rq.length]; exact hl, ?_⟩
      have S2 := S.putList (o := if y.ow = .deep then .deep else x.ow) (f := x.fz || y.fz) (R' := R ++ R2) (us := vs ++ ws) (es := ds ++ es) hx hv eR hH (List.nodup_append.mpr ⟨nd, (List.nodup_cons.mp nd2).2, fun a h1 b h2 e => ?_⟩)
        (fun a z => (List.mem_append.mp z).imp (fun z => z) fun z => ⟨_, Nat.le_refl _, in2 a z⟩) (Reps.append (Reps.monoG (gx_imp fun z => by rw [z, Bool.or_true]) _ rq) (Reps.monoG (gx_imp fun z => by rw [z]; rfl) _ r)) (by split <;> first | exact ho | simp) (fun z => ?_)
      · exact ⟨G, _, S2.push0 (ok_atom (a := .non))⟩
      · subst e
        have := S.dis i _ a (by rw [eR]; exact List.mem_cons_of_mem _ h1) (in2 a h2)
        omega
      · split at z
        · cases z
        · rename_i hdp
          have : y.ow = .top := by cases e : y.ow <;> simp_all
          rw [hz z, zq this]; rfl
    · cases hm
  · cases hm
/-- clear -/
theorem SatE.clear {i : Nat} {x' r : Val} (S : SatE K B Γ Θ σ H) (hx : slotG Γ i = some x) (ho : x.ow ≠ .no) (hm : mutV .clear x [] = some (r, x')) :
    ∃ p vs, σ[i]? = some (some (.ref p)) ∧ H p = some (.lst vs) ∧ SatE K B (Γ.set i (some x')) (Θ ++ [(.non, r)]) σ (upd H p (.lst [])) := by
  obtain ⟨G, ρ, S⟩ := S
  replace hm : (match x.d with
    | .nd .lst ds => some (⟨.no, false, .non⟩, ⟨x.ow, x.fz, .lst []⟩)
    | _ => none : Option (Val × Val)) = some (r, x') := hm
  split at hm
  · rename_i ds hd
    cases hm
    obtain ⟨p, vs, R, hv, eR, hH, r, hz, nd, np⟩ := S.listAt hx ho hd
    have S0 : Sat K B Γ (Θ ++ []) σ G H ρ := by rw [List.append_nil]; exact S
    refine ⟨p, vs, hv, hH, ?_⟩
    have S2 := S0.putList (o := x.ow) (f := x.fz) (R' := []) (us := []) (es := []) hx hv eR hH List.nodup_nil (fun a z => by cases z) .nil ho (fun z => rfl)
    exact ⟨G, _, S2.push0 (ok_atom (a := .non))⟩
  · cases hm
/-- pop -/
theorem SatE.pop {i : Nat} {x' r : Val} (S : SatE K B Γ Θ σ H) (hx : slotG Γ i = some x) (ho : x.ow ≠ .no) (hm : mutV .pop x [] = some (r, x')) :
    ∃ p vs w, σ[i]? = some (some (.ref p)) ∧ H p = some (.lst vs) ∧ vs[vs.length - 1]? = some w ∧ SatE K B (Γ.set i (some x')) (Θ ++ [(w, r)]) σ (upd H p (.lst vs.dropLast)) := by
  obtain ⟨G, ρ, S⟩ := S
  replace hm : (match x.d with
    | .nd .lst ds => ds.getLast?.map fun d => (itemV x d, ⟨x.ow, x.fz, .lst ds.dropLast⟩)
    | _ => none : Option (Val × Val)) = some (r, x') := hm
  split at hm
  · rename_i ds hd
    cases hg : ds.getLast? with
    | none => rw [hg] at hm; cases hm
    | some d =>
      rw [hg] at hm
      cases hm
      obtain ⟨p, vs, R, hv, eR, hH, r, hz, nd, np⟩ := S.listAt hx ho hd
      obtain ⟨ds0, rfl⟩ : ∃ ds0, ds = ds0 ++ [d] := by
        rcases List.eq_nil_or_concat ds with e | ⟨ds0, d', e⟩
        · rw [e] at hg; cases hg
        · rw [List.concat_eq_append] at e
          rw [e, List.getLast?_concat] at hg
          cases hg
          exact ⟨ds0, e⟩
      obtain ⟨R1, R2, us, ws, rfl, rfl, r1, r2⟩ := r.split
      obtain ⟨w, rfl, r3⟩ := r2.one_inv
      have S0 : Sat K B Γ (Θ ++ []) σ G H ρ := by rw [List.append_nil]; exact S
      have hi : i < Γ.length := (List.getElem?_eq_some_iff.mp (slotG_some.mp hx)).1
      rw [List.dropLast_concat]
      refine ⟨p, us ++ [w], w, hv, hH, by simp, ?_⟩
      rw [List.dropLast_concat]
      have nd' := List.nodup_append.mp nd
      have S2 := S0.putList (o := x.ow) (f := x.fz) (R' := R1) (us := us) (es := ds0) hx hv eR hH nd'.1 (fun a z => .inl (List.mem_append_left _ z)) r1 ho (fun z => by
        have := hz z
        exact (List.append_eq_nil_iff.mp this).1)
      have r4 : Rep K (gx G x.fz) (upd H p (.lst us)) R2 w d := r3.stay (ne_lst hH) d fun a z => upd_ne fun e => np (e ▸ List.mem_append_right _ z)
      have apart : ∀ a ∈ R2, (∀ j, a ∉ upr (fun j => if j < Γ.length + Θ.length then ρ j else []) i (p :: R1) j) ∧ G a = none ∧ (B.H0 a = none ∨ a ∈ B.rin) := fun a z => by
        have ain : a ∈ ρ i := by rw [eR]; exact List.mem_cons_of_mem _ (List.mem_append_right _ z)
        refine ⟨fun j q => ?_, S.own i a ain⟩
        unfold upr at q
        split at q
        · rcases List.mem_cons.mp q with e | q
          · exact np (e ▸ List.mem_append_right _ z)
          · exact nd'.2.2 a q a z rfl
        · rename_i ne
          dsimp only at q
          split at q
          · exact ne (S.dis j i a q ain)
          · cases q
      obtain ⟨S3, ext⟩ := S2.freezeR apart
      refine ⟨_, _, S3.push0 ?_⟩
      cases d with
      | «at» a => rw [r4.at_inv.1]; exact ok_atom
      | nd t zs =>
        show ValOk K _ _ [] w ⟨.no, x.fz || decide (x.ow = .deep), .nd t zs⟩
        refine ok_no ?_
        by_cases hdp : x.ow = .deep
        · have e : (x.fz || decide (x.ow = .deep)) = true := by rw [hdp]; simp
          rw [e]
          have hf : ∀ a ∈ R2, upd H p (.lst us) a = H a := fun a z => upd_ne fun e => np (e ▸ List.mem_append_right _ z)
          refine r4.freeze (gx_le.trans ext) _ fun a z => ?_
          exact addH_in z
        · have htop : x.ow = .top := by cases q : x.ow <;> simp_all
          have e : (x.fz || decide (x.ow = .deep)) = x.fz := by rw [htop]; cases x.fz <;> rfl
          have e2 : R2 = [] := (List.append_eq_nil_iff.mp (hz htop)).2
          rw [e]
          rw [e2] at r4
          exact r4.monoG (gx_mono ext) _
  · cases hm
end

section
variable {K : W.Frag} {B : Base} {Γ : Gam} {Θ Ts : List (V × Val)} {σ : St} {G G' H H' : Hp} {ρ : Nat → List Addr} {R : List Addr} {v w : V} {x y : Val} {d : D} {ds es : List D} {vs : List V}
theorem ne_tup {p : Addr} {o o' : HO} (h : H p = some o) (hn : ∀ xs, o ≠ .tup xs) : ∀ a xs, H a = some (.tup xs) → upd H p o' a = some (.tup xs) := fun a xs r => by
  rw [upd_ne (fun e => by rw [e, h] at r; exact hn xs (Option.some.inj r))]
  exact r
/-- what a slot's own dict is -/
theorem Sat.dictAt {i : Nat} {t : NT} (S : Sat K B Γ Θ σ G H ρ) (hx : slotG Γ i = some x) (ho : x.ow = .top) (hd : x.d = .nd t ds) (ht : t ≠ .tup) : ∃ p vs, σ[i]? = some (some (.ref p)) ∧ ρ i = [p] ∧ NodeO H t p vs ∧ Reps K (gx G x.fz) H [] vs ds := by
  obtain ⟨v, hv, ok⟩ := S.slot i x (slotG_some.mp hx)
  obtain ⟨p, vs, R, rfl, eR, nO, r, hz⟩ := ok.root (by rw [ho]; simp) hd ht
  rw [hz ho] at eR r
  exact ⟨p, vs, hv, eR, nO, r⟩
/-- a slot's own dict gets other things -/
theorem Sat.putNode {i : Nat} {p : Addr} {t t' : NT} {us : List V} {es : List D} {f : Bool} {o' : HO} (S : Sat K B Γ (Θ ++ Ts) σ G H ρ) (hx : slotG Γ i = some x) (hv : σ[i]? = some (some (.ref p))) (eR : ρ i = [p]) (hH : NodeO H t p vs) (hN : NodeO (upd H p o') t' p us) (r : Reps K (gx G f) H [] us es) (ht : t' ≠ .tup) :
    Sat K B (Γ.set i (some ⟨.top, f, .nd t' es⟩)) Θ σ G (upd H p o') (upr (fun j => if j < Γ.length + Θ.length then ρ j else []) i [p]) := by
  obtain ⟨o, ho, nt, _⟩ := hH.thr
  have r' : Reps K (gx G f) (upd H p o') [] us es := r.stay (ne_tup ho nt) es fun a z => by cases z
  refine S.setRoot (slotG_some.mp hx) eR hv List.nodup_nil (by simp) (fun a z => by cases z) ⟨.own hN r', (fun z => by cases z), (fun z => ?_), (fun _ t ds _ _ => ⟨p, [], rfl, rfl⟩)⟩
  exact ⟨p, t', es, rfl, rfl, rfl, ht⟩
theorem Reps.snoc (h : Reps K G H [] vs ds) (h1 : Rep K G H [] v d) : Reps K G H [] (vs ++ [v]) (ds ++ [d]) := Reps.append (R' := []) (R := []) (Reps.one h1) h
theorem put_reps {κ : Type} [DecidableEq κ] {kvs : List (κ × V)} {ks : List κ} {k : κ} (ek : kvs.map (·.1) = ks) (r : Reps K G H [] (kvs.map (·.2)) ds) (h : Rep K G H [] w d) :
    (putK kvs k w).map (·.1) = (putKs ks ds k d).1 ∧ Reps K G H [] ((putK kvs k w).map (·.2)) (putKs ks ds k d).2 := by
  have hany : (kvs.any fun kv => decide (kv.1 = k)) = true ↔ k ∈ ks := by
    rw [← ek, List.any_eq_true]
    constructor
    · rintro ⟨x, hx, e⟩
      exact List.mem_map.mpr ⟨x, hx, of_decide_eq_true e⟩
    · intro hx
      obtain ⟨x, hx, e⟩ := List.mem_map.mp hx
      exact ⟨x, hx, decide_eq_true e⟩
  unfold putK putKs
  by_cases hk : k ∈ ks
  · rw [if_pos (hany.mpr hk), if_pos hk]
    refine ⟨?_, ?_⟩
    · rw [← ek, List.map_map]
      refine List.map_congr_left fun p _ => ?_
      show (if p.1 = k then (p.1, w) else p).1 = p.1
      split <;> rfl
    · clear hany hk
      subst ek
      induction kvs generalizing ds with
      | nil =>
        cases ds with
        | nil => exact .nil
        | cons d0 ds => obtain ⟨_, _, e, _⟩ := r.uncons; cases e
      | cons p kvs ih =>
        cases ds with
        | nil => obtain ⟨_, z⟩ := r.inv_nil; cases z
        | cons d0 ds =>
          obtain ⟨v0, us, e, r1, r2⟩ := r.uncons
          cases e
          have q := ih r2
          simp only [List.map_cons, List.zip_cons_cons]
          refine .cons0 ?_ q
          by_cases hp : p.1 = k
          · rw [if_pos hp, if_pos hp]; exact h
          · rw [if_neg hp, if_neg hp]; exact r1
  · rw [if_neg fun z => hk (hany.mp z), if_neg hk]
    refine ⟨by rw [List.map_append, ek]; rfl, ?_⟩
    rw [List.map_append]
    exact Reps.snoc r h
/-- d[k] = y -/
theorem SatE.setD {i : Nat} {kv x' r : Val} {t : NT} {u : V} (S : SatE K B Γ (Θ ++ [(w, y)]) σ H) (hx : slotG Γ i = some x) (hd : x.d = .nd t ds) (hm : mutV .setIx x [y, kv] = some (r, x')) (ht : t ≠ .lst) (hku : ∃ G0 R0, Same G0 H ∧ Rep K G0 H R0 u kv.d) :
    ∃ p H', σ[i]? = some (some (.ref p)) ∧ DPut H p u w H' ∧ SatE K B (Γ.set i (some x')) Θ σ H' := by
  obtain ⟨G, ρ, S⟩ := S
  obtain ⟨G0, R0, eG0, rk⟩ := hku
  have oky := last_ok S
  replace hm : (match x.d, kv.d with
    | .nd .lst ds, .at (.int i) => (ixN ds.length i).map fun j => (⟨.no, false, .non⟩, ⟨joinOw x.ow y.ow, x.fz || y.fz, .lst (ds.set j y.d)⟩)
    | .nd (.dK ks) ds, k => putD x y ks ds (keyOf k) .dK
    | .nd (.dT ks) ds, .nd .tup es => putD x y ks ds (keysOf es) .dT
    | _, _ => none : Option (Val × Val)) = some (r, x') := hm
  rw [hd] at hm
  cases t with
  | lst => exact absurd rfl ht
  | tup => cases hm
  | ktup => cases hm
  | dK ks =>
    have hm : putD x y ks ds (keyOf kv.d) .dK = some (r, x') := by
      cases e : kv.d with
      | nd t2 xs => rw [e] at hm; exact hm
      | «at» a => rw [e] at hm; cases a <;> exact hm
    unfold putD at hm
    cases hk : keyOf kv.d with
    | none => rw [hk] at hm; cases hm
    | some key =>
      rw [hk] at hm
      dsimp only at hm
      split at hm
      · rename_i c
        cases hm
        obtain ⟨c1, c2, c3, c4⟩ := c
        obtain ⟨p, vs, hv, eR, nO, rr⟩ := S.dictAt hx c1 hd (by simp)
        obtain ⟨kvs, hH, ek, ev⟩ := nO
        subst ev
        have oy : Rep K (gx G (x.fz || y.fz)) H [] w y.d := by
          have := oky.1
          rw [oky.2.1 c2] at this
          exact Rep.monoG (gx_imp fun z => by rw [z, Bool.or_true]) _ this
        obtain ⟨q1, q2⟩ := put_reps (k := key) ek (Reps.monoG (gx_imp fun z => by rw [z]; rfl) _ rr) oy
        have hu := keyOf_v hk rk
        subst hu
        refine ⟨p, _, hv, DPut.k hH ?_, G, _, S.putNode (t := .dK ks) (t' := .dK (putKs ks ds key y.d).1) hx hv eR ⟨kvs, hH, ek, rfl⟩ ⟨_, upd_same, q1, rfl⟩ q2 (by simp)⟩
        have hl := rr.length
        rw [List.length_map] at hl
        show kvs.length < szLim
        omega
      · cases hm
  | dT ks =>
    cases e : kv.d with
    | «at» a => rw [e] at hm; cases hm
    | nd t2 es =>
      rw [e] at hm
      cases t2 with
      | tup =>
        have hm : putD x y ks ds (keysOf es) .dT = some (r, x') := hm
        unfold putD at hm
        cases hk : keysOf es with
        | none => rw [hk] at hm; cases hm
        | some key =>
          rw [hk] at hm
          dsimp only at hm
          split at hm
          · rename_i c
            cases hm
            obtain ⟨c1, c2, c3, c4⟩ := c
            obtain ⟨p, vs, hv, eR, nO, rr⟩ := S.dictAt hx c1 hd (by simp)
            obtain ⟨kvs, hH, ek, ev⟩ := nO
            subst ev
            have oy : Rep K (gx G (x.fz || y.fz)) H [] w y.d := by
              have := oky.1
              rw [oky.2.1 c2] at this
              exact Rep.monoG (gx_imp fun z => by rw [z, Bool.or_true]) _ this
            obtain ⟨q1, q2⟩ := put_reps (k := key) ek (Reps.monoG (gx_imp fun z => by rw [z]; rfl) _ rr) oy
            rw [e] at rk
            obtain ⟨b, us, rfl, hb, rus⟩ := tup_inv eG0 rk
            have eus := keysOf_map hk rus
            subst eus
            refine ⟨p, _, hv, DPut.t hH hb ?_, G, _, S.putNode (t := .dT ks) (t' := .dT (putKs ks ds key y.d).1) hx hv eR ⟨kvs, hH, ek, rfl⟩ ⟨_, upd_same, q1, rfl⟩ q2 (by simp)⟩
            have hl := rr.length
            rw [List.length_map] at hl
            show kvs.length < szLim
            omega
          · cases hm
      | _ => cases hm
end

/-! ### methods that write -/
theorem pe_false {X : Cx} {e : Expr} {t : TE} (h : ∀ σ H Q, ¬ t σ H Q) : PE X e t := ⟨fun _ _ σ H Q _ q => absurd q (h σ H Q)⟩
section
variable {X : Cx} {W : WX} {cls : Nat → Value} {C : Ctx} {i : Nat}
theorem lst_ty {B : Base} {Γ : Gam} {Θ : List (V × Val)} {σ : St} {H : Hp} (S : SatE X.K B Γ Θ σ H) (h : lstAt Γ i = true) : ∃ p, σ[i]? = some (some (.ref p)) ∧ tyV X.K "list" (.ref p) H := by
  unfold lstAt at h
  cases e : slotG Γ i with
  | none => rw [e] at h; cases h
  | some x =>
    rw [e] at h
    dsimp only at h
    split at h
    · rename_i ds hd
      obtain ⟨G, ρ, S⟩ := S
      obtain ⟨v, hv, ok⟩ := sig_of S e
      have vw := ok.view S.sub
      rw [hd] at vw
      obtain ⟨p, vs, rfl, n1, r1⟩ := view_nd vw
      exact ⟨p, hv, .inl ⟨rfl, vs, n1.sq⟩⟩
    · cases h
theorem mut_step {m : MOp} {es : IEs} {r : V → List V → Hp → VK → Prop} {σ : St} {H : Hp} {Q : VK} (h : tV ⟨X.K, W, cls⟩ C (evE C (.mut m i es)) σ H Q)
    (hr : ∀ {B Γ Θ Ts} {H' : Hp} {x z x'} {p : Addr}, SatE X.K B Γ (Θ ++ Ts) σ H' → slotG Γ i = some x → x.ow ≠ .no → mutV m x (Ts.map (·.2)) = some (z, x') → σ[i]? = some (some (.ref p)) → (∀ v H'', SatE X.K B (Γ.set i (some x')) (Θ ++ [(v, z)]) σ H'' → Q v H'') → r (.ref p) (Ts.map (·.1)) H' Q) :
    ∃ p, σ[i]? = some (some (.ref p)) ∧ tyV X.K "list" (.ref p) H ∧ tVs ⟨X.K, W, cls⟩ C (evEs C es) σ H fun vs H2 => r (.ref p) vs H2 Q := by
  obtain ⟨B, Γ, Θ, S, io, p⟩ := h
  rw [evE] at p
  split at p
  · rename_i hl
    obtain ⟨a, hv, ty⟩ := lst_ty S hl
    refine ⟨a, hv, ty, B, Γ, Θ, S, io, post_imp (post_bind.mp p) (fun _ _ z => z) fun ys Γ' q Ts H' e S' => ?_⟩
    cases ex : slotG Γ' i with
    | none => rw [ex] at q; exact q.elim
    | some x =>
      rw [ex] at q
      dsimp only at q
      split at q
      · exact q.elim
      · rename_i ho
        cases em : mutV m x ys with
        | none => rw [em] at q; exact q.elim
        | some rr =>
          rw [em] at q
          subst e
          exact hr S' ex ho em hv q
  · exact p.elim
theorem nil_of_map {α β : Type} {l : List α} {f : α → β} (h : l.map f = []) : l = [] := List.map_eq_nil_iff.mp h
theorem mut_append {x : Str} {a : Expr} {apos cpos p1 : Pos} {es : IEs} (ho : PE X (.Name x p1) (tVar i)) (ha : Paired (fun e t => PE X e t) [a] (tsV ⟨X.K, W, cls⟩ C es)) (hs : noStar a = true) (hl : apos.endLine = cpos.line) :
    PE X (.Call (.Attribute (.Name x p1) "append" apos) [a] [] cpos) (tV ⟨X.K, W, cls⟩ C (evE C (.mut .append i es))) := by
  refine PE.of (pe_bm PySem.F.plainAttrs_list PySem.F.slot_list_append PySem.F.type_list_append mt_append ho (pa_seq ha (by rw [List.all_cons, hs]; rfl)) rfl (by rw [starEach_of hs]; rfl) (by rw [hl]; exact beq_self_eq_true _) (starEach_of hs) rfl) fun σ H Q q => ?_
  obtain ⟨p, hv, ty, t⟩ := mut_step (r := rAppend) q fun {B Γ Θ Ts H' y z y' p} S hx ho hm hv k => by
    match Ts, S, hm with
    | [], S, hm => cases hm
    | [(w, y2)], S, hm =>
      obtain ⟨p', vs, hv', hH, hl2, S2⟩ := S.append hx ho hm
      rw [hv] at hv'; cases hv'
      exact ⟨p, vs, w, rfl, rfl, hH, hl2, k _ _ S2⟩
    | _ :: _ :: _, S, hm => cases hm
  exact ⟨_, hv, ty, tVs_seq es t⟩
theorem mut_extend {x : Str} {a : Expr} {apos cpos p1 : Pos} {es : IEs} (ho : PE X (.Name x p1) (tVar i)) (ha : Paired (fun e t => PE X e t) [a] (tsV ⟨X.K, W, cls⟩ C es)) (hs : noStar a = true) (hl : apos.endLine = cpos.line) :
    PE X (.Call (.Attribute (.Name x p1) "extend" apos) [a] [] cpos) (tV ⟨X.K, W, cls⟩ C (evE C (.mut .extend i es))) := by
  refine PE.of (pe_bm PySem.F.plainAttrs_list PySem.F.slot_list_extend PySem.F.type_list_extend mt_extend ho (pa_seq ha (by rw [List.all_cons, hs]; rfl)) rfl (by rw [starEach_of hs]; rfl) (by rw [hl]; exact beq_self_eq_true _) (starEach_of hs) rfl) fun σ H Q q => ?_
  obtain ⟨p, hv, ty, t⟩ := mut_step (r := rExtend) q fun {B Γ Θ Ts H' y z y' p} S hx ho hm hv k => by
    match Ts, S, hm with
    | [], S, hm => cases hm
    | [(w, y2)], S, hm =>
      obtain ⟨p', q', vs, ws, hv', rfl, hH, hH2, hl2, S2⟩ := S.extend hx ho hm
      rw [hv] at hv'; cases hv'
      exact ⟨p, q', vs, ws, rfl, rfl, hH, hH2, hl2, k _ _ S2⟩
    | _ :: _ :: _, S, hm => cases hm
  exact ⟨_, hv, ty, tVs_seq es t⟩
theorem mut_pop {x : Str} {apos cpos p1 : Pos} {es : IEs} (ho : PE X (.Name x p1) (tVar i)) (ha : es = .nil) (hl : apos.endLine = cpos.line) :
    PE X (.Call (.Attribute (.Name x p1) "pop" apos) [] [] cpos) (tV ⟨X.K, W, cls⟩ C (evE C (.mut .pop i es))) := by
  refine PE.of (pe_bm0 PySem.F.plainAttrs_list PySem.F.slot_list_pop PySem.F.type_list_pop mt_pop ho rfl (by rw [hl]; exact beq_self_eq_true _)) fun σ H Q q => ?_
  obtain ⟨p, hv, ty, t⟩ := mut_step (r := rPop) q fun {B Γ Θ Ts H' y z y' p} S hx ho hm hv k => by
    match Ts, S, hm with
    | [], S, hm =>
      rw [List.append_nil] at S
      obtain ⟨p', vs, w, hv', hH, hw, S2⟩ := S.pop hx ho hm
      rw [hv] at hv'; cases hv'
      exact ⟨p, vs, w, rfl, rfl, hH, hw, k _ _ S2⟩
    | _ :: _, S, hm => cases hm
  subst ha
  exact ⟨_, hv, ty, tVs_seq .nil t⟩
theorem mut_clear {x : Str} {apos cpos p1 : Pos} {es : IEs} (ho : PE X (.Name x p1) (tVar i)) (ha : es = .nil) (hl : apos.endLine = cpos.line) :
    PE X (.Call (.Attribute (.Name x p1) "clear" apos) [] [] cpos) (tV ⟨X.K, W, cls⟩ C (evE C (.mut .clear i es))) := by
  refine PE.of (pe_bm0 PySem.F.plainAttrs_list PySem.F.slot_list_clear PySem.F.type_list_clear mt_clear ho rfl (by rw [hl]; exact beq_self_eq_true _)) fun σ H Q q => ?_
  obtain ⟨p, hv, ty, t⟩ := mut_step (r := rClear) q fun {B Γ Θ Ts H' y z y' p} S hx ho hm hv k => by
    match Ts, S, hm with
    | [], S, hm =>
      rw [List.append_nil] at S
      obtain ⟨p', vs, hv', hH, S2⟩ := S.clear hx ho hm
      rw [hv] at hv'; cases hv'
      exact ⟨p, vs, rfl, rfl, hH, k _ _ S2⟩
    | _ :: _, S, hm => cases hm
  subst ha
  exact ⟨_, hv, ty, tVs_seq .nil t⟩
/-! dicts' methods -/
theorem dct_ty {r : Rd0} {B : Base} {Γ : Gam} {Θ : List (V × Val)} {σ : St} {H : Hp} (S : SatE r.K B Γ Θ σ H) (h : dctAt Γ i = true) : ∃ p, σ[i]? = some (some (.ref p)) ∧ IsD H p := by
  unfold dctAt at h
  cases e : slotG Γ i with
  | none => rw [e] at h; cases h
  | some x =>
    rw [e] at h
    dsimp only at h
    obtain ⟨G, ρ, S⟩ := S
    obtain ⟨v, hv, ok⟩ := sig_of S e
    have vw := ok.view S.sub
    split at h
    · rename_i ds hd
      rw [hd] at vw
      obtain ⟨p, vs, rfl, ⟨kvs, n1, _⟩, r1⟩ := view_nd vw
      exact ⟨p, hv, .inl ⟨kvs, n1⟩⟩
    · rename_i ds hd
      rw [hd] at vw
      obtain ⟨p, vs, rfl, ⟨kvs, n1, _⟩, r1⟩ := view_nd vw
      exact ⟨p, hv, .inr ⟨kvs, n1⟩⟩
    · cases h
theorem get_fin {K : PySem.W.Frag} {o : Op} {G H : Hp} {R R' : List Addr} {a : Addr} {y : V} {xa xy : Val} {dflt : At} {dv : D} {fz : Bool} {Q : VK} (e : Same G H) (h1 : ValOk K G H R (.ref a) xa) (h2 : ValOk K G H R' y xy) (nd : xa.ow ≠ .deep) (hf : xa.fz = true → fz = true) (ho : o.fresh = false) (hfl : o.flow = true)
    (hs : ((dLook xa.d xy.d).map fun o => o.getD (.at dflt)) = some dv) (k : ∀ v H' R, Same H H' → ValOk K G H' R v (o.tag fz dv) → R.Nodup → (∀ a ∈ R, H a = none) → Q v H') : ∃ o, DGet H a y o ∧ Q (o.getD (atV dflt)) H := by
  cases el : dLook xa.d xy.d with
  | none => rw [el] at hs; cases hs
  | some od =>
    rw [el] at hs
    cases hs
    cases ea : xa.d with
    | «at» x => rw [ea] at el; cases x <;> cases el
    | nd t ds =>
      obtain ⟨p, vs, ep, n1, r1⟩ := h1.kids e nd ea
      cases ep
      rw [ea] at el
      obtain ⟨ov, dg, n0, s0⟩ := dLook_get n1 r1 (gx_same e) h2.1 el
      refine ⟨ov, dg, ?_⟩
      cases od with
      | none =>
        rw [n0 rfl]
        exact k (atV dflt) H [] (Same.refl _) ok_atom List.nodup_nil fun _ z => by cases z
      | some d =>
        obtain ⟨v, rfl, rv⟩ := s0 d rfl
        exact k v H [] (Same.refl _) (ok_tag ho hfl (Rep.monoG (gx_imp hf) _ rv)) List.nodup_nil fun _ z => by cases z
theorem get_rel1 {K : PySem.W.Frag} {a : Addr} {y : V} {H : Hp} {Q : VK} (h : relO K .get1 [.ref a, y] H Q) : ∃ o, DGet H a y o ∧ Q (o.getD .non) H := by
  obtain ⟨G, xa, xy, R, R', d, e, h1, h2, hs, nd, _, k⟩ := two_inv (show rel2 K .get1 (.ref a) y H Q from h)
  exact get_fin (dflt := .non) e h1 h2 (nd rfl).1 fz_left rfl rfl hs k
theorem get_rel2 {K : PySem.W.Frag} {a : Addr} {y z : V} {H : Hp} {Q : VK} (h : relO K .get2 [.ref a, y, z] H Q) : ∃ o, DGet H a y o ∧ Q (o.getD z) H := by
  obtain ⟨G, xs, x, e, hp, ho, k⟩ := h
  obtain ⟨xa, xy, xz, R, R', R'', rfl, h1, h2, h3⟩ := pair3 hp
  obtain ⟨d, hs, rfl, hd, hr⟩ := opVal_inv ho
  cases ez : xz.d with
  | nd t es => rw [List.map_cons, List.map_cons, List.map_cons, List.map_nil, ez] at hs; cases hs
  | «at» x =>
    rw [List.map_cons, List.map_cons, List.map_cons, List.map_nil, ez] at hs
    rw [h3.at_inv ez]
    exact get_fin (dflt := x) e h1 h2 (notDeep (hd rfl) (by simp)) (fun z => anyFz_mem (by simp) z) rfl rfl hs k
theorem dget_step {es : IEs} {σ : St} {H : Hp} {Q : VK} {r : Rd0} (h : tV r C (evE C (.dget i es)) σ H Q) :
    ∃ a, σ[i]? = some (some (.ref a)) ∧ IsD H a ∧ tOs r C (evOs C es) σ H fun vs H2 => relO r.K (if vs.length = 1 then .get1 else .get2) (.ref a :: vs) H2 Q := by
  obtain ⟨B, Γ, Θ, S, io, p⟩ := h
  rw [evE] at p
  split at p
  · rename_i hl
    obtain ⟨a, hv, ty⟩ := dct_ty S hl
    refine ⟨a, hv, ty, B, Γ, Θ, S, io, post_imp (post_bind.mp p) (fun _ _ z => z) fun os Γ' q vs Ts H' hO S' => ?_⟩
    split at q
    · obtain ⟨x, e, q⟩ := post_opt q
      cases e1 : getO Γ' (.b i :: os) with
      | none => rw [e1] at e; cases e
      | some xs =>
        rw [e1] at e
        obtain ⟨G, ρ, S'⟩ := S'
        have hO' : OpdsR σ (.b i :: os) (.ref a :: vs) Ts := .b hv hO
        rw [hO.len]
        exact ⟨G, xs, x, S'.sub, S'.opds hO' e1, e, fun v H2 R e2 ok nd fr => q v H2 (S'.drop.pushNew e2 ok nd fr)⟩
    · exact q.elim
  · exact p.elim
theorem m1_of {x m : Str} {p1 apos cpos : Pos} {e : Expr} (hs : noStar e = true) (hl : apos.endLine = cpos.line) : M1 X (.Name x p1) m apos e cpos :=
  ⟨rfl, by rw [starEach_of hs]; rfl, by rw [hl]; exact beq_self_eq_true _, by rw [starEach_of hs]; rfl⟩
theorem m2_of {x m : Str} {p1 apos cpos : Pos} {e f : Expr} (hs : noStar e = true) (hs2 : noStar f = true) (hl : apos.endLine = cpos.line) : M2 X (.Name x p1) m apos e f cpos :=
  ⟨rfl, by rw [starEach_of hs, starEach_of hs2]; rfl, by rw [hl]; exact beq_self_eq_true _, by rw [starEach_of hs, starEach_of hs2]; rfl⟩
theorem pe_get {x : Str} {as : List Expr} {apos cpos p1 : Pos} {es : IEs} (hu : X.A.units + 1 < cLine) (ho : PE X (.Name x p1) (tVar i)) (ha : Paired (fun e t => PE X e t) as (tsO ⟨X.K, W, cls⟩ C es)) (hs : as.all noStar = true) (hl : apos.endLine = cpos.line) (hn : as.length = 1 ∨ as.length = 2) :
    PE X (.Call (.Attribute (.Name x p1) "get" apos) as [] cpos) (tV ⟨X.K, W, cls⟩ C (evE C (.dget i es))) := by
  match as, es, ha, hs, hn with
  | [a], .cons k .nil, ha, hs, _ =>
    rw [List.all_cons, Bool.and_eq_true] at hs
    cases ha with
    | cons pa _ =>
      refine PE.of (pe_dget1 hu ho pa (m1_of hs.1 hl)) fun σ H Q q => ?_
      obtain ⟨p, hv, isd, t⟩ := dget_step q
      refine ⟨_, hv, p, rfl, isd, tO_mono _ _ _ _ (fun v H1 q => ?_) (tOs_seq _ t)⟩
      exact get_rel1 q
  | [a, b], .cons k (.cons k2 .nil), ha, hs, _ =>
    rw [List.all_cons, Bool.and_eq_true, List.all_cons, Bool.and_eq_true] at hs
    cases ha with
    | cons pa r =>
      cases r with
      | cons pb _ =>
        refine PE.of (pe_dget2 hu ho pa pb (m2_of hs.1 hs.2.1 hl)) fun σ H Q q => ?_
        obtain ⟨p, hv, isd, t⟩ := dget_step q
        refine ⟨_, hv, p, rfl, isd, tO_mono _ _ _ _ (fun v H1 q => tO_mono _ _ _ _ (fun w H2 q => ?_) q) (tOs_seq _ t)⟩
        exact get_rel2 q
  | [], _, _, _, hn => simp at hn
  | _ :: _ :: _ :: _, _, _, _, hn => simp at hn
  | [_], .nil, ha, _, _ => cases ha
  | [_, _], .nil, ha, _, _ => cases ha
  | [_], .cons _ (.cons _ _), ha, _, _ => cases ha; rename_i h; cases h
  | [_, _], .cons _ .nil, ha, _, _ => cases ha; rename_i h; cases h
  | [_, _], .cons _ (.cons _ (.cons _ _)), ha, _, _ => cases ha; rename_i h; cases h; rename_i h; cases h
theorem SatE.sdf {K : PySem.W.Frag} {B : Base} {Γ : Gam} {Θ : List (V × Val)} {σ : St} {H : Hp} {kv w : V} {k y x x' r : Val} {a : Addr} {Q : VK} (S : SatE K B Γ (Θ ++ [(kv, k), (w, y)]) σ H) (hx : slotG Γ i = some x) (hv : σ[i]? = some (some (.ref a))) (hm : sdfV x [k, y] = some (r, x'))
    (q : ∀ v H'', SatE K B (Γ.set i (some x')) (Θ ++ [(v, r)]) σ H'' → Q v H'') :
    ∃ (kvs : List (Key × V)) (key : Key), H a = some (.dK kvs) ∧ kv = kV key ∧ kvs.length < sizeLine ∧ (∀ v, valV kvs key = some v → Q v H) ∧ (valV kvs key = none → Q w (upd H a (.dK (putK kvs key w)))) := by
  obtain ⟨G, ρ, S⟩ := S
  unfold sdfV at hm
  dsimp only at hm
  split at hm
  · rename_i ks ds key hd hk
    split at hm
    · rename_i c
      obtain ⟨c1, c2, c3, c4⟩ := c
      have S1 : Sat K B Γ (Θ ++ [(kv, k)] ++ [(w, y)]) σ G H ρ := by rw [List.append_assoc]; exact S
      have oky := last_ok S1
      have okk := last_ok (S1.drop)
      have hkv := keyOf_v hk okk.1
      obtain ⟨p, vs, hv2, eR, nO, rr⟩ := S.dictAt hx c1 hd (by simp)
      rw [hv] at hv2; cases hv2
      obtain ⟨kvs, hH, ek, ev⟩ := nO
      subst ev
      have hl := rr.length
      rw [List.length_map] at hl
      obtain ⟨l1, l2⟩ := lookK_val (k := key) ek rr
      refine ⟨kvs, key, hH, hkv, (by show kvs.length < szLim; omega), ?_⟩
      split at hm
      · rename_i at1 at2 e1 e2
        cases hm
        obtain ⟨v, q1, q2⟩ := l2 _ e1
        have := q2.at_inv.1
        subst this
        refine ⟨(fun v' e' => ?_), (fun e' => by rw [e'] at q1; cases q1)⟩
        rw [q1] at e'; cases e'
        have eΓ : Γ.set i (some x) = Γ := by
          apply List.ext_getElem?
          intro j
          rw [List.getElem?_set]
          split
          · rename_i h; subst h; rw [slotG_some.mp hx]; split
            · rfl
            · rename_i h2; exact absurd (List.getElem?_eq_some_iff.mp (slotG_some.mp hx)).1 h2
          · rfl
        refine q _ _ ?_
        rw [eΓ]
        exact ⟨G, _, S.drop.push0 ok_atom⟩
      · rename_i at2 e1 e2
        cases hm
        have ew := oky.at_inv e2
        refine ⟨(fun v' e' => by rw [l1 e1] at e'; cases e'), (fun _ => ?_)⟩
        have oy : Rep K (gx G x.fz) H [] w y.d := by rw [e2, ew]; exact .at at2
        obtain ⟨q1, q2⟩ := put_reps (k := key) ek rr oy
        have S2 := S.putNode (t := .dK ks) (t' := .dK (putKs ks ds key y.d).1) (us := (putK kvs key w).map (·.2)) (es := (putKs ks ds key y.d).2) (f := x.fz) (o' := .dK (putK kvs key w)) hx hv eR ⟨kvs, hH, ek, rfl⟩ ⟨_, upd_same, q1, rfl⟩ q2 (by simp)
        subst ew
        exact q _ _ ⟨G, _, S2.push0 ok_atom⟩
      · cases hm
    · cases hm
  · cases hm
theorem pe_sdf {x : Str} {as : List Expr} {apos cpos p1 : Pos} {es : IEs} (ho : PE X (.Name x p1) (tVar i)) (ha : Paired (fun e t => PE X e t) as (tsV ⟨X.K, W, cls⟩ C es)) (hs : as.all noStar = true) (hl : apos.endLine = cpos.line) (hn : as.length = 2) :
    PE X (.Call (.Attribute (.Name x p1) "setdefault" apos) as [] cpos) (tV ⟨X.K, W, cls⟩ C (evE C (.sdf i es))) := by
  match as, es, ha, hs, hn with
  | [a, b], .cons k (.cons k2 .nil), ha, hs, _ =>
    rw [List.all_cons, Bool.and_eq_true, List.all_cons, Bool.and_eq_true] at hs
    cases ha with
    | cons pa r =>
      cases r with
      | cons pb _ =>
        refine PE.of (pe_dsetd ho pa pb (m2_of hs.1 hs.2.1 hl)) fun σ H Q q => ?_
        obtain ⟨B, Γ, Θ, S, io, p⟩ := q
        rw [evE] at p
        split at p
        · rename_i hl
          obtain ⟨a', hv, ty⟩ := dct_ty S hl
          have t : tVs ⟨X.K, W, cls⟩ C (evEs C (.cons k (.cons k2 .nil))) σ H fun vs H3 => ∀ y z, vs = [y, z] → ∃ (kvs : List (Key × V)) (key : Key), H3 a' = some (.dK kvs) ∧ y = kV key ∧ kvs.length < sizeLine ∧ (∀ v, valV kvs key = some v → Q v H3) ∧ (valV kvs key = none → Q z (upd H3 a' (.dK (putK kvs key z)))) := by
            refine ⟨B, Γ, Θ, S, io, post_imp (post_bind.mp p) (fun _ _ z => z) fun ys Γ' q Ts H' e S' y z evs => ?_⟩
            match Ts, evs with
            | [(y', k'), (z', v')], evs =>
              cases evs
              subst e
              cases ex : slotG Γ' i with
              | none => rw [ex] at q; exact q.elim
              | some x =>
                rw [ex] at q
                dsimp only [List.map_cons, List.map_nil] at q
                cases em : sdfV x ([(y', k'), (z', v')].map (·.2)) with
                | none => rw [em] at q; exact q.elim
                | some rr =>
                  rw [em] at q
                  exact SatE.sdf S' ex hv em q
          refine ⟨_, hv, a', rfl, ty, tV_mono _ _ _ _ (fun v H1 q => tV_mono _ _ _ _ (fun w H2 q => ?_) q) (tVs_seq _ t)⟩
          exact q v w rfl
        · exact p.elim
  | [], _, _, _, hn => simp at hn
  | [_], _, _, _, hn => simp at hn
  | _ :: _ :: _ :: _, _, _, _, hn => simp at hn
  | [_, _], .nil, ha, _, _ => cases ha
  | [_, _], .cons _ .nil, ha, _, _ => cases ha; rename_i h; cases h
  | [_, _], .cons _ (.cons _ (.cons _ _)), ha, _, _ => cases ha; rename_i h; cases h; rename_i h; cases h
end
end Px
namespace Px
open PySem L2

/-! ### comprehensions -/
theorem upd_id {H : Hp} {a : Addr} {o : HO} (h : H a = some o) : upd H a o = H := funext fun b => by
  by_cases e : b = a
  · rw [e, upd_same, h]
  · exact upd_ne e
def noW : WX := fun _ _ _ _ => False
theorem compL_cons {b : Val → Gam → R (Option Val)} {k : Gam → Gam} {x : Val} {xs : List Val} {Γ : Gam} {E : Nat → Gam → Prop} {Q : List Val → Gam → Prop} (h : (compL b k (x :: xs) Γ).post E Q) :
    (b x Γ).post (fun _ _ => False) (fun y Γ' => (compL b k xs (k Γ')).post (fun _ _ => False) (fun ys Γ'' => Q (match y with | some y => y :: ys | none => ys) Γ'')) := by
  unfold compL at h
  cases eb : b x Γ with
  | bad => rw [eb] at h; exact h.elim
  | exc c Γ' => rw [eb] at h; exact h.elim
  | ok y Γ' =>
    rw [eb] at h
    dsimp only at h
    show (compL b k xs (k Γ')).post _ _
    cases ec : compL b k xs (k Γ') with
    | bad => rw [ec] at h; exact h.elim
    | exc c Γ' => rw [ec] at h; exact h.elim
    | ok ys Γ'' => rw [ec] at h; exact h
theorem compL_exc {b : Val → Gam → R (Option Val)} {k : Gam → Gam} {xs : List Val} {Γ : Gam} {E : Nat → Gam → Prop} {Q : List Val → Gam → Prop} (h : (compL b k xs Γ).post E Q) : (compL b k xs Γ).post (fun _ _ => False) Q := by
  cases xs with
  | nil => exact h
  | cons x xs =>
    cases e : compL b k (x :: xs) Γ with
    | bad => rw [e] at h; exact h
    | ok ys Γ' => rw [e] at h; exact h
    | exc c Γ' =>
      unfold compL at e
      split at e
      · split at e <;> cases e
      · cases e
section
variable {r : Rd0} {C : Ctx} {σ : St} {H : Hp}
theorem noWE {B : Base} {Θ : List (V × Val)} {c : Nat} {Γ : Gam} (h : False) : wE ⟨r.K, noW, r.cls⟩ B Θ σ c Γ := h.elim
theorem drop_go {α : Type} {l : List α} {i : Nat} (h : i < l.length) : l.drop i = l[i] :: l.drop (i + 1) := List.drop_eq_getElem_cons h
/-- A COMPREHENSION -/
theorem comp_rel {e : IE} {t : Tgt} {it : Px.Itr} {c : IEs} {kl : List Nat} {Q : VK} (ht : tgIn t kl) (h : tV r C (evE C (.comp e t it c kl)) σ H Q) :
    tLc (tI r C (evI C it)) (tTg ⟨r.K, noW, r.cls⟩ C t) (tT ⟨r.K, noW, r.cls⟩ C (evCs C c)) (tV ⟨r.K, noW, r.cls⟩ C (evE C e)) kl σ H Q := by
  obtain ⟨B, Γ, Θ, S, io, p⟩ := h
  refine ⟨B, Γ, Θ, S, io, ?_⟩
  rw [evE] at p
  refine post_imp (post_bind.mp p) (fun _ _ z => z) fun items Γ1 q J H1 SW D hD => ?_
  split at q
  · rename_i hc
    obtain ⟨hl, hk⟩ := hc
    have hio : ∀ p ∈ B.io, p.1 ∉ kl := fun p hp z => by
      have q := List.all_eq_true.mp hk _ z
      simp [io p hp] at q
    have q := compL_exc (post_bind.mp q)
    let bd : Val → Gam → R (Option Val) := fun x Γ => (setTgt C t x Γ).bind fun _ Γ => (evCs C c Γ).bind fun b Γ => if b then (evE C e Γ).bind fun y Γ => .ok (some y) Γ else .ok none Γ
    let fin : List Val → Gam → Prop := fun zs Γ2 => ∀ v H', SatE r.K B Γ2 (Θ ++ [(v, mkL zs)]) σ H' → Q v H'
    have q : (compL bd (fun Γ => killG Γ kl) items (killG Γ1 kl)).post (fun _ _ => False) fin := q
    -- the loop
    refine ⟨fun i m H => m = items.length - i ∧ i ≤ items.length ∧ ∃ Γc Ys, SatL r.K B Γc Θ Ys D (wipe σ kl) H J items ∧ Ys.length ≤ i ∧
      (compL bd (fun Γ => killG Γ kl) (items.drop i) Γc).post (fun _ _ => False) (fun ys Γ2 => fin (Ys.map (·.2) ++ ys) Γ2), ⟨items.length, by simp, Nat.zero_le _, killG Γ1 kl, [], ?_, Nat.le_refl _, q⟩, ?_⟩
    · obtain ⟨G, ρ, S1, w⟩ := SW
      obtain ⟨G2, ρ2, S2⟩ := SatE.wiped (kl := kl) ⟨G, ρ, S1⟩ hio
      have w2 : SatW r.K B (killG Γ1 kl) Θ (wipe σ kl) H1 J items := by
        -- killing slots keeps G
        have key : ∀ (is : List Nat) (Γ : Gam) (ρ : Nat → List Addr), Sat r.K B Γ Θ σ G H1 ρ → ∃ ρ', Sat r.K B (killG Γ is) Θ σ G H1 ρ' := by
          intro is
          induction is with
          | nil => intro Γ ρ S; exact ⟨ρ, S⟩
          | cons i is ih =>
            intro Γ ρ S
            by_cases hi : i < Γ.length
            · exact ih _ _ (S.kill i hi)
            · have e : Γ.set i none = Γ := List.set_eq_of_length_le (by omega)
              show ∃ ρ', Sat r.K B (killG (Γ.set i none) is) Θ σ G H1 ρ'
              rw [e]
              exact ih _ _ S
        obtain ⟨ρ3, S3⟩ := key kl _ _ S1
        exact ⟨G, ρ3, S3.resig (wipe_length _ _) (fun i x e => wipe_out (killG_in e)) (fun p hp => wipe_out (hio p hp)), w⟩
      exact w2.start hD
    · intro i m H2 ⟨hm, hi, Γc, Ys, SL, hY, q⟩
      subst hm
      obtain ⟨B', hB, yl, stp, back⟩ := SL.turn
      have io' : IoIn B' C := fun p hp => io p (hB ▸ hp)
      have hio' : ∀ p ∈ B'.io, p.1 ∉ kl := fun p hp => hio p (hB ▸ hp)
      by_cases hlt : i < items.length
      · refine .inr ⟨(yl i items[i] (List.getElem?_eq_getElem hlt)).1, fun H' => items.length - (i + 1) = items.length - (i + 1) ∧ i + 1 ≤ items.length ∧ ∃ Γc Ys, SatL r.K B Γc Θ Ys D (wipe σ kl) H' J items ∧ Ys.length ≤ i + 1 ∧
          (compL bd (fun Γ => killG Γ kl) (items.drop (i + 1)) Γc).post (fun _ _ => False) (fun ys Γ2 => fin (Ys.map (·.2) ++ ys) Γ2), fun H' z => ⟨items.length - (i + 1), by omega, z⟩, fun x H3 y => ?_⟩
        have S3 := (yl i items[i] (List.getElem?_eq_getElem hlt)).2 x H3 y
        rw [drop_go hlt] at q
        have q := compL_cons q
        have q : ((setTgt C t items[i] Γc).bind fun _ Γ => (evCs C c Γ).bind fun b Γ => if b then (evE C e Γ).bind fun y Γ => .ok (some y) Γ else .ok none Γ : R (Option Val)).post _ _ := q
        refine ⟨B', Γc, Θ ++ Ys, items[i], S3, io', post_imp (post_bind.mp q) (fun _ _ z => z) fun _ Γ4 q σ4 S4 hw => ⟨(hw kl ht).trans wipe_idem, ?_⟩⟩
        have hw4 : wipe σ4 kl = wipe σ kl := (hw kl ht).trans wipe_idem
        refine ⟨B', Γ4, Θ ++ Ys, S4, io', post_imp (post_bind.mp q) (fun _ _ z => noWE z) fun b Γ5 q H5 S5 => ?_⟩
        cases b with
        | false =>
          rw [if_neg (by decide)] at q ⊢
          have S6 := SatE.wiped S5 hio'
          rw [hw4] at S6
          obtain ⟨hD5, SL'⟩ := back _ [] _ _ (by rw [List.append_nil]; exact S6)
          rw [List.append_nil, upd_id hD5] at SL'
          exact ⟨rfl, hlt, killG Γ5 kl, Ys, SL', by omega, q⟩
        | true =>
          rw [if_pos rfl] at q ⊢
          refine ⟨B', Γ5, Θ ++ Ys, S5, io', post_imp (post_bind.mp q) (fun _ _ z => noWE z) fun yv Γ6 q w H6 S6 => ?_⟩
          have S7 := SatE.wiped S6 hio'
          rw [hw4] at S7
          obtain ⟨hD6, SL'⟩ := back _ [(w, yv)] _ _ S7
          refine ⟨Ys.map (·.1), hD6, by rw [List.length_map]; show Ys.length < szLim; omega, rfl, hlt, killG Γ6 kl, Ys ++ [(w, yv)], ?_, by rw [List.length_append, List.length_singleton]; omega, ?_⟩
          · rw [List.map_append] at SL'
            exact SL'
          · have q : (compL bd (fun Γ => killG Γ kl) (items.drop (i + 1)) (killG Γ6 kl)).post (fun _ _ => False) (fun ys Γ2 => fin (Ys.map (·.2) ++ yv :: ys) Γ2) := q
            rw [List.map_append]
            simpa using q
      · have e : i = items.length := by omega
        refine .inl ⟨stp i (by omega), ?_⟩
        rw [List.drop_eq_nil_of_le (by omega)] at q
        have q : fin (Ys.map (·.2) ++ []) Γc := q
        rw [List.append_nil] at q
        obtain ⟨G, ρ, S8⟩ := SL.done
        exact q _ _ ⟨G, ρ, S8.unwipe hio⟩
  · exact q.elim
end
end Px
namespace Px
open PySem L2

section
variable {cf : Cfg} {P : Prg} {call : Nat → List Nat → List Val → CR} {k : Nat} {X : Cx} {W : WX} {cls : Nat → Value} {sc : Scope}
theorem Paired.imp {α β : Type} {p q : α → β → Prop} (h : ∀ a b, p a b → q a b) : ∀ {as : List α} {bs : List β}, Paired p as bs → Paired q as bs
  | _, _, .nil => .nil
  | _, _, .cons h1 h2 => .cons (h _ _ h1) (Paired.imp h h2)
theorem XOk.blk (ok : XOk cf P call k X W cls sc) (scope : Scope) (s : Shared) (H : Hp) (C : Addr) (cl : List (Str × Addr)) (fp : List Addr) : XOk cf P call k (X.blk s H scope (compEnvC scope cl C X.env) fp) noW cls (relS scope sc) :=
  ⟨ok.calm, L2.takes0, ok.nd, ok.nm, by rw [← ok.scp]; rfl, ok.room, ok.free, ok.glob, ok.fns⟩
theorem tgOk_blk (ok : XOk cf P call k X W cls sc) {scope : Scope} {s : Shared} {H : Hp} {C : Addr} {cl : List (Str × Addr)} {fp : List Addr} : tgOk (X.blk s H scope (compEnvC scope cl C X.env) fp) (blkName sc scope) := by
  intro x h
  have hs : (compEnvC scope cl C X.env).scope = relS scope sc := by rw [← ok.scp]; rfl
  unfold blkName at h
  show Loc (compEnvC scope cl C X.env).scope x ∧ ((scope.names.lookup x == some .cell) = true ∨ (compEnvC scope cl C X.env).scope.names.lookup x = some .local)
  rw [hs]
  split at h
  · rename_i e
    exact ⟨.inl e, .inr e⟩
  · rename_i e
    refine ⟨.inr e, .inl ?_⟩
    split at h
    · rename_i e2; rw [e2]; rfl
    · cases h
  · cases h
theorem noBool_name {x : Str} {pos : Pos} : noBool (.Name x pos) := fun _ _ _ z => by cases z
theorem sound_opd {C : Ctx} {e : Expr} {ie : IE} (ok : XOk cf P call k X W cls sc) (hc : chkE cf sc e ie = true) (h : PB X e (tV ⟨X.K, W, cls⟩ C (evE C ie))) : PB X e (tO ⟨X.K, W, cls⟩ C (fun Γ => opdOf ie Γ (evE C ie Γ))) := by
  have go : (∀ i, ie ≠ .var i) → (∀ i, ie ≠ .io i) → PB X e (tO ⟨X.K, W, cls⟩ C (fun Γ => opdOf ie Γ (evE C ie Γ))) := fun h1 h2 => h.of fun σ H Q q => tO_tV h1 h2 q
  cases ie with
  | var i =>
    rw [chkE, ckE] at hc; dsimp only at hc
    cases e with
    | Name x pos => exact (pb_plain (name_of ok.nm ok.scp hc) (fun _ _ => rfl) noBool_name).of fun σ H Q q => tO_var q
    | _ => cases hc
  | io i =>
    rw [chkE, ckE] at hc; dsimp only at hc
    cases e with
    | Name x pos => exact (pb_plain (name_of ok.nm ok.scp hc) (fun _ _ => rfl) noBool_name).of fun σ H Q q => tO_io q
    | _ => cases hc
  | _ => exact go (fun _ z => by cases z) (fun _ z => by cases z)
theorem own_ix {N : List Str} {kl : List Nat} : (kl.map fun i => (N.getD i default, i)).map (·.2) = kl := by
  rw [List.map_map]
  exact List.map_id' _
theorem plainB_debug {x : Str} (h : plainB x = true) : (x == ("__debug__" : Str)) = false := by
  unfold plainB at h
  rw [Bool.and_eq_true, Bool.not_eq_true'] at h
  exact h.1
theorem test_rel {r : Rd0} {C : Ctx} {ie : IE} {ies : IEs} {σ : St} {H : Hp} {Q : Bool → Hp → Prop} (h : tT r C (evCs C (.cons ie ies)) σ H Q) : tTest (tO r C (fun Γ => opdOf ie Γ (evE C ie Γ))) σ H Q := by
  obtain ⟨B, Γ, Θ, S, io, p⟩ := h
  refine ⟨B, Γ, Θ, S, io, ?_⟩
  rw [evCs] at p
  refine post_imp (post_bind.mp p) (fun _ _ z => z) fun o Γ' q v Ts H1 hO S1 => ?_
  obtain ⟨b, e, q⟩ := opd_bools (r := r) S1 hO (k := fun b => .ok b Γ') q
  exact ⟨b, e, q H1 S1.drop⟩
theorem evT_rel {r : Rd0} {C : Ctx} {ie : IE} {σ : St} {H : Hp} {Q : Bool → Hp → Prop} (h : tT r C (evT C ie) σ H Q) : tTest (tO r C (fun Γ => opdOf ie Γ (evE C ie Γ))) σ H Q := by
  obtain ⟨B, Γ, Θ, S, io, p⟩ := h
  refine ⟨B, Γ, Θ, S, io, ?_⟩
  unfold evT at p
  refine post_imp (post_bind.mp p) (fun _ _ z => z) fun o Γ' q v Ts H1 hO S1 => ?_
  obtain ⟨b, e, q⟩ := opd_bools (r := r) S1 hO (k := fun b => .ok b Γ') q
  exact ⟨b, e, q H1 S1.drop⟩
theorem pb_false {e : Expr} {t : TE} (h : ∀ σ H Q, ¬ t σ H Q) : PB X e t :=
  ⟨pe_false h, ⟨fun _ _ σ H _ _ q => absurd q (h σ H _)⟩, fun _ _ _ _ => ⟨fun _ _ _ σ H _ _ q => absurd q (h σ H _)⟩⟩
theorem gl_free (ok : XOk cf P call k X W cls sc) {x : Str} (h1 : glB sc x = true) (h2 : cf.free.contains x = true) : Gl X x ∧ X.mg x = none := ⟨gl_of ok.scp h1, ok.free x (by simpa using h2)⟩
end
section
variable {cf : Cfg} {P : Prg} {call : Nat → List Nat → List Val → CR} {k : Nat} {io : List Nat} {fl : Nat}
mutual
theorem soundE : ∀ (ie : IE) {X : Cx} {W : WX} {cls : Nat → Value} {sc : Scope} {e : Expr}, XOk cf P call k X W cls sc → chkE cf sc e ie = true → PB X e (tV ⟨X.K, W, cls⟩ ⟨call, P.glob, io, fl⟩ (evE ⟨call, P.glob, io, fl⟩ ie))
  | .var i, X, W, cls, sc, e, ok, h => by
    rw [chkE, ckE] at h; dsimp only at h
    cases e with
    | Name x pos => exact (pb_plain (name_of ok.nm ok.scp h) (fun _ _ => rfl) noBool_name).of fun σ H Q q => var_rel q
    | _ => cases h
  | .mv i, X, W, cls, sc, e, ok, h => by
    rw [chkE, ckE] at h; dsimp only at h
    cases e with
    | Name x pos => exact (pb_plain (name_of ok.nm ok.scp h) (fun _ _ => rfl) noBool_name).of fun σ H Q q => mv_rel q
    | _ => cases h
  | .io i, X, W, cls, sc, e, ok, h => pb_false fun σ H Q ⟨B, Γ, Θ, S, io, p⟩ => by rw [evE] at p; exact p
  | .cst a, X, W, cls, sc, e, ok, h => by
    rw [chkE, ckE] at h; dsimp only at h
    cases e with
    | Constant c j pos =>
      have go : PE X (.Constant c j pos) (tC (atV a)) := by
        cases c <;> cases a <;> first | cases h | skip
        · exact pe_non
        · cases of_decide_eq_true h; exact pe_bl
        · cases of_decide_eq_true h; exact pe_int
        · cases of_decide_eq_true h; exact pe_str
      exact (pb_plain go (fun _ _ => rfl) fun _ _ _ z => by cases z).of fun σ H Q q => cst_rel q
    | _ => cases h
  | .glob g, X, W, cls, sc, e, ok, h => by
    rw [chkE, ckE] at h; dsimp only at h
    cases e with
    | Name x pos =>
      simp only [Bool.and_eq_true, decide_eq_true_eq] at h
      obtain ⟨u, v, h1, h2, h3⟩ := ok.glob g x h.1.1
      exact (pb_plain (pe_glob (gl_of ok.scp h.1.2) h1 h2 (plainB_debug h.2)) (fun _ _ => rfl) noBool_name).of fun σ H Q q => glob_rel h3 q
    | _ => cases h
  | .op o es, X, W, cls, sc, e, ok, h => by
    rw [chkE, ckE] at h; dsimp only at h
    cases hm : opMat o e with
    | none => rw [hm] at h; cases h
    | some r =>
      obtain ⟨as, ns⟩ := r
      rw [hm] at h
      simp only [Bool.and_eq_true] at h
      obtain ⟨⟨h1, h2⟩, h3⟩ := h
      have hp := (soundEs es ok h3).1
      refine (op_pb ok.calm ok.units hm (fun n hn => ?_) (Paired.imp (fun _ _ z => z.pe) hp) (tsO_mono es) h2).of fun σ H Q q => op_rel q
      have q := List.all_eq_true.mp h1 n hn
      rw [Bool.and_eq_true] at q
      exact gl_free ok q.1 q.2
  | .and a b, X, W, cls, sc, e, ok, h => by
    rw [chkE, ckE] at h; dsimp only at h
    split at h
    · rename_i x y r pos
      rw [Bool.and_eq_true] at h
      have ha := sound_opd ok h.1 (soundE a ok h.1)
      refine (and_pb (b := y) (r := r) (pos := pos) (tb := tV ⟨X.K, W, cls⟩ ⟨call, P.glob, io, fl⟩ (evE ⟨call, P.glob, io, fl⟩ b)) tO_mono ha ?_).of fun σ H Q q => and_rel q
      cases r with
      | nil => exact soundE b ok h.2
      | cons z r => exact soundE b ok h.2
    · cases h
  | .or a b, X, W, cls, sc, e, ok, h => by
    rw [chkE, ckE] at h; dsimp only at h
    split at h
    · rename_i x y r pos
      rw [Bool.and_eq_true] at h
      have ha := sound_opd ok h.1 (soundE a ok h.1)
      refine (or_pb (b := y) (r := r) (pos := pos) (tb := tV ⟨X.K, W, cls⟩ ⟨call, P.glob, io, fl⟩ (evE ⟨call, P.glob, io, fl⟩ b)) tO_mono ha ?_).of fun σ H Q q => or_rel q
      cases r with
      | nil => exact soundE b ok h.2
      | cons z r => exact soundE b ok h.2
    · cases h
  | .not a, X, W, cls, sc, e, ok, h => by
    rw [chkE, ckE] at h; dsimp only at h
    split at h
    · exact (not_pb tO_mono (sound_opd ok h (soundE a ok h))).of fun σ H Q q => not_rel q
    · cases h
  | .ite c a b, X, W, cls, sc, e, ok, h => by
    rw [chkE, ckE] at h; dsimp only at h
    split at h
    · rw [Bool.and_eq_true, Bool.and_eq_true] at h
      exact (ite_pb (sound_opd ok h.1.1 (soundE c ok h.1.1)) (soundE a ok h.1.2) (soundE b ok h.2)).of fun σ H Q q => ite_rel q
    · cases h
  | .chain o1 o2 a b c, X, W, cls, sc, e, ok, h => by
    rw [chkE, ckE] at h; dsimp only at h
    split at h
    · simp only [Bool.and_eq_true, decide_eq_true_eq] at h
      obtain ⟨⟨⟨⟨⟨⟨h1, h2⟩, h3⟩, h4⟩, h5⟩, h6⟩, h7⟩ := h
      exact (chain_pb ok.units h1 h2 (sound_opd ok h3 (soundE a ok h3)).pe (sound_opd ok h4 (soundE b ok h4)).pe (sound_opd ok h5 (soundE c ok h5)).pe h7).of fun σ H Q q => chain_rel q
    · cases h
  | .tup es, X, W, cls, sc, e, ok, h => by
    rw [chkE, ckE] at h; dsimp only at h
    split at h
    · rw [Bool.and_eq_true] at h
      exact (pb_plain (pe_tup (pa_seq (Paired.imp (fun _ _ z => z.pe) (soundEs es ok h.2).2) h.1)) (fun _ _ => rfl) fun _ _ _ z => by cases z).of fun σ H Q q => tup_rel q
    · cases h
  | .lst es, X, W, cls, sc, e, ok, h => by
    rw [chkE, ckE] at h; dsimp only at h
    split at h
    · rw [Bool.and_eq_true] at h
      exact (pb_plain (pe_lst (pa_seq (Paired.imp (fun _ _ z => z.pe) (soundEs es ok h.2).2) h.1)) (fun _ _ => rfl) fun _ _ _ z => by cases z).of fun σ H Q q => lst_rel q
    · cases h
  | .call f es, X, W, cls, sc, e, ok, h => by
    rw [chkE, ckE] at h; dsimp only at h
    split at h
    · simp only [Bool.and_eq_true, decide_eq_true_eq] at h
      obtain ⟨⟨⟨⟨h1, h2⟩, h3⟩, h4⟩, h5⟩ := h
      obtain ⟨a, fd, ps, N, g1, g2, g3, g4, g5, g6⟩ := ok.fns f _ h1
      exact (pb_plain (pe_callAny g4 ok.room (gl_of ok.scp h2) g1 g2 g3 (fun σ => passAt ok.tk σ) (plainB_debug h3) (Paired.imp (fun _ _ z => z.pe) (soundEs es ok h5).1) h4) (fun _ _ => rfl) fun _ _ _ z => by cases z).of fun σ H Q q => call_rel g5 g6 q
    · cases h
  | .comp ie t it ic kl, X, W, cls, sc, e, ok, h => by
    rw [chkE, ckE.eq_def] at h; dsimp only at h
    split at h
    · rename_i elt tg iter ifs scope pos
      simp only [Bool.and_eq_true, decide_eq_true_eq] at h
      obtain ⟨⟨⟨⟨⟨⟨⟨h1, h2⟩, h3⟩, h4⟩, h5⟩, h6⟩, h7⟩, h8⟩ := h
      have ht : tgIn t kl := by
        cases t with
        | one i => exact show i ∈ kl by simpa using h8
        | many is => exact fun i hi => by simpa using List.all_eq_true.mp h8 i hi
      have bo := blkOk_by h1
      rw [← ok.nm] at bo
      have bo : BlkOk X.N X.env.scope scope (kl.map fun i => (X.N.getD i default, i)) := by rw [ok.scp]; exact bo
      have pi := soundI it ok h3
      have pg : ∀ (s : Shared) (H : Hp) (C : Addr) (cl : List (Str × Addr)) (fp : List Addr), PG (X.blk s H scope (compEnvC scope cl C X.env) fp) tg (tTg ⟨X.K, noW, cls⟩ ⟨call, P.glob, io, fl⟩ t) := fun s H C cl fp =>
        pg_tg (X := X.blk s H scope (compEnvC scope cl C X.env) fp) rfl ok.calm ok.nd (tgOk_blk ok) (by rw [← ok.nm] at h2; exact h2)
      have pt : ∀ (s : Shared) (H : Hp) (C : Addr) (cl : List (Str × Addr)) (fp : List Addr), PTs (X.blk s H scope (compEnvC scope cl C X.env) fp) ifs (tT ⟨X.K, noW, cls⟩ ⟨call, P.glob, io, fl⟩ (evCs ⟨call, P.glob, io, fl⟩ ic)) := fun s H C cl fp => by
        have hp := (soundEs ic (ok.blk scope s H C cl fp) h6).1
        cases ic with
        | nil =>
          cases ifs with
          | nil => exact PTs.of pts_nil fun σ H Q ⟨B, Γ, Θ, S, io, p⟩ => by rw [evCs] at p; exact p H S
          | cons c cs => rw [ckEs] at h6; cases h6
        | cons a as =>
          cases ifs with
          | nil => rw [ckEs] at h6; cases h6
          | cons c cs =>
            cases cs with
            | cons d ds => simp at h5
            | nil =>
              cases hp with
              | cons p1 r => exact PTs.of (pts_one p1.pt) fun σ H Q q => test_rel q
      have pe : ∀ (s : Shared) (H : Hp) (C : Addr) (cl : List (Str × Addr)) (fp : List Addr), PE (X.blk s H scope (compEnvC scope cl C X.env) fp) elt (tV ⟨X.K, noW, cls⟩ ⟨call, P.glob, io, fl⟩ (evE ⟨call, P.glob, io, fl⟩ ie)) := fun s H C cl fp =>
        (soundE ie (ok.blk scope s H C cl fp) h7).pe
      have hs : ∀ x, foldedSetIterable iter X.env x = pure x := by
        intro x
        cases iter <;> first | rfl | cases h4
      refine (pb_plain (pe_lc ok.calm ok.nd pi bo pg pt pe hs) (fun _ _ => rfl) fun _ _ _ z => by cases z).of fun σ H Q q => ?_
      rw [own_ix]
      exact comp_rel ht q
    · cases h
  | .mut m i es, X, W, cls, sc, e, ok, h => by
    rw [chkE, ckE] at h; dsimp only at h
    split at h
    · rename_i x p1 m' p as q
      simp only [Bool.and_eq_true, decide_eq_true_eq] at h
      obtain ⟨⟨⟨⟨⟨⟨h0, h1⟩, h2⟩, h3⟩, h4⟩, h5⟩, h6⟩ := h
      have po := name_of (pos := p1) ok.nm ok.scp h3
      have hp := (soundEs es ok h6).2
      subst h1
      refine pb_plain ?_ (fun _ _ => rfl) fun _ _ _ z => by cases z
      cases m with
      | append =>
        match as, h2, hp, h5 with
        | [a], _, hp, h5 =>
          rw [List.all_cons, Bool.and_eq_true] at h5
          exact mut_append po (Paired.imp (fun _ _ z => z.pe) hp) h5.1 h4
      | extend =>
        match as, h2, hp, h5 with
        | [a], _, hp, h5 =>
          rw [List.all_cons, Bool.and_eq_true] at h5
          exact mut_extend po (Paired.imp (fun _ _ z => z.pe) hp) h5.1 h4
      | pop =>
        match as, h2, h6 with
        | [], _, h6 =>
          cases es with
          | nil => exact mut_pop po rfl h4
          | cons a as => rw [ckEs] at h6; cases h6
      | clear =>
        match as, h2, h6 with
        | [], _, h6 =>
          cases es with
          | nil => exact mut_clear po rfl h4
          | cons a as => rw [ckEs] at h6; cases h6
      | _ => cases h0
    · cases h
  | .dget i es, X, W, cls, sc, e, ok, h => by
    rw [chkE, ckE] at h; dsimp only at h
    split at h
    · rename_i x p1 m' p as q
      simp only [Bool.and_eq_true, Bool.or_eq_true, decide_eq_true_eq] at h
      obtain ⟨⟨⟨⟨⟨h1, h2⟩, h3⟩, h4⟩, h5⟩, h6⟩ := h
      have po := name_of (pos := p1) ok.nm ok.scp h3
      have hp := (soundEs es ok h6).1
      subst h1
      exact pb_plain (pe_get (by have := ok.units; omega) po (Paired.imp (fun _ _ z => z.pe) hp) h5 h4 h2) (fun _ _ => rfl) fun _ _ _ z => by cases z
    · cases h
  | .sdf i es, X, W, cls, sc, e, ok, h => by
    rw [chkE, ckE] at h; dsimp only at h
    split at h
    · rename_i x p1 m' p as q
      simp only [Bool.and_eq_true, decide_eq_true_eq] at h
      obtain ⟨⟨⟨⟨⟨h1, h2⟩, h3⟩, h4⟩, h5⟩, h6⟩ := h
      have po := name_of (pos := p1) ok.nm ok.scp h3
      have hp := (soundEs es ok h6).2
      subst h1
      exact pb_plain (pe_sdf po (Paired.imp (fun _ _ z => z.pe) hp) h5 h4 h2) (fun _ _ => rfl) fun _ _ _ z => by cases z
    · cases h
  | .dK0, X, W, cls, sc, e, ok, h => by
    rw [chkE, ckE] at h; dsimp only at h
    split at h
    · exact (pb_plain pe_dnewK (fun _ _ => rfl) fun _ _ _ z => by cases z).of fun σ H Q q => dK0_rel q
    · cases h
  | .dT0, X, W, cls, sc, e, ok, h => by
    rw [chkE, ckE] at h; dsimp only at h
    split at h
    · exact (pb_plain pe_dnewT (fun _ _ => rfl) fun _ _ _ z => by cases z).of fun σ H Q q => dT0_rel q
    · cases h
  | .imm a, X, W, cls, sc, e, ok, h => by
    rw [chkE, ckE] at h; dsimp only at h
    exact (soundE a ok h).of fun σ H Q q => imm_rel q
  | .lent a, X, W, cls, sc, e, ok, h => by
    rw [chkE, ckE] at h; dsimp only at h
    exact (soundE a ok h).of fun σ H Q q => lent_rel q
theorem soundEs : ∀ (ies : IEs) {X : Cx} {W : WX} {cls : Nat → Value} {sc : Scope} {es : List Expr}, XOk cf P call k X W cls sc → chkEs cf sc es ies = true →
    Paired (fun e t => PB X e t) es (tsO ⟨X.K, W, cls⟩ ⟨call, P.glob, io, fl⟩ ies) ∧ Paired (fun e t => PB X e t) es (tsV ⟨X.K, W, cls⟩ ⟨call, P.glob, io, fl⟩ ies)
  | .nil, X, W, cls, sc, es, ok, h => by
    rw [chkEs, ckEs] at h; dsimp only at h
    cases es with
    | nil => exact ⟨.nil, .nil⟩
    | cons e es => cases h
  | .cons ie ies, X, W, cls, sc, es, ok, h => by
    rw [chkEs, ckEs] at h; dsimp only at h
    cases es with
    | nil => cases h
    | cons e es =>
      rw [Bool.and_eq_true] at h
      have h1 := soundE ie ok h.1
      have h2 := soundEs ies ok h.2
      exact ⟨.cons (sound_opd ok h.1 h1) h2.1, .cons h1 h2.2⟩
theorem soundI : ∀ (it : Px.Itr) {X : Cx} {W : WX} {cls : Nat → Value} {sc : Scope} {tg e : Expr}, XOk cf P call k X W cls sc → chkI cf sc tg e it = true → PI X tg e (tI ⟨X.K, W, cls⟩ ⟨call, P.glob, io, fl⟩ (evI ⟨call, P.glob, io, fl⟩ it))
  | .seq a, X, W, cls, sc, tg, e, ok, h => by
    rw [chkI, ckI] at h; dsimp only at h
    exact pi_seq (soundE a ok h).pe
  | .str a, X, W, cls, sc, tg, e, ok, h => by
    rw [chkI, ckI] at h; dsimp only at h
    exact pi_strv (soundE a ok h).pe
  | .rng as, X, W, cls, sc, tg, e, ok, h => by
    rw [chkI, ckI] at h; dsimp only at h
    split at h
    · simp only [Bool.and_eq_true, Bool.or_eq_true, decide_eq_true_eq] at h
      obtain ⟨⟨⟨⟨⟨h1, h2⟩, h3⟩, h4⟩, h5⟩, h6⟩ := h
      subst h1
      obtain ⟨g1, g2⟩ := gl_free ok h2 h3
      exact pi_rng g1 g2 (Paired.imp (fun _ _ z => z.pe) (soundEs as ok h5).1) h4 h6
    · cases h
  | .enum a, X, W, cls, sc, tg, e, ok, h => by
    rw [chkI, ckI] at h; dsimp only at h
    split at h
    · simp only [Bool.and_eq_true, decide_eq_true_eq] at h
      obtain ⟨⟨⟨⟨h1, h2⟩, h3⟩, h4⟩, h5⟩ := h
      subst h1
      obtain ⟨g1, g2⟩ := gl_free ok h2 h3
      exact pi_enumv g1 g2 (soundE a ok h5).pe h4
    · cases h
  | .zip a b, X, W, cls, sc, tg, e, ok, h => by
    rw [chkI, ckI] at h; dsimp only at h
    split at h
    · simp only [Bool.and_eq_true, decide_eq_true_eq] at h
      obtain ⟨⟨⟨⟨⟨⟨h1, h2⟩, h3⟩, h4⟩, h5⟩, h6⟩, h7⟩ := h
      subst h1
      obtain ⟨g1, g2⟩ := gl_free ok h2 h3
      exact pi_zipv g1 g2 (soundE a ok h6).pe (soundE b ok h7).pe h4 h5
    · cases h
  | .rev a, X, W, cls, sc, tg, e, ok, h => by
    rw [chkI, ckI] at h; dsimp only at h
    split at h
    · simp only [Bool.and_eq_true, decide_eq_true_eq] at h
      obtain ⟨⟨⟨⟨h1, h2⟩, h3⟩, h4⟩, h5⟩ := h
      subst h1
      obtain ⟨g1, g2⟩ := gl_free ok h2 h3
      exact pi_revv g1 g2 (soundE a ok h5).pe h4
    · cases h
end
end
end Px
namespace Px
open PySem L2

/-! ### statements against the small language -/
def nameL (cf : Cfg) (sc : Scope) (x : Str) (i : Nat) : Bool := decide (cf.N[i]? = some x) && locB sc x
def noComp : Expr → Bool
  | .ListComp _ _ _ _ => false
  | .SetComp _ _ _ _ => false
  | .DictComp _ _ _ _ _ => false
  | _ => true
def isCell (sc : Scope) (x : Str) : Bool := match sc.names.lookup x with | some .cell => true | _ => false
def isLocal (sc : Scope) (x : Str) : Bool := match sc.names.lookup x with | some .local => true | _ => false
/-- the value is not stored from within a comprehension -/
def swF (sc : Scope) (v : Expr) (x : Str) : Bool := noComp v || (isCell sc x && (match v with | .ListComp _ _ _ _ => true | _ => false))
def swT (sc : Scope) (v : Expr) (x : Str) (py : Pos) : Bool := match v with
  | .ListComp _ _ scope pos => isLocal sc x && (py.line == pos.line) && !(scope.names.any fun (n, k) => n == x && (k == .local || k == .cell))
  | _ => false
def noTuple : Expr → Bool
  | .Tuple _ _ _ => false
  | _ => true
def isComp : IE → Bool
  | .comp _ _ _ _ _ => true
  | _ => false
def augOp : Op → Option Operator
  | .add => some .Add | .sub => some .Sub | _ => none
def isFrz : IS → Bool
  | .frz _ => true
  | _ => false
/-- an except suite: name = constant -/
def suiteB (cf : Cfg) (sc : Scope) (sts : List Stmt) (h : ISs) : Bool := match sts, h with
  | [.Assign [.Name x _] (.Constant c _ _) _], .cons (.asg i (.cst a)) .nil => nameL cf sc x i && constB c a
  | _, _ => false
def aoB (cf : Cfg) (sc : Scope) (mn : Str) : MOp → Option MA → List Expr → Bool
  | .clear, none, [] => decide (mn = ("clear" : Str))
  | .append, some (.cst c), [.Constant cc _ _] => decide (mn = ("append" : Str)) && constB cc c
  | .append, some (.var j), [.Name y _] => decide (mn = ("append" : Str)) && nameB cf sc y j
  | _, _, _ => false
mutual
def ckS (cf : Cfg) : IS → Scope → Stmt → Bool
  | .asg i e => fun sc st => (match st with
    | .Assign [.Name x py] v _ => nameL cf sc x i && chkE cf sc v e && (swF sc v x || (swT sc v x py && isComp e))
    | _ => false)
  | .asgT is e => fun sc st => (match st with
    | .Assign [tg] v _ => tgB cf.N (locB sc) tg (.many is) && noComp v && noTuple v && chkE cf sc v e
    | _ => false)
  | .par _ _ _ _ => fun _ _ => false
  | .aug i o e => fun sc st => (match st with
    | .AugAssign (.Name x _) op v _ => nameL cf sc x i && decide (augOp o = some op) && chkE cf sc v e
    | _ => false)
  | .setIx i k e => fun sc st => (match st with
    | .Assign [.Subscript (.Name x _) kx _] v _ => nameB cf sc x i && noSlice kx && noComp v && chkE cf sc kx k && chkE cf sc v e
    | _ => false)
  | .augIx i o k e => fun sc st => (match st with
    | .AugAssign (.Subscript (.Name x _) kx _) op v _ => nameB cf sc x i && noSlice kx && decide (augOp o = some op) && chkE cf sc kx k && chkE cf sc v e
    | _ => false)
  | .mutAt i k m a => fun sc st => (match st with
    | .Expr (.Call (.Attribute (.Subscript (.Name x _) kx _) mn ap) as [] cp) _ => nameB cf sc x i && noSlice kx && chkE cf sc kx k && decide (ap.endLine = cp.line) && aoB cf sc mn m a as
    | _ => false)
  | .expr e => fun sc st => (match st with
    | .Expr v _ => noComp v && chkE cf sc v e
    | _ => false)
  | .ifs c a b => fun sc st => (match st with
    | .If cx xa xb _ => chkE cf sc cx c && ckSs cf a sc xa && ckSs cf b sc xb
    | _ => false)
  | .whl c b kl => fun sc st => (match st with
    | .While cx xb [] _ => chkE cf sc cx c && ckSs cf b sc xb
    | _ => false)
  | .fr t it b kl => fun sc st => (match st with
    | .For tg iter xb [] _ => tgB cf.N (locB sc) tg t && chkI cf sc tg iter it && noSet iter && ckSs cf b sc xb
    | _ => false)
  | .ret e => fun sc st => (match st with
    | .Return (some v) _ => chkE cf sc v e
    | _ => false)
  | .retN => fun sc st => (match st with
    | .Return none _ => true
    | _ => false)
  | .rais c => fun sc st => (match st with
    | .Raise (some (.Call (.Name x _) [.Constant (.str _) _ _] [] _)) none _ => decide (cf.ex[c]? = some x) && glB sc x && plainB x
    | _ => false)
  | .tr b c h => fun sc st => (match st with
    | .Try xb [.ExceptHandler (some (.Name x _)) none xh _] [] [] _ => decide (cf.ex[c]? = some x) && glB sc x && plainB x && ckSs cf b sc xb && suiteB cf sc xh h
    | _ => false)
  | .brk => fun sc st => (match st with
    | .Break _ => true
    | _ => false)
  | .cnt => fun sc st => (match st with
    | .Continue _ => true
    | _ => false)
  | .pas => fun sc st => (match st with
    | .Pass _ => true
    | .Expr (.Constant (.str _) _ _) _ => true
    | _ => false)
  | .frz _ => fun _ _ => false
def ckSs (cf : Cfg) : ISs → Scope → List Stmt → Bool
  | .nil => fun sc sts => (match sts with | [] => true | _ => false)
  | .cons s ss => fun sc sts => bif isFrz s then ckSs cf ss sc sts else (match sts with
    | st :: sts => ckS cf s sc st && ckSs cf ss sc sts
    | [] => false)
end

/-! ### readings -/
def wS (r : Rd0) (B : Base) : Nat → Gam → Prop := fun c Γ' => ∀ σ' H', SatE r.K B Γ' [] σ' H' → r.W (r.cls c) none σ' H'
def endS (r : Rd0) (B : Base) (D : Ends) : Fl → Gam → Prop := fun f Γ' => match f with
  | .nx => ∀ σ' H', SatE r.K B Γ' [] σ' H' → D.nx σ' H'
  | .bk => ∀ σ' H', SatE r.K B Γ' [] σ' H' → D.bk σ' H'
  | .ct => ∀ σ' H', SatE r.K B Γ' [] σ' H' → D.ct σ' H'
  | .rt x => ∀ v σ' H', SatE r.K B Γ' [(v, x)] σ' H' → D.rt v H'
def tS (r : Rd0) (C : Ctx) (f : Gam → R Fl) : TS := fun D σ H => ∃ B Γ, SatE r.K B Γ [] σ H ∧ IoIn B C ∧ (f Γ).post (wS r B) (endS r B D)
section
variable {r : Rd0} {C : Ctx} {En : Ends} {σ : St} {H : Hp}
theorem wS_E {B : Base} {c : Nat} {Γ : Gam} (h : wS r B c Γ) : wE r B [] σ c Γ := fun H' S => h σ H' S
theorem tS_seq {s : IS} {ss : ISs} (h : tS r C (evSs C (.cons s ss)) En σ H) : tSeq (tS r C (evS C s)) (tS r C (evSs C ss)) En σ H := by
  obtain ⟨B, Γ, S, io, p⟩ := h
  refine ⟨B, Γ, S, io, ?_⟩
  rw [evSs] at p
  refine post_imp (post_bind.mp p) (fun _ _ z => z) fun f Γ' q => ?_
  cases f with
  | nx => exact fun σ' H' S' => ⟨B, Γ', S', io, q⟩
  | bk => exact q
  | ct => exact q
  | rt x => exact q
theorem ret_rel {e : IE} (h : tS r C (evS C (.ret e)) En σ H) : tRet (tV r C (evE C e)) En σ H := by
  obtain ⟨B, Γ, S, io, p⟩ := h
  refine ⟨B, Γ, [], S, io, ?_⟩
  rw [evS] at p
  exact post_imp (post_bind.mp p) (fun _ _ z => wS_E z) fun x Γ' q v H' S' => q v σ H' S'
theorem retN_rel (h : tS r C (evS C .retN) En σ H) : tRetN En σ H := by
  obtain ⟨B, Γ, S, io, p⟩ := h
  rw [evS] at p
  exact p _ σ H (no_ok (a := .non) S)
theorem expr_rel {e : IE} (h : tS r C (evS C (.expr e)) En σ H) : tDrop (tV r C (evE C e)) En σ H := by
  obtain ⟨B, Γ, S, io, p⟩ := h
  refine ⟨B, Γ, [], S, io, ?_⟩
  rw [evS] at p
  exact post_imp (post_bind.mp p) (fun _ _ z => wS_E z) fun x Γ' q v H' S' => q σ H' S'.drop0
theorem asg_rel {i : Nat} {e : IE} (h : tS r C (evS C (.asg i e)) En σ H) : tAsg (tV r C (evE C e)) (gName i) En σ H := by
  obtain ⟨B, Γ, S, io, p⟩ := h
  refine ⟨B, Γ, [], S, io, ?_⟩
  rw [evS] at p
  split at p
  · exact p.elim
  · rename_i n1
    refine post_imp (post_bind.mp p) (fun _ _ z => wS_E z) fun x Γ' q v H' S' => ?_
    split at q
    · rename_i hi
      exact q _ H' (SatE.store (Θ := []) S' hi fun p hp e => n1 (e ▸ io p hp))
    · exact q.elim
theorem go_noexc {fz : Bool} {E : Nat → Gam → Prop} {Q : Unit → Gam → Prop} : ∀ {is : List Nat} {ds : List D} {Γ : Gam}, (setTgt.go C fz is ds Γ).post E Q → (setTgt.go C fz is ds Γ).post (fun _ _ => False) Q
  | [], ds, Γ, h => by unfold setTgt.go at h ⊢; cases ds <;> exact h
  | i :: is, [], Γ, h => by
    have h : Q () Γ := by unfold setTgt.go at h; exact h
    unfold setTgt.go; exact h
  | i :: is, d :: ds, Γ, h => by
    unfold setTgt.go at h ⊢
    split at h
    · exact (show False from h).elim
    · rename_i n1
      rw [if_neg n1]
      split at h
      · rename_i n2
        rw [if_pos n2]
        exact go_noexc (is := is) h
      · exact h.elim
theorem setTgt_noexc {t : Tgt} {x : Val} {Γ : Gam} {E : Nat → Gam → Prop} {Q : Unit → Gam → Prop} (h : (setTgt C t x Γ).post E Q) : (setTgt C t x Γ).post (fun _ _ => False) Q := by
  cases t with
  | one i =>
    have h : (if i ∈ C.io then R.bad else if i < Γ.length then R.ok () (Γ.set i (some x)) else R.bad : R Unit).post E Q := h
    show (if i ∈ C.io then R.bad else if i < Γ.length then R.ok () (Γ.set i (some x)) else R.bad : R Unit).post (fun _ _ => False) Q
    split at h
    · exact h.elim
    · rename_i n1
      rw [if_neg n1]
      split at h
      · rename_i n2; rw [if_pos n2]; exact h
      · exact h.elim
  | many is =>
    have e : setTgt C (.many is) x Γ = (match x.ow, x.d with
          | .no, .nd .tup ds => if ds.length = is.length then setTgt.go C x.fz is ds Γ else .bad
          | .no, .nd .lst ds => if ds.length = is.length then setTgt.go C x.fz is ds Γ else .bad
          | _, _ => .bad : R Unit) := rfl
    rw [e] at h ⊢
    split at h
    · split at h
      · rename_i n; rw [if_pos n]; exact go_noexc h
      · exact h.elim
    · split at h
      · rename_i n; rw [if_pos n]; exact go_noexc h
      · exact h.elim
    · exact h.elim
theorem asgT_rel {is : List Nat} {e : IE} (h : tS r C (evS C (.asgT is e)) En σ H) : tAsg (tV r C (evE C e)) (tTg r C (.many is)) En σ H := by
  obtain ⟨B, Γ, S, io, p⟩ := h
  refine ⟨B, Γ, [], S, io, ?_⟩
  rw [evS] at p
  refine post_imp (post_bind.mp p) (fun _ _ z => wS_E z) fun x Γ' q v H' S' => ?_
  split at q
  · obtain ⟨G, ρ, S'⟩ := S'
    have S2 := Sat.lentT (Θ := []) S'
    exact ⟨B, Γ', [], lend x, S2, io, post_imp (setTgt_noexc (post_bind.mp q)) (fun _ _ z => z) fun _ Γ2 q σ' S3 _ => q σ' H' S3⟩
  · exact q.elim
theorem if_rel {c : IE} {a b : ISs} (h : tS r C (evS C (.ifs c a b)) En σ H) : tIfS (tTest (tO r C (fun Γ => opdOf c Γ (evE C c Γ)))) (tS r C (evSs C a)) (tS r C (evSs C b)) En σ H := by
  refine evT_rel ?_
  obtain ⟨B, Γ, S, io, p⟩ := h
  refine ⟨B, Γ, [], S, io, ?_⟩
  rw [evS] at p
  refine post_imp (post_bind.mp p) (fun _ _ z => wS_E z) fun t Γ' q H' S' => ?_
  cases t with
  | true => exact ⟨B, Γ', S', io, q⟩
  | false => exact ⟨B, Γ', S', io, q⟩
theorem opd_at {K : W.Frag} {B : Base} {Γ' : Gam} {Θ Ts : List (V × Val)} {o : Opd} {v : V} {y : Val} {a : At} (S : SatE K B Γ' (Θ ++ Ts) σ H) (hO : OpdsR σ [o] [v] Ts) (h : getD1 Γ' o = some y) (e : y.d = .at a) : v = atV a := by
  obtain ⟨G, ρ, S⟩ := S
  cases hO with
  | v r =>
    cases r
    cases h
    exact (last_ok S).at_inv e
  | b hv r => exact (slot_at S h hv).at_inv e
  | m hv r => cases h
def augF (o : Op) (i j : Int) : Int := match o with
  | .sub => i - j
  | _ => i + j
theorem aug_int {o : Op} {a : At} {d : D} {n : Int} (ho : augOk o = true) (h : opSem o [.at a, d] = some (.at (.int n))) : ∃ i j, a = .int i ∧ d = .at (.int j) ∧ n = augF o i j := by
  cases o <;> first | cases ho | skip
  · have h : dAdd (.at a) d = some (.at (.int n)) := h
    cases a <;> rcases d with b | ⟨t, xs⟩ <;> first
      | (cases b <;> first
        | (cases h; exact ⟨_, _, rfl, rfl, rfl⟩)
        | (simp [dAdd] at h))
      | (simp [dAdd] at h)
  · have h : dSub (.at a) d = some (.at (.int n)) := h
    cases a <;> rcases d with b | ⟨t, xs⟩ <;> first
      | (cases b <;> first
        | (cases h; exact ⟨_, _, rfl, rfl, rfl⟩)
        | (simp [dSub] at h))
      | (simp [dSub] at h)
theorem aug_rel {i : Nat} {o : Op} {e : IE} (h : tS r C (evS C (.aug i o e)) En σ H) : tAug i (tO r C (fun Γ => opdOf e Γ (evE C e Γ))) (ipI (augF o)) En σ H := by
  obtain ⟨B, Γ, S, io, p⟩ := h
  rw [evS] at p
  split at p
  · exact p.elim
  · rename_i n1
    rw [not_or] at n1
    obtain ⟨n1, n2⟩ := n1
    have n2 : augOk o = true := by simpa using n2
    cases ex : slotG Γ i with
    | none => rw [ex] at p; exact p.elim
    | some x =>
      rw [ex] at p
      have p : (match x.d with
        | .at a => (opdOf e Γ (evE C e Γ)).bind fun oe Γ' => match getD1 Γ' oe with
          | some y => match opSem o [.at a, y.d] with
            | some (.at (.int r)) => if i < Γ'.length then .ok .nx (Γ'.set i (some ⟨.no, false, .int r⟩)) else .bad
            | _ => .bad
          | none => .bad
        | _ => .bad : R Fl).post (wS r B) (endS r B En) := p
      split at p
      · rename_i a ed
        have S' := S
        obtain ⟨G, ρ, S'⟩ := S'
        obtain ⟨v, hv, ok⟩ := sig_of S' ex
        refine ⟨v, hv, B, Γ, [], S, io, post_imp (post_bind.mp p) (fun _ _ z => wS_E z) fun oe Γ' q w Ts H' hO S2 => ?_⟩
        split at q
        · rename_i y ey
          split at q
          · rename_i n en
            split at q
            · rename_i hi
              obtain ⟨i1, j1, rfl, ed2, en2⟩ := aug_int n2 en
              subst en2
              refine ⟨i1, j1, ok.at_inv ed, opd_at S2 hO ey ed2, ?_⟩
              exact q _ H' (SatE.store (Θ := []) (no_ok (a := .int _) S2.drop0) hi fun p hp e => n1 (e ▸ io p hp))
            · exact q.elim
          · exact q.elim
        · exact q.elim
      · exact p.elim
end
section
variable {K : W.Frag} {B : Base} {Γ : Gam} {Θ Ts : List (V × Val)} {σ : St} {G G' H H' : Hp} {ρ : Nat → List Addr} {R : List Addr} {v w : V} {x y : Val} {d : D} {ds es : List D} {vs : List V}
theorem split_at {α : Type} : ∀ {l : List α} {j : Nat}, j < l.length → ∃ a x b, l = a ++ x :: b ∧ a.length = j
  | [], j, h => by simp at h
  | x :: l, 0, _ => ⟨[], x, l, rfl, rfl⟩
  | x :: l, j + 1, h => by
    obtain ⟨a, y, b, rfl, hl⟩ := split_at (l := l) (j := j) (by simpa using h)
    exact ⟨x :: a, y, b, rfl, by simp [hl]⟩
theorem set_mid {α : Type} {a b : List α} {x y : α} : (a ++ x :: b).set a.length y = a ++ y :: b := by simp
/-- x[k] = y -/
theorem SatE.setIx {i : Nat} {kv x' r : Val} (S : SatE K B Γ (Θ ++ [(w, y)]) σ H) (hx : slotG Γ i = some x) (ho : x.ow ≠ .no) (hl0 : ∃ ds, x.d = .lst ds) (hm : mutV .setIx x [y, kv] = some (r, x')) :
    ∃ p vs n j, σ[i]? = some (some (.ref p)) ∧ H p = some (.lst vs) ∧ kv.d = .at (.int n) ∧ ixN vs.length n = some j ∧ SatE K B (Γ.set i (some x')) Θ σ (upd H p (.lst (vs.set j w))) := by
  obtain ⟨G, ρ, S⟩ := S
  obtain ⟨ds0, hl0⟩ := hl0
  replace hm : (match x.d, kv.d with
    | .nd .lst ds, .at (.int i) => (ixN ds.length i).map fun j => (⟨.no, false, .non⟩, ⟨joinOw x.ow y.ow, x.fz || y.fz, .lst (ds.set j y.d)⟩)
    | _, _ => none : Option (Val × Val)) = some (r, x') := by
    rw [← hm]
    show _ = (match x.d, kv.d with
      | .nd .lst ds, .at (.int i) => (ixN ds.length i).map fun j => (⟨.no, false, .non⟩, ⟨joinOw x.ow y.ow, x.fz || y.fz, .lst (ds.set j y.d)⟩)
      | .nd (.dK ks) ds, k => putD x y ks ds (keyOf k) .dK
      | .nd (.dT ks) ds, .nd .tup es => putD x y ks ds (keysOf es) .dT
      | _, _ => none : Option (Val × Val))
    rw [hl0]
    rcases kv.d with a | ⟨t, xs⟩
    · cases a <;> rfl
    · rfl
  split at hm
  · rename_i ds n hd ek
    cases hj : ixN ds.length n with
    | none => rw [hj] at hm; cases hm
    | some j =>
      rw [hj] at hm
      cases hm
      obtain ⟨p, vs, R, hv, eR, hH, r, hz, nd, np⟩ := S.listAt hx ho hd
      have oky := last_ok S
      have hl := r.length
      have hlt : j < ds.length := (ixN_seq hj).2.1
      obtain ⟨d1, d0, d2, rfl, hl1⟩ := split_at hlt
      obtain ⟨R1, R2, us, ws, rfl, rfl, r1, r2⟩ := r.split
      obtain ⟨R3, R4, u0, us2, rfl, rfl, r3, r4⟩ := r2.inv_cons
      have hu := r1.length
      refine ⟨p, _, n, j, hv, hH, ek, by rw [hl]; exact hj, ?_⟩
      have ej : us.length = j := hu.trans hl1
      rw [← ej, set_mid, ej, ← hl1, set_mid]
      have nd1 := List.nodup_append.mp nd
      have nd2 := List.nodup_append.mp nd1.2.1
      have inR : ∀ a ∈ R1 ++ (R3 ++ R4), a ∈ ρ i := fun a z => by rw [eR]; exact List.mem_cons_of_mem _ z
      have hi : i < Γ.length := (List.getElem?_eq_some_iff.mp (slotG_some.mp hx)).1
      have apart : ∀ a, a ∈ ρ i → a ∉ ρ (Γ.length + Θ.length) := fun a z1 z2 => by
        have := S.dis i _ a z1 z2
        omega
      refine ⟨G, _, S.putList (o := joinOw x.ow y.ow) (f := x.fz || y.fz) (R' := R1 ++ (ρ (Γ.length + Θ.length) ++ R4)) hx hv eR hH (List.nodup_append.mpr ⟨nd1.1, List.nodup_append.mpr ⟨S.nod _, nd2.2.1, fun a h1 b h2 e => ?_⟩, fun a h1 b h2 e => ?_⟩) (fun a z => ?_)
        (Reps.append (Reps.cons (Rep.monoG (gx_imp fun z => by rw [z, Bool.or_true]) _ oky.1) (Reps.monoG (gx_imp fun z => by rw [z]; rfl) _ r4)) (Reps.monoG (gx_imp fun z => by rw [z]; rfl) _ r1)) (joinOw_no ho) (fun z => ?_)⟩
      · subst e
        exact apart a (inR a (List.mem_append_right _ (List.mem_append_right _ h2))) h1
      · subst e
        rcases List.mem_append.mp h2 with h2 | h2
        · exact apart a (inR a (List.mem_append_left _ h1)) h2
        · exact nd1.2.2 a h1 a (List.mem_append_right _ h2) rfl
      · rcases List.mem_append.mp z with z | z
        · exact .inl (List.mem_append_left _ z)
        · rcases List.mem_append.mp z with z | z
          · exact .inr ⟨_, Nat.le_refl _, z⟩
          · exact .inl (List.mem_append_right _ (List.mem_append_right _ z))
      · obtain ⟨z1, z2⟩ := joinOw_top z
        have := hz z1
        have q1 := List.append_eq_nil_iff.mp this
        have q2 := List.append_eq_nil_iff.mp q1.2
        rw [q1.1, oky.2.1 z2, q2.2]
        rfl
  · cases hm
end
end Px
namespace Px
open PySem L2

/-- where a statement stands -/
structure SOk (cf : Cfg) (P : Prg) (call : Nat → List Nat → List Val → CR) (k : Nat) (X : Cx) (W : WX) (cls : Nat → Value) (sc : Scope) : Prop where
  x : XOk cf P call k X W cls sc
  stk : X.stack = X.env :: X.outer
  frm : X.env.frame = some X.env.locals
  own : PassesOwn (model X.prog X.w) X.A X.env X.xe
  fn : ∀ y, X.fn y = true
  kind : sc.kind = .function
  exc : ∀ c y, cf.ex[c]? = some y → ∃ (C : Addr) (bmB : List Value) (B newId initId : String), cls c = .ref C ∧ ExcBaseFacts B newId initId bmB ∧ PySem.W.excIn X.K C bmB newId = true ∧ X.mg y = some (.ref C) ∧ PySem.W.keepIn X.K (.ref C) = true ∧
    PySem.W.subIn X.K (.ref C) (.type "BaseException") = some true ∧ PySem.W.typeIn X.K (.ref C) = some (.type "type")
  exm : ∀ c c' y, cf.ex[c]? = some y → (c' = c ∨ c = 0) → PySem.W.exmOne X.K (cls c') (cls c) = some true
section
variable {r : Rd0} {C : Ctx} {En : Ends} {σ : St} {H : Hp}
theorem PSet.or {X : Cx} {t t' : TSet} (h : PSet X t) (h' : PSet X t') : PSet X (fun o i v H Q => t o i v H Q ∨ t' o i v H Q) := fun pins s σ H o i v ov iv u Q I r1 r2 r3 q =>
  q.elim (h pins s σ H o i v ov iv u Q I r1 r2 r3) (h' pins s σ H o i v ov iv u Q I r1 r2 r3)
theorem con_at {B : Base} {Γ : Gam} {Θ : List (V × Val)} {i : Nat} (S : SatE r.K B Γ Θ σ H) (h : conAt Γ i = true) : ∃ a, σ[i]? = some (some (.ref a)) := by
  unfold conAt at h
  cases e : slotG Γ i with
  | none => rw [e] at h; cases h
  | some x =>
    rw [e] at h
    dsimp only at h
    obtain ⟨G, ρ, S⟩ := S
    obtain ⟨v, hv, ok⟩ := sig_of S e
    have vw := ok.view S.sub
    split at h
    · rename_i hd
      rw [hd] at vw
      obtain ⟨p, vs, rfl, n1, r1⟩ := view_nd vw
      exact ⟨p, hv⟩
    · rename_i hd
      rw [hd] at vw
      obtain ⟨p, vs, rfl, n1, r1⟩ := view_nd vw
      exact ⟨p, hv⟩
    · rename_i hd
      rw [hd] at vw
      obtain ⟨p, vs, rfl, n1, r1⟩ := view_nd vw
      exact ⟨p, hv⟩
    · cases h
/-- what an operand's value stands for -/
theorem opd_rep {K : W.Frag} {B : Base} {Γ' : Gam} {Θ Ts : List (V × Val)} {o : Opd} {v : V} {y : Val} (S : SatE K B Γ' (Θ ++ Ts) σ H) (hO : OpdsR σ [o] [v] Ts) (h : getD1 Γ' o = some y) : ∃ G0 R0, Same G0 H ∧ Rep K G0 H R0 v y.d := by
  obtain ⟨G, ρ, S⟩ := S
  cases o with
  | v x =>
    cases h
    cases hO with
    | v q =>
      cases q
      have ok := last_ok S
      exact ⟨_, _, gx_same S.sub, ok.1⟩
  | b j =>
    cases hO with
    | b hv q =>
      cases q
      obtain ⟨w, hw, ok⟩ := sig_of S h
      rw [hv] at hw; cases hw
      exact ⟨_, _, gx_same S.sub, ok.1⟩
  | m j => cases h
theorem mset_kind {x y kv : Val} {z : Val × Val} (h : mutV .setIx x [y, kv] = some z) : (∃ ds, x.d = .lst ds) ∨ ∃ t ds, x.d = .nd t ds ∧ t ≠ .lst := by
  cases e : x.d with
  | «at» a =>
    have h : (match x.d, kv.d with
      | .nd .lst ds, .at (.int i) => (ixN ds.length i).map fun j => (⟨.no, false, .non⟩, ⟨joinOw x.ow y.ow, x.fz || y.fz, .lst (ds.set j y.d)⟩)
      | .nd (.dK ks) ds, k => putD x y ks ds (keyOf k) .dK
      | .nd (.dT ks) ds, .nd .tup es => putD x y ks ds (keysOf es) .dT
      | _, _ => none : Option (Val × Val)) = some z := h
    rw [e] at h
    cases h
  | nd t ds =>
    cases t with
    | lst => exact .inl ⟨ds, rfl⟩
    | _ => exact .inr ⟨_, ds, rfl, by simp⟩
theorem setIx_rel {i : Nat} {k e : IE} (h : tS r C (evS C (.setIx i k e)) En σ H) : tAsg (tV r C (evE C e)) (gSub (tVar i) (tO r C (fun Γ => opdOf k Γ (evE C k Γ))) (fun o i v H Q => rSetL o i v H Q ∨ rSetD o i v H Q)) En σ H := by
  obtain ⟨B, Γ, S, io, p⟩ := h
  refine ⟨B, Γ, [], S, io, ?_⟩
  rw [evS] at p
  refine post_imp (post_bind.mp p) (fun _ _ z => wS_E z) fun y Γ1 q w H1 S1 => ?_
  split at q
  · rename_i hl
    obtain ⟨a, hv⟩ := con_at S1 hl
    refine ⟨_, hv, B, Γ1, [(w, y)], S1, io, post_imp (post_bind.mp q) (fun _ _ z => ?_) fun ok Γ2 q kv Ts H2 hO S2 => ?_⟩
    · exact fun H' S' => z σ H' (SatE.drop (Θ := []) S')
    · split at q
      · rename_i kx x ek ex
        split at q
        · exact q.elim
        · rename_i ho
          cases hm : mutV .setIx x [y, kx] with
          | none => rw [hm] at q; exact q.elim
          | some rr =>
            obtain ⟨r1, x'⟩ := rr
            rw [hm] at q
            rcases mset_kind hm with hk | ⟨t, ds, hd, ht⟩
            · obtain ⟨p, vs, n, j, hv2, hH, en, hj, S3⟩ := SatE.setIx (Θ := []) S2.drop ex ho hk hm
              rw [hv] at hv2; cases hv2
              have ekv := opd_at S2 hO ek en
              exact .inl ⟨a, vs, n, j, rfl, ekv, hH, hj, q σ _ S3⟩
            · obtain ⟨p, H', hv2, dp, S3⟩ := SatE.setD (Θ := []) S2.drop ex hd hm ht (opd_rep S2 hO ek)
              rw [hv] at hv2; cases hv2
              exact .inr ⟨a, H', rfl, dp, q σ _ S3⟩
      · exact q.elim
  · exact q.elim
def rGetI (K : W.Frag) : V → V → Hp → VK → Prop := fun o i H Q => ∃ p xs n a, o = .ref p ∧ i = .int n ∧ SqL K H p xs ∧ atI xs n = some (V.int a) ∧ Q (.int a) H
theorem get_listI {X : Cx} : PGet X (rGetI X.K) := by
  intro pins s σ H o i ov iv Q I ro ri h
  obtain ⟨p, xs, n, a, rfl, rfl, hq, he, q⟩ := h
  cases ro
  obtain ⟨t, rfl⟩ := ri
  obtain ⟨its, r, pl, hz⟩ := I.list hq
  obtain ⟨j, h1, h2, h3, h4, h5⟩ := atI_get he
  obtain ⟨w, ew, rw'⟩ := r.get h2
  have hl := r.length
  have hn := line63
  have fin : EP X pins σ Q w s := ⟨.int a, H, I, rw', q⟩
  by_cases h0 : 0 ≤ n
  · have hj : n.toNat = j := by
      rw [seqIndex_of h0 h5] at h1
      exact Option.some.inj h1
    exact wpAny_getItem_list pl.isList h0 (by omega) (by rw [hj]; simpa using ew) fin
  · have hj : (n + (its.toArray.size : Int)).toNat = j := by
      rw [seqIndex_neg (by omega) h4] at h1
      rw [List.size_toArray, ← hl]
      exact Option.some.inj h1
    exact wpAny_getItem_list_neg pl.isList (by omega) (by rw [List.size_toArray] <;> omega) (by omega) (by rw [hj]; simpa using ew) fin
theorem lst_at {B : Base} {Γ : Gam} {Θ : List (V × Val)} {i : Nat} (S : SatE r.K B Γ Θ σ H) (h : lstAt Γ i = true) : ∃ a, σ[i]? = some (some (.ref a)) := by
  unfold lstAt at h
  cases e : slotG Γ i with
  | none => rw [e] at h; cases h
  | some x =>
    rw [e] at h
    dsimp only at h
    obtain ⟨G, ρ, S⟩ := S
    obtain ⟨v, hv, ok⟩ := sig_of S e
    have vw := ok.view S.sub
    split at h
    · rename_i hd
      rw [hd] at vw
      obtain ⟨p, vs, rfl, n1, r1⟩ := view_nd vw
      exact ⟨p, hv⟩
    · cases h
theorem augG_inv {x k : Val} {n a : Int} (h : augG x k = some (n, a)) : k.d = .at (.int n) ∧ x.ow ≠ .deep ∧ ∃ ds, x.d = .lst ds ∧ atI ds n = some (.at (.int a)) := by
  unfold augG at h
  split at h
  · rename_i ds n' e1 e2
    split at h
    · rename_i a' e3
      split at h
      · cases h
      · rename_i ho
        cases h
        exact ⟨e2, ho, ds, e1, e3⟩
    · cases h
  · cases h
theorem augIx_rel {i : Nat} {o : Op} {k e : IE} (h : tS r C (evS C (.augIx i o k e)) En σ H) :
    tAugS (tVar i) (tO r C (fun Γ => opdOf k Γ (evE C k Γ))) (tO r C (fun Γ => opdOf e Γ (evE C e Γ))) (rGetI r.K) (ipI (augF o)) (fun o i v H Q => rSetL o i v H Q ∨ rSetD o i v H Q) En σ H := by
  obtain ⟨B, Γ, S, io, p⟩ := h
  rw [evS] at p
  split at p
  · exact p.elim
  · rename_i n1
    simp only [Bool.or_eq_true, not_or, Bool.not_eq_true', Bool.not_eq_false] at n1
    obtain ⟨n2, n1⟩ := n1
    obtain ⟨a, hv⟩ := lst_at S n1
    refine ⟨_, hv, B, Γ, [], S, io, post_imp (post_bind.mp p) (fun _ _ z => wS_E z) fun ok Γ1 q kv Ts H1 hO S1 => ?_⟩
    split at q
    · rename_i kx x ek ex
      split at q
      · rename_i n a' ea
        obtain ⟨ekx, hod, ds, hd, hat⟩ := augG_inv ea
        have ekv := opd_at S1 hO ek ekx
        subst ekv
        obtain ⟨G, ρ, S1'⟩ := id S1
        obtain ⟨v, hv2, okx⟩ := sig_of S1' ex
        obtain ⟨p', vs, rfl, nR, rr⟩ := okx.kids S1'.sub hod hd
        rw [hv] at hv2; cases hv2
        obtain ⟨v', e1, e2⟩ := atI_rep rr hat
        have := e2.at_inv.1
        subst this
        refine ⟨a, vs, n, a', rfl, rfl, nR.sq, e1, B, Γ1, [], S1.drop, io, post_imp (post_bind.mp q) (fun _ _ z => wS_E z) fun oe Γ2 q w Ts2 H2 hO2 S2 => ?_⟩
        split at q
        · rename_i y x2 ey ex2
          split at q
          · exact q.elim
          · rename_i ho
            split at q
            · rename_i rr' er
              split at q
              · rename_i z x' em
                obtain ⟨i1, j1, e1', ed2, en2⟩ := aug_int n2 er
                cases e1'
                subst en2
                refine ⟨a', j1, rfl, opd_at S2 hO2 ey ed2, ?_⟩
                have S3 : SatE r.K B Γ2 ([] ++ [(V.int (augF o a' j1), ⟨.no, false, .at (.int (augF o a' j1))⟩)]) σ H2 := no_ok (a := .int _) S2.drop0
                rcases mset_kind em with hk | ⟨t, ds2, hd2, ht⟩
                · obtain ⟨p, vs2, n', j, hv3, hH, en, hj, S4⟩ := SatE.setIx (Θ := []) S3 ex2 ho hk em
                  rw [hv] at hv3; cases hv3
                  cases en
                  exact .inl ⟨a, vs2, _, j, rfl, rfl, hH, hj, q σ _ S4⟩
                · obtain ⟨p, H', hv3, dp, S4⟩ := SatE.setD (Θ := []) (u := .int n) S3 ex2 hd2 em ht ⟨H2, [], Same.refl _, .at (.int n)⟩
                  rw [hv] at hv3; cases hv3
                  exact .inr ⟨a, H', rfl, dp, q σ _ S4⟩
              · exact q.elim
            · exact q.elim
        · exact q.elim
      · exact q.elim
    · exact q.elim
end
section
variable {K : W.Frag} {B : Base} {Γ : Gam} {Θ Ts : List (V × Val)} {σ : St} {G H : Hp} {ρ : Nat → List Addr} {R R' : List Addr} {v : V} {x x' : Val}
theorem Sat.setIn {i : Nat} {q : Addr} {o' : HO} (S : Sat K B Γ Θ σ G H ρ) (hx : Γ[i]? = some (some x)) (hv : σ[i]? = some (some v)) (hq : q ∈ ρ i) (hn : R'.Nodup) (hs : ∀ a ∈ R', a ∈ ρ i) (ok : ValOk K G (upd H q o') R' v x') :
    Sat K B (Γ.set i (some x')) Θ σ G (upd H q o') (upr ρ i R') := by
  have hi : i < Γ.length := (List.getElem?_eq_some_iff.mp hx).1
  obtain ⟨op, hop, nt, nf⟩ := S.live hq
  have ht : ∀ a xs, H a = some (.tup xs) → upd H q o' a = some (.tup xs) := fun a xs r => by
    refine (upd_ne ?_).trans r
    rintro rfl
    rw [hop] at r; exact nt _ (Option.some.inj r)
  have keep : ∀ {j : Nat}, j ≠ i → ∀ a ∈ ρ j, upd H q o' a = H a := fun {j} ne a z => upd_ne fun e => ne (S.dis j i a z (e ▸ hq))
  refine ⟨fun a o e => ?_, S.ext, S.fresh, fun a o h1 h2 => ?_, by rw [List.length_set]; exact S.len, fun j y e => ?_, fun j w y e => ?_, fun j => ?_, fun k j a h1 h2 => ?_, fun j a h1 => ?_, fun j hj => ?_, S.io⟩
  · rw [upd_ne (fun z => by rw [z, (S.own i q hq).1] at e; cases e)]
    exact S.sub a o e
  · rw [upd_ne (fun z => by
      rcases (S.own i q hq).2 with q' | q'
      · rw [z, q'] at h1; cases h1
      · exact h2 (z ▸ q'))]
    exact S.frame a o h1 h2
  · by_cases ej : j = i
    · subst ej
      rw [List.getElem?_set_self hi] at e
      cases e
      exact ⟨_, hv, by rw [upr_same]; exact ok⟩
    · rw [List.getElem?_set_ne (Ne.symm ej)] at e
      obtain ⟨w, h1, h2⟩ := S.slot j y e
      rw [upr_ne ej]
      exact ⟨w, h1, h2.stay ht (keep ej)⟩
  · have hj : j < Θ.length := (List.getElem?_eq_some_iff.mp e).1
    rw [List.length_set, upr_ne (by omega)]
    exact (S.temp j w y e).stay ht (keep (j := Γ.length + j) (by omega))
  · unfold upr
    split
    · exact hn
    · exact S.nod j
  · unfold upr at h1 h2
    split at h1 <;> split at h2
    · omega
    · rename_i n1 n2; subst n1; exact S.dis _ j a (hs a h1) h2
    · rename_i n1 n2; subst n2; exact S.dis k _ a h1 (hs a h2)
    · exact S.dis k j a h1 h2
  · unfold upr at h1
    split at h1
    · exact S.own i a (hs a h1)
    · exact S.own j a h1
  · unfold upr
    split
    · rename_i e
      subst e
      rcases hj with hj | hj
      · rw [List.getElem?_set_self hi] at hj; cases hj
      · rw [List.length_set] at hj; omega
    · rename_i ne
      refine S.emp j (hj.imp (fun z => ?_) fun z => by rw [List.length_set] at z; exact z)
      rw [List.getElem?_set_ne (Ne.symm ne)] at z
      exact z
/-- nothing read-only: a list that lies among the items is own -/
theorem Reps.child : ∀ {ds : List D} {j : Nat} {cs : List D} {R : List Addr} {vs : List V}, Reps K noH H R vs ds → ds[j]? = some (.nd .lst cs) → ∃ R1 q Rc R2 ws, R = R1 ++ (q :: Rc) ++ R2 ∧ vs[j]? = some (.ref q) ∧ H q = some (.lst ws) ∧ Reps K noH H Rc ws cs ∧
    ∀ {H' : Hp} {Rc' : List Addr} {cs' : List D}, (∀ a xs, H a = some (.tup xs) → H' a = some (.tup xs)) → (∀ a ∈ R1 ++ R2, H' a = H a) → Rep K noH H' (q :: Rc') (.ref q) (.nd .lst cs') → Reps K noH H' (R1 ++ (q :: Rc') ++ R2) vs (ds.set j (.nd .lst cs'))
  | [], j, cs, R, vs, h, hj => by simp at hj
  | d :: ds, 0, cs, R, vs, h, hj => by
    obtain ⟨Ra, Rb, v, us, rfl, rfl, h1, h2⟩ := h.inv_cons
    have hj : some d = some (.nd .lst cs) := hj
    cases hj
    cases h1 with
    | frz n r =>
      rcases n with n | ⟨o, n⟩ <;> cases n
    | @own t p ws Rc ds n r =>
      refine ⟨[], p, Rc, Rb, ws, rfl, rfl, n, r, fun {H' Rc' cs'} ht ho hr => ?_⟩
      exact .cons hr (h2.stay ht ds fun a z => ho a (by simpa using z))
  | d :: ds, j + 1, cs, R, vs, h, hj => by
    obtain ⟨Ra, Rb, v, us, rfl, rfl, h1, h2⟩ := h.inv_cons
    obtain ⟨R1, q, Rc, R2, ws, rfl, e2, e3, e4, k⟩ := Reps.child h2 (by simpa using hj)
    refine ⟨Ra ++ R1, q, Rc, R2, ws, by simp, by simpa using e2, e3, e4, fun {H' Rc' cs'} ht ho hr => ?_⟩
    have q1 := h1.stay ht d fun a z => ho a (by simp [z])
    have q2 := k ht (fun a z => ho a (by
      rcases List.mem_append.mp z with z | z
      · simp [z]
      · simp [z])) hr
    have := Reps.cons q1 q2
    simpa using this
end
section
variable {K : W.Frag} {B : Base} {Γ : Gam} {Θ Ts : List (V × Val)} {σ : St} {H : Hp} {x x' kv : Val}
def MutPost (K : W.Frag) (B : Base) (Γ : Gam) (Θ : List (V × Val)) (σ : St) (H : Hp) (i : Nat) (m : MOp) (a : Option At) (x' : Val) (q : Addr) (ws : List V) : Prop := match m, a with
  | .clear, none => SatE K B (Γ.set i (some x')) Θ σ (upd H q (.lst []))
  | .append, some a => ws.length < szLim ∧ SatE K B (Γ.set i (some x')) Θ σ (upd H q (.lst (ws ++ [atV a])))
  | _, _ => False
def MutAtR (K : W.Frag) (B : Base) (Γ : Gam) (Θ : List (V × Val)) (σ : St) (H : Hp) (i : Nat) (m : MOp) (a : Option At) (x' kv : Val) : Prop :=
  ∃ n p vs q ws, kv.d = .at (.int n) ∧ σ[i]? = some (some (.ref p)) ∧ (SqL K H p vs ∨ SqT K H p vs) ∧ atI vs n = some (.ref q) ∧ H q = some (.lst ws) ∧ MutPost K B Γ Θ σ H i m a x' q ws
/-- what is written, and where -/
theorem SatE.mutAt {i : Nat} {m : MOp} {a : Option At} (S : SatE K B Γ Θ σ H) (hx : slotG Γ i = some x) (hm : mutAtV m x kv a = some x') : MutAtR K B Γ Θ σ H i m a x' kv := by
  obtain ⟨G, ρ, S⟩ := S
  obtain ⟨v, hv, ok⟩ := S.slot i x (slotG_some.mp hx)
  unfold mutAtV at hm
  split at hm
  · cases hm
  · rename_i hf
    have hf : x.fz = false := by simpa using hf
    obtain ⟨ox, fx, dx⟩ := x
    dsimp only at hf hm
    subst hf
    have ok0 := ok
    obtain ⟨o1, o2, o3, o4⟩ := ok
    have o1 : Rep K noH H (ρ i) v dx := o1
    -- what the new value is
    have fin : ∀ {t : NT} {ds : List D} {j : Nat} {cs cs' : List D} {p q : Addr} {vs ws : List V} {Rc R1 R2 : List Addr}, dx = .nd t ds → t = .lst ∨ t = .tup → v = .ref p → ds[j]? = some (.nd .lst cs) → H q = some (.lst ws) → q ∈ ρ i → Reps K noH H Rc ws cs →
        (∀ {H' : Hp} {Rc' : List Addr} {cs' : List D}, (∀ a xs, H a = some (.tup xs) → H' a = some (.tup xs)) → (∀ a ∈ R1 ++ R2, H' a = H a) → Rep K noH H' (q :: Rc') (.ref q) (.nd .lst cs') → (∀ a ∈ ρ i, a ≠ q → a ∉ Rc → H' a = H a) → Rep K noH H' ((ρ i).takeWhile (fun _ => false) ++ (if t = .lst then [p] else []) ++ (R1 ++ (q :: Rc') ++ R2)) v (.nd t (ds.set j (.nd .lst cs')))) →
        ρ i = (if t = .lst then [p] else []) ++ (R1 ++ (q :: Rc) ++ R2) →
        mutC m cs a = some cs' → x' = ⟨ox, false, .nd t (ds.set j (.nd .lst cs'))⟩ →
        MutPost K B Γ Θ σ H i m a x' q ws := by
      intro t ds j cs cs' p q vs ws Rc R1 R2 ed ht ev hj hq hqi rc kf eR hc ex
      have nd := S.nod i
      have ne_tup : ∀ (o' : HO) a xs, H a = some (.tup xs) → upd H q o' a = some (.tup xs) := fun o' a xs r => by
        rw [upd_ne (fun e => by rw [e, hq] at r; cases r)]; exact r
      rw [eR] at nd
      have nq : q ∉ (if t = .lst then [p] else []) ∧ q ∉ R1 ∧ q ∉ Rc ∧ q ∉ R2 := by
        have n1 := List.nodup_append.mp nd
        have n2 := List.nodup_append.mp n1.2.1
        have n3 := List.nodup_append.mp n2.1
        refine ⟨fun z => n1.2.2 q z q (by simp) rfl, fun z => n3.2.2 q z q (by simp) rfl, (List.nodup_cons.mp n3.2.1).1, fun z => n2.2.2 q (by simp) q z rfl⟩
      -- the general write
      have gen : ∀ {ws' : List V} {Rc' : List Addr}, (∀ a ∈ Rc', a ∈ Rc) → Rc'.Nodup → Reps K noH (upd H q (.lst ws')) Rc' ws' cs' → SatE K B (Γ.set i (some x')) Θ σ (upd H q (.lst ws')) := by
        intro ws' Rc' hsub hn hr
        have ho : ∀ a, a ≠ q → upd H q (.lst ws') a = H a := fun a e => upd_ne e
        have rr := kf (ne_tup _) (fun a z => ho a fun e => by
          rcases List.mem_append.mp z with z | z
          · exact nq.2.1 (e ▸ z)
          · exact nq.2.2.2 (e ▸ z)) (Rep.own (show NodeO _ .lst q ws' from upd_same) hr) fun a _ h1 _ => ho a h1
        rw [show (ρ i).takeWhile (fun _ => false) = [] by cases ρ i <;> rfl, List.nil_append] at rr
        have n1 := List.nodup_append.mp nd
        have n2 := List.nodup_append.mp n1.2.1
        have n3 := List.nodup_append.mp n2.1
        have hin : ∀ a ∈ (if t = .lst then [p] else []) ++ (R1 ++ (q :: Rc') ++ R2), a ∈ ρ i := fun a z => by
          rw [eR]
          rcases List.mem_append.mp z with z | z
          · exact List.mem_append_left _ z
          · refine List.mem_append_right _ ?_
            rcases List.mem_append.mp z with z | z
            · refine List.mem_append_left _ ?_
              rcases List.mem_append.mp z with z | z
              · exact List.mem_append_left _ z
              · refine List.mem_append_right _ ?_
                rcases List.mem_cons.mp z with rfl | z
                · exact List.mem_cons_self
                · exact List.mem_cons_of_mem _ (hsub a z)
            · exact List.mem_append_right _ z
        have hsub2 : ((if t = .lst then [p] else []) ++ (R1 ++ (q :: Rc') ++ R2)).Nodup := by
          refine List.nodup_append.mpr ⟨n1.1, List.nodup_append.mpr ⟨List.nodup_append.mpr ⟨n3.1, List.nodup_cons.mpr ⟨fun z => nq.2.2.1 (hsub q z), hn⟩, fun a h1 b h2 e => ?_⟩, n2.2.1, fun a h1 b h2 e => ?_⟩, fun a h1 b h2 e => ?_⟩
          · subst e
            rcases List.mem_cons.mp h2 with rfl | h2
            · exact nq.2.1 h1
            · exact n3.2.2 a h1 a (List.mem_cons_of_mem _ (hsub a h2)) rfl
          · subst e
            rcases List.mem_append.mp h1 with h1 | h1
            · exact n2.2.2 a (List.mem_append_left _ h1) a h2 rfl
            · rcases List.mem_cons.mp h1 with rfl | h1
              · exact nq.2.2.2 h2
              · exact n2.2.2 a (List.mem_append_right _ (List.mem_cons_of_mem _ (hsub a h1))) a h2 rfl
          · subst e
            rcases List.mem_append.mp h2 with h2 | h2
            · rcases List.mem_append.mp h2 with h2 | h2
              · exact n1.2.2 a h1 a (by simp [h2]) rfl
              · rcases List.mem_cons.mp h2 with rfl | h2
                · exact nq.1 h1
                · exact n1.2.2 a h1 a (by simp [hsub a h2]) rfl
            · exact n1.2.2 a h1 a (by simp [h2]) rfl
        subst ex
        refine ⟨G, _, S.setIn (slotG_some.mp hx) hv hqi hsub2 hin ⟨rr, fun z => ?_, fun z => ?_, fun z t' ds' e' hn' => ?_⟩⟩
        · have := o2 z
          rw [this] at hqi; cases hqi
        · obtain ⟨p', t', ds', e1, e2, e3, e4⟩ := o3 z
          subst ed
          cases e3
          rcases ht with rfl | rfl
          · rw [if_pos rfl] at eR
            rw [e2] at eR
            have := congrArg List.length eR
            simp at this
          · exact absurd rfl e4
        · cases e'
          rcases ht with rfl | rfl
          · exact ⟨p, _, ev, by rw [if_pos rfl]; rfl⟩
          · exact absurd rfl hn'
      cases m <;> rcases a with _ | av <;> first | cases hc | skip
      · have hc : (if cs.length < szLim then some (cs ++ [D.at av]) else none) = some cs' := hc
        split at hc
        · rename_i hl
          cases hc
          refine ⟨by rw [rc.length]; exact hl, ?_⟩
          have n1 := List.nodup_append.mp nd
          have n2 := List.nodup_append.mp n1.2.1
          have n3 := List.nodup_append.mp n2.1
          refine gen (Rc' := Rc) (fun _ z => z) (List.nodup_cons.mp n3.2.1).2 ?_
          have r1 : Reps K noH (upd H q (.lst (ws ++ [atV av]))) Rc ws cs := rc.stay (ne_tup _) cs fun b z => upd_ne fun e => nq.2.2.1 (e ▸ z)
          have := Reps.append (Reps.one (.at av)) r1
          simpa using this
        · cases hc
      · exact gen (Rc' := []) (fun _ z => by cases z) List.nodup_nil .nil
    have go : ∀ {t : NT} {ds : List D} {n : Int}, dx = .nd t ds → t = .lst ∨ t = .tup → kv.d = .at (.int n) → ((ixN ds.length n).bind fun j => match ds[j]? with
          | some (.nd .lst cs) => (mutC m cs a).map fun cs' => D.nd t (ds.set j (.nd .lst cs'))
          | _ => none).map (fun d => (⟨ox, false, d⟩ : Val)) = some x' → MutAtR K B Γ Θ σ H i m a x' kv := by
      intro t ds n ed ht ek hm
      cases ej : ixN ds.length n with
      | none => rw [ej] at hm; cases hm
      | some j =>
        rw [ej, Option.bind_some] at hm
        split at hm
        · rename_i cs hj
          cases hc : mutC m cs a with
          | none => rw [hc] at hm; cases hm
          | some cs' =>
            rw [hc] at hm
            cases hm
            subst ed
            obtain ⟨R0, eR⟩ : ∃ R0, R0 = ρ i := ⟨_, rfl⟩
            rw [← eR] at o1
            rcases ht with rfl | rfl
            · cases o1 with
              | frz n r => rcases n with n | ⟨o, n⟩ <;> cases n
              | @own t p vs Rk ds nO r =>
                obtain ⟨R1, q, Rc, R2, ws, e1, e2, e3, e4, kf⟩ := Reps.child r hj
                have hqi : q ∈ ρ i := by rw [← eR, e1]; simp
                refine ⟨n, p, vs, q, ws, ek, hv, .inl (SqL.of nO), ?_, e3, fin (p := p) (R1 := R1) (R2 := R2) (vs := vs) rfl (.inl rfl) rfl hj e3 hqi e4 (fun {H' Rc' cs'} ht ho hr hk => ?_) (by rw [← eR, e1]; rfl) hc rfl⟩
                · unfold atI
                  rw [r.length, ej]
                  exact e2
                · have hp : H' p = H p := hk p (by rw [← eR]; exact List.mem_cons_self) (fun e => by
                    have nd := S.nod i
                    rw [← eR, e1] at nd
                    exact (List.nodup_cons.mp nd).1 (by rw [e]; simp)) (fun z => by
                    have nd := S.nod i
                    rw [← eR, e1] at nd
                    exact (List.nodup_cons.mp nd).1 (by simp [z]))
                  rw [show (ρ i).takeWhile (fun _ => false) = [] by cases ρ i <;> rfl]
                  exact Rep.own (show NodeO H' .lst p vs from hp.trans nO) (kf ht ho hr)
            · cases o1 with
              | @tup p vs R ds nT r =>
                obtain ⟨R1, q, Rc, R2, ws, e1, e2, e3, e4, kf⟩ := Reps.child r hj
                have hqi : q ∈ ρ i := by rw [← eR, e1]; simp
                refine ⟨n, p, vs, q, ws, ek, hv, .inr (SqT.of nT), ?_, e3, fin (p := p) (R1 := R1) (R2 := R2) (vs := vs) rfl (.inr rfl) rfl hj e3 hqi e4 (fun {H' Rc' cs'} ht ho hr hk => ?_) (by rw [← eR, e1]; rfl) hc rfl⟩
                · unfold atI
                  rw [r.length, ej]
                  exact e2
                · rw [show (ρ i).takeWhile (fun _ => false) = [] by cases ρ i <;> rfl]
                  exact Rep.tup (ht _ _ nT) (kf ht ho hr)
              | frz n r => cases n
              | own n r => exact n.elim
        · cases hm
    unfold mutAtD at hm
    split at hm
    · exact go rfl (.inl rfl) (by assumption) hm
    · exact go rfl (.inr rfl) (by assumption) hm
    · cases hm
end
/-! a list one layer down -/
section
variable {r : Rd0} {C : Ctx} {En : Ends} {σ : St} {H : Hp}
def rIxLT (K : W.Frag) : R2 := fun x y H Q => rIxL K x y H Q ∨ rIxT K x y H Q
def tMA : MA → TE
  | .cst a => tC (atV a)
  | .var j => tVar j
def recvT (r : Rd0) (C : Ctx) (i : Nat) (k : IE) : TE := tOp (rIxLT r.K) (tVar i) (tO r C (fun Γ => opdOf k Γ (evE C k Γ)))
theorem mutAt_go {i : Nat} {k : IE} {m : MOp} {a : Option MA} {Q2 : V → Hp → Prop} (h : tS r C (evS C (.mutAt i k m a)) En σ H)
    (fin : ∀ {B : Base} {Γ : Gam} {H1 : Hp} {y : Option At} {x' : Val} {q : Addr} {ws : List V}, SatE r.K B Γ [] σ H1 → aosG Γ a = some y → H1 q = some (.lst ws) → MutPost r.K B Γ [] σ H1 i m y x' q ws → (∀ H', SatE r.K B (Γ.set i (some x')) [] σ H' → En.nx σ H') → Q2 (.ref q) H1) :
    recvT r C i k σ H fun x H1 => Q2 x H1 := by
  obtain ⟨B, Γ, S, io, p⟩ := h
  rw [evS] at p
  split at p
  · rename_i hs
    cases es : slotG Γ i with
    | none => rw [es] at hs; cases hs
    | some x0 =>
      obtain ⟨G, ρ, S0⟩ := id S
      obtain ⟨v, hv, _⟩ := S0.slot i x0 (slotG_some.mp es)
      refine ⟨v, hv, B, Γ, [], S, io, post_imp (post_bind.mp p) (fun _ _ z => wS_E z) fun ok Γ1 q kv Ts H1 hO S1 => ?_⟩
      unfold fMA at q
      split at q
      · rename_i kx x y ek ex ey
        cases hm : mutAtV m x kx y with
        | none => rw [hm] at q; exact q.elim
        | some x' =>
          rw [hm] at q
          obtain ⟨n, p', vs, qq, ws, e1, e2, e3, e4, e5, e6⟩ := SatE.mutAt (Θ := []) S1.drop ex hm
          rw [hv] at e2; cases e2
          have ekv := opd_at S1 hO ek e1
          have f := fin S1.drop ey e5 e6 fun H' S' => q σ H' S'
          rcases e3 with e3 | e3
          · exact .inl ⟨p', vs, n, _, rfl, ekv, e3, e4, f⟩
          · exact .inr ⟨p', vs, n, _, rfl, ekv, e3, e4, f⟩
      · exact q.elim
  · exact p.elim
theorem mutAt_clear {i : Nat} {k : IE} (h : tS r C (evS C (.mutAt i k .clear none)) En σ H) : tDrop (tBM0 r.K "list" rClear (recvT r C i k)) En σ H := by
  refine mutAt_go (Q2 := fun x H1 => tyV r.K "list" x H1 ∧ rClear x [] H1 fun _ H' => En.nx σ H') h fun {B Γ H1 y x' q ws} S ey hq hp k => ?_
  have ey : some none = some y := ey
  cases ey
  exact ⟨.inl ⟨rfl, ws, SqL.of hq⟩, q, ws, rfl, rfl, hq, k _ hp⟩
theorem mutAt_append {i : Nat} {k : IE} {a : MA} (h : tS r C (evS C (.mutAt i k .append (some a))) En σ H) : tDrop (tBM r.K "list" rAppend (recvT r C i k) (seqT [tMA a])) En σ H := by
  refine mutAt_go (Q2 := fun x H1 => tyV r.K "list" x H1 ∧ seqT [tMA a] σ H1 fun xs H2 => rAppend x xs H2 fun _ H' => En.nx σ H') h fun {B Γ H1 y x' q ws} S ey hq hp k => ?_
  have ey : (aoG Γ a).map some = some y := ey
  cases ea : aoG Γ a with
  | none => rw [ea] at ey; cases ey
  | some av =>
    rw [ea] at ey
    cases ey
    obtain ⟨hl, hp⟩ : ws.length < szLim ∧ SatE r.K B (Γ.set i (some x')) [] σ (upd H1 q (.lst (ws ++ [atV av]))) := hp
    have end_ : rAppend (.ref q) [atV av] H1 fun _ H' => En.nx σ H' := ⟨q, ws, atV av, rfl, rfl, hq, hl, k _ hp⟩
    refine ⟨.inl ⟨rfl, ws, SqL.of hq⟩, ?_⟩
    cases a with
    | cst c => cases ea; exact end_
    | var j =>
      unfold aoG at ea
      dsimp only at ea
      split at ea
      · rename_i o f a' es
        cases ea
        obtain ⟨G, ρ, S⟩ := S
        obtain ⟨v, hv, ok⟩ := S.slot j _ (slotG_some.mp es)
        have e := ok.at_inv rfl
        subst e
        exact ⟨_, hv, end_⟩
      · cases ea
end
section
variable {r : Rd0} {C : Ctx} {En : Ends} {σ : St} {H : Hp}
theorem forL_exc {α : Type} : True := trivial
/-- FOR -/
theorem for_rel {t : Tgt} {it : Px.Itr} {b : ISs} {kl : List Nat} (h : tS r C (evS C (.fr t it b kl)) En σ H) : tFor (tI r C (evI C it)) (tTg r C t) (tS r C (evSs C b)) En σ H := by
  obtain ⟨B, Γ, S, io, p⟩ := h
  refine ⟨B, Γ, [], S, io, ?_⟩
  rw [evS] at p
  refine post_imp (post_bind.mp p) (fun _ _ z => wS_E z) fun items Γ1 q J H1 SW => ?_
  let bd : Val → Gam → R Fl := fun x Γ => (setTgt C t x Γ).bind fun _ Γ => evSs C b Γ
  have q : (forL bd (fun Γ => killG Γ kl) items Γ1).post (wS r B) (endS r B En) := q
  refine ⟨fun i m σ H => m = items.length - i ∧ i ≤ items.length ∧ ∃ Γc, SatW r.K B Γc [] σ H J items ∧ (forL bd (fun Γ => killG Γ kl) (items.drop i) Γc).post (wS r B) (endS r B En), ⟨items.length, by simp, Nat.zero_le _, Γ1, SW, q⟩, ?_⟩
  intro i m σ2 H2 ⟨hm, hi, Γc, SC, q⟩
  subst hm
  obtain ⟨B', hB, yl, stp, S0, back⟩ := SC.turn
  have io' : IoIn B' C := fun p hp => io p (hB ▸ hp)
  by_cases hlt : i < items.length
  · refine .inr ⟨(yl i items[i] (List.getElem?_eq_getElem hlt)).1, fun σ' H' => items.length - (i + 1) = items.length - (i + 1) ∧ i + 1 ≤ items.length ∧ ∃ Γc, SatW r.K B Γc [] σ' H' J items ∧ (forL bd (fun Γ => killG Γ kl) (items.drop (i + 1)) Γc).post (wS r B) (endS r B En),
      fun σ' H' z => ⟨items.length - (i + 1), by omega, z⟩, fun x H3 y => ?_⟩
    have S3 := (yl i items[i] (List.getElem?_eq_getElem hlt)).2 x H3 y
    rw [drop_go hlt] at q
    -- a turn's outcome
    have turn : (bd items[i] Γc).post (wS r B') (fun f Γ' => match f with
        | .nx => ∀ σ' H', SatE r.K B' Γ' [] σ' H' → items.length - (i + 1) = items.length - (i + 1) ∧ i + 1 ≤ items.length ∧ ∃ Γc, SatW r.K B Γc [] σ' H' J items ∧ (forL bd (fun Γ => killG Γ kl) (items.drop (i + 1)) Γc).post (wS r B) (endS r B En)
        | .ct => ∀ σ' H', SatE r.K B' Γ' [] σ' H' → items.length - (i + 1) = items.length - (i + 1) ∧ i + 1 ≤ items.length ∧ ∃ Γc, SatW r.K B Γc [] σ' H' J items ∧ (forL bd (fun Γ => killG Γ kl) (items.drop (i + 1)) Γc).post (wS r B) (endS r B En)
        | .bk => ∀ σ' H', SatE r.K B' Γ' [] σ' H' → En.nx σ' H'
        | .rt x => ∀ v σ' H', SatE r.K B' Γ' [(v, x)] σ' H' → En.rt v H') := by
      unfold forL at q
      cases eb : bd items[i] Γc with
      | bad => rw [eb] at q; exact q.elim
      | exc c Γ' =>
        rw [eb] at q
        exact fun σ' H' S' => q σ' H' (back _ _ _ _ S').e
      | ok f Γ' =>
        rw [eb] at q
        cases f with
        | nx => exact fun σ' H' S' => ⟨rfl, hlt, _, back _ _ _ _ (SatE.killG kl S'), q⟩
        | ct => exact fun σ' H' S' => ⟨rfl, hlt, _, back _ _ _ _ (SatE.killG kl S'), q⟩
        | bk => exact fun σ' H' S' => q σ' H' (back _ _ _ _ (SatE.killG kl S')).e
        | rt x => exact fun v σ' H' S' => q v σ' H' (back _ _ _ _ S').e
    have turn : ((setTgt C t items[i] Γc).bind fun _ Γ => evSs C b Γ : R Fl).post _ _ := turn
    refine ⟨B', Γc, [], items[i], S3, io', post_imp (setTgt_noexc (post_bind.mp turn)) (fun _ _ z => z) fun _ Γ4 q σ4 S4 _ => ⟨B', Γ4, S4, io', post_imp q (fun _ _ z => z) fun f Γ5 q => ?_⟩⟩
    cases f with
    | nx => exact q
    | ct => exact q
    | bk => exact q
    | rt x => exact q
  · have e : i = items.length := by omega
    refine .inl ⟨stp i (by omega), ?_⟩
    rw [List.drop_eq_nil_of_le (by omega)] at q
    unfold forL at q
    exact q σ2 H2 (SatE.killG kl SC.e)
/-- WHILE -/
theorem while_rel {c : IE} {b : ISs} {kl : List Nat} (h : tS r C (evS C (.whl c b kl)) En σ H) : tWhile (tTest (tO r C (fun Γ => opdOf c Γ (evE C c Γ)))) (tS r C (evSs C b)) En σ H := by
  obtain ⟨B, Γ, S, io, p⟩ := h
  rw [evS] at p
  refine ⟨fun m σ H => ∃ Γ, SatE r.K B Γ [] σ H ∧ (whlL (evT C c) (evSs C b) (fun Γ => killG Γ kl) m Γ).post (wS r B) (endS r B En), ⟨C.fuel, Γ, S, p⟩, ?_⟩
  intro m σ2 H2 ⟨Γc, S2, q⟩
  cases m with
  | zero => exact (show False from q).elim
  | succ m =>
    refine evT_rel ⟨B, Γc, [], S2, io, ?_⟩
    have q : (match evT C c Γc with
      | .ok true Γ1 => match evSs C b Γ1 with
        | .ok .nx Γ' => whlL (evT C c) (evSs C b) (fun Γ => killG Γ kl) m (killG Γ' kl)
        | .ok .ct Γ' => whlL (evT C c) (evSs C b) (fun Γ => killG Γ kl) m (killG Γ' kl)
        | .ok .bk Γ' => .ok .nx (killG Γ' kl)
        | .ok (.rt y) Γ' => .ok (.rt y) Γ'
        | .exc c Γ' => .exc c Γ'
        | .bad => .bad
      | .ok false Γ1 => .ok .nx (killG Γ1 kl)
      | .exc c Γ' => .exc c Γ'
      | .bad => .bad : R Fl).post (wS r B) (endS r B En) := q
    cases et : evT C c Γc with
    | bad => rw [et] at q; exact q.elim
    | exc c' Γ' =>
      rw [et] at q
      exact fun H' S' => q σ2 H' S'
    | ok t Γ1 =>
      rw [et] at q
      intro H3 S3
      cases t with
      | false =>
        rw [if_neg (by decide)]
        exact q σ2 H3 (SatE.killG kl S3)
      | true =>
        rw [if_pos rfl]
        dsimp only at q
        refine ⟨fun σ' H' => ∃ Γ, SatE r.K B Γ [] σ' H' ∧ (whlL (evT C c) (evSs C b) (fun Γ => killG Γ kl) m Γ).post (wS r B) (endS r B En), fun σ' H' z => ⟨m, by omega, z⟩, B, Γ1, S3, io, ?_⟩
        cases eb : evSs C b Γ1 with
        | bad => rw [eb] at q; exact q.elim
        | exc c' Γ' => rw [eb] at q; exact q
        | ok f Γ' =>
          rw [eb] at q
          cases f with
          | nx => exact fun σ' H' S' => ⟨_, SatE.killG kl S', q⟩
          | ct => exact fun σ' H' S' => ⟨_, SatE.killG kl S', q⟩
          | bk => exact fun σ' H' S' => q σ' H' (SatE.killG kl S')
          | rt x => exact q
end
theorem loc_of {sc : Scope} {x : Str} (h : locB sc x = true) : Loc sc x := by
  unfold locB at h
  split at h
  · rename_i e; exact .inl e
  · rename_i e; exact .inr e
  · cases h
section
variable {cf : Cfg} {P : Prg} {call : Nat → List Nat → List Val → CR} {k : Nat} {X : Cx} {W : WX} {cls : Nat → Value} {sc : Scope}
theorem name_l (ok : SOk cf P call k X W cls sc) {x : Str} {i : Nat} (h : nameL cf sc x i = true) : X.N[i]? = some x ∧ Loc X.env.scope x := by
  unfold nameL at h
  rw [Bool.and_eq_true, decide_eq_true_eq] at h
  rw [ok.x.nm, ok.x.scp]
  exact ⟨h.1, loc_of h.2⟩
theorem tgOk_def (ok : SOk cf P call k X W cls sc) : tgOk X (locB sc) := fun x h => ⟨by rw [ok.x.scp]; exact loc_of h, .inl (ok.fn x)⟩
theorem SOk.tr (ok : SOk cf P call k X W cls sc) {pn : List (Addr × Obj)} {xe : Value → Shared → Prop} {W' : WX} (tk : Takes (X.tr pn xe) W') (own : PassesOwn (model X.prog X.w) X.A X.env xe) : SOk cf P call k (X.tr pn xe) W' cls sc :=
  ⟨⟨ok.x.calm, tk, ok.x.nd, ok.x.nm, ok.x.scp, ok.x.room, ok.x.free, ok.x.glob, ok.x.fns⟩, ok.stk, ok.frm, own, ok.fn, ok.kind, ok.exc, ok.exm⟩
theorem sw_F (ok : SOk cf P call k X W cls sc) {v : Expr} {x : Str} {py : Pos} {l : Nat} (h : swF sc v x = true) : swapsWith v (some (.Name x py)) l X.env = pure false := by
  unfold swF at h
  rw [Bool.or_eq_true] at h
  rcases h with h | h
  · cases v <;> first | rfl | cases h
  · rw [Bool.and_eq_true] at h
    cases v with
    | ListComp elt gs s pos =>
      have hk : X.env.kindOf x = some .cell := by
        show X.env.scope.names.lookup x = _
        rw [ok.x.scp]
        have := h.1
        unfold isCell at this
        split at this
        · rename_i e; exact e
        · cases this
      have hn : (NameKind.cell == NameKind.local) = false := rfl
      unfold swapsWith
      simp [hk, hn]
    | _ => cases h.2
theorem sw_none {v : Expr} {l : Nat} (h : noComp v = true) : swapsWith v none l X.env = pure false := by cases v <;> first | rfl | cases h
theorem sw_sole {tg v : Expr} {l : Nat} (h : noComp v = true) : swapsWithSole [tg] v l X.env = pure false := by cases v <;> first | rfl | cases h
theorem sto_tuple {tg v : Expr} (h : noTuple v = true) : swappedStores [tg] v X.env = pure none := by cases v <;> first | (cases tg <;> rfl) | cases h
theorem sto_sub {o i v : Expr} {p : Pos} : swappedStores [.Subscript o i p] v X.env = pure none := by cases v <;> rfl
theorem ip_of {o : Op} {op : Operator} (h : augOp o = some op) : PIp X op (ipI (augF o)) := by
  cases o <;> cases h
  · exact ip_add
  · exact ip_sub
theorem const_pe {c : Const} {a : At} {j : Nat} {pos : Pos} (h : constB c a = true) : PE X (.Constant c j pos) (tC (atV a)) := by
  cases c <;> cases a <;> first | cases h | skip
  · exact pe_non
  · cases of_decide_eq_true h; exact pe_bl
  · cases of_decide_eq_true h; exact pe_int
  · cases of_decide_eq_true h; exact pe_str
theorem comp_set (ok : SOk cf P call k X W cls sc) {io : List Nat} {fl : Nat} {i : Nat} {x : Str} {py spos : Pos} {v : Expr} {e : IE} (hx : nameL cf sc x i = true) (hw : swT sc v x py = true) (hc : isComp e = true) (h : chkE cf sc v e = true) :
    PS X (.Assign [.Name x py] v spos) (tS ⟨X.K, W, cls⟩ ⟨call, P.glob, io, fl⟩ (evS ⟨call, P.glob, io, fl⟩ (.asg i e))) := by
  cases e with
  | comp ie t it ic kl =>
    rw [chkE, ckE.eq_def] at h; dsimp only at h
    split at h
    · rename_i elt tg iter ifs scope pos
      simp only [Bool.and_eq_true, decide_eq_true_eq] at h
      obtain ⟨⟨⟨⟨⟨⟨⟨h1, h2⟩, h3⟩, h4⟩, h5⟩, h6⟩, h7⟩, h8⟩ := h
      have ht : tgIn t kl := by
        cases t with
        | one i => exact show i ∈ kl by simpa using h8
        | many is => exact fun i hi => by simpa using List.all_eq_true.mp h8 i hi
      have bo := blkOk_by h1
      rw [← ok.x.nm] at bo
      have bo : BlkOk X.N X.env.scope scope (kl.map fun i => (X.N.getD i default, i)) := by rw [ok.x.scp]; exact bo
      have pi := soundI (io := io) (fl := fl) it ok.x h3
      have pg : ∀ (s : Shared) (H : Hp) (C : Addr) (cl : List (Str × Addr)) (fp : List Addr), PG (X.blk s H scope (compEnvC scope cl C X.env) fp) tg (tTg ⟨X.K, noW, cls⟩ ⟨call, P.glob, io, fl⟩ t) := fun s H C cl fp =>
        pg_tg (X := X.blk s H scope (compEnvC scope cl C X.env) fp) rfl ok.x.calm ok.x.nd (tgOk_blk ok.x) (by rw [← ok.x.nm] at h2; exact h2)
      have pt : ∀ (s : Shared) (H : Hp) (C : Addr) (cl : List (Str × Addr)) (fp : List Addr), PTs (X.blk s H scope (compEnvC scope cl C X.env) fp) ifs (tT ⟨X.K, noW, cls⟩ ⟨call, P.glob, io, fl⟩ (evCs ⟨call, P.glob, io, fl⟩ ic)) := fun s H C cl fp => by
        have hp := (soundEs (io := io) (fl := fl) ic (ok.x.blk scope s H C cl fp) h6).1
        cases ic with
        | nil =>
          cases ifs with
          | nil => exact PTs.of pts_nil fun σ H Q ⟨B, Γ, Θ, S, io, p⟩ => by rw [evCs] at p; exact p H S
          | cons c cs => rw [ckEs] at h6; cases h6
        | cons a as =>
          cases ifs with
          | nil => rw [ckEs] at h6; cases h6
          | cons c cs =>
            cases cs with
            | cons d ds => simp at h5
            | nil =>
              cases hp with
              | cons p1 r => exact PTs.of (pts_one p1.pt) fun σ H Q q => test_rel q
      have pe : ∀ (s : Shared) (H : Hp) (C : Addr) (cl : List (Str × Addr)) (fp : List Addr), PE (X.blk s H scope (compEnvC scope cl C X.env) fp) elt (tV ⟨X.K, noW, cls⟩ ⟨call, P.glob, io, fl⟩ (evE ⟨call, P.glob, io, fl⟩ ie)) := fun s H C cl fp =>
        (soundE (io := io) (fl := fl) ie (ok.x.blk scope s H C cl fp) h7).pe
      have hs : ∀ x, foldedSetIterable iter X.env x = pure x := by
        intro x
        cases iter <;> first | rfl | cases h4
      unfold swT at hw
      dsimp only at hw
      simp only [Bool.and_eq_true, Bool.not_eq_true'] at hw
      obtain ⟨⟨w1, w2⟩, w3⟩ := hw
      have hy : X.env.scope.names.lookup x = some .local := by
        rw [ok.x.scp]
        unfold isLocal at w1
        split at w1
        · rename_i e; exact e
        · cases w1
      have hk : X.env.scope.kind = .function := by rw [ok.x.scp]; exact ok.kind
      refine PS.of (ps_setLc (i := i) ok.x.calm ok.x.nd (name_l ok hx).1 hy (sw_true hk hy w2 w3) pi bo pg pt pe hs) fun D σ H q => ?_
      rw [own_ix]
      exact comp_rel ht (asg_rel q)
    · cases h
  | _ => cases hc
end
section
variable {cf : Cfg} {P : Prg} {call : Nat → List Nat → List Val → CR} {k : Nat} {io : List Nat} {fl : Nat}
theorem frz_rel {r : Rd0} {C : Ctx} {i : Nat} {ss : ISs} {D : Ends} {σ : St} {H : Hp} (h : tS r C (evSs C (.cons (.frz i) ss)) D σ H) : tS r C (evSs C ss) D σ H := by
  obtain ⟨B, Γ, S, io, p⟩ := h
  rw [evSs, evS] at p
  exact ⟨B, _, S.lendI i, io, p⟩
mutual
theorem soundS : ∀ (s : IS) {X : Cx} {W : WX} {cls : Nat → Value} {sc : Scope} {st : Stmt}, SOk cf P call k X W cls sc → ckS cf s sc st = true → PS X st (tS ⟨X.K, W, cls⟩ ⟨call, P.glob, io, fl⟩ (evS ⟨call, P.glob, io, fl⟩ s))
  | .asg i e, X, W, cls, sc, st, ok, h => by
    rw [ckS] at h; dsimp only at h
    split at h
    · rename_i x py v pos
      simp only [Bool.and_eq_true, Bool.or_eq_true] at h
      obtain ⟨⟨h1, h2⟩, h3⟩ := h
      rcases h3 with h3 | h3
      · obtain ⟨n1, n2⟩ := name_l ok h1
        exact PS.of (ps_set ok.x.nd n1 n2 (soundE e ok.x h2).pe (sw_F ok h3) (.inl (ok.fn x))) fun D σ H q => asg_rel q
      · exact comp_set ok h1 h3.1 h3.2 h2
    · cases h
  | .asgT is e, X, W, cls, sc, st, ok, h => by
    rw [ckS] at h; dsimp only at h
    split at h
    · simp only [Bool.and_eq_true] at h
      obtain ⟨⟨⟨h1, h2⟩, h3⟩, h4⟩ := h
      rename_i tg v pos
      cases tg <;> first | cases h1 | skip
      exact PS.of (ps_asg (soundE e ok.x h4).pe (pg_tg rfl ok.x.calm ok.x.nd (tgOk_def ok) (by rw [← ok.x.nm] at h1; exact h1)) (sw_sole h2) (sto_tuple h3)) fun D σ H q => asgT_rel q
    · cases h
  | .par _ _ _ _, X, W, cls, sc, st, ok, h => by rw [ckS] at h; cases h
  | .aug i o e, X, W, cls, sc, st, ok, h => by
    rw [ckS] at h; dsimp only at h
    split at h
    · rename_i x p op v pos
      simp only [Bool.and_eq_true, decide_eq_true_eq] at h
      obtain ⟨⟨h1, h2⟩, h3⟩ := h
      obtain ⟨n1, n2⟩ := name_l ok h1
      exact PS.of (ps_aug ok.x.nd n1 n2 (sound_opd ok.x h3 (soundE e ok.x h3)).pe (ip_of h2) (.inl (ok.fn x))) fun D σ H q => aug_rel q
    · cases h
  | .setIx i kx e, X, W, cls, sc, st, ok, h => by
    rw [ckS] at h; dsimp only at h
    split at h
    · rename_i x p1 ixx p2 v p3
      simp only [Bool.and_eq_true] at h
      obtain ⟨⟨⟨⟨h1, h2⟩, h3⟩, h4⟩, h5⟩ := h
      refine PS.of (ps_asg (soundE e ok.x h5).pe (pg_sub (name_of ok.x.nm ok.x.scp h1) (sound_opd ok.x h4 (soundE kx ok.x h4)).pe (PSet.or set_list (set_dict (by have := ok.x.units; omega))) ?_) (sw_sole h3) sto_sub) fun D σ H q => setIx_rel q
      intro v
      cases ixx <;> first | rfl | cases h2
    · cases h
  | .augIx i o kx e, X, W, cls, sc, st, ok, h => by
    rw [ckS] at h; dsimp only at h
    split at h
    · rename_i x p1 ixx p2 op v p3
      simp only [Bool.and_eq_true, decide_eq_true_eq] at h
      obtain ⟨⟨⟨⟨h1, h2⟩, h3⟩, h4⟩, h5⟩ := h
      refine PS.of (ps_augS (name_of ok.x.nm ok.x.scp h1) (sound_opd ok.x h4 (soundE kx ok.x h4)).pe get_listI (sound_opd ok.x h5 (soundE e ok.x h5)).pe (ip_of h3) (PSet.or set_list (set_dict (by have := ok.x.units; omega))) ?_) fun D σ H q => augIx_rel q
      intro ov iv new
      cases ixx <;> first | rfl | cases h2
    · cases h
  | .mutAt i kx m a, X, W, cls, sc, st, ok, h => by
    rw [ckS] at h; dsimp only at h
    split at h
    · rename_i x p1 ixx p2 mn ap as cp p3
      simp only [Bool.and_eq_true, decide_eq_true_eq] at h
      obtain ⟨⟨⟨⟨h1, h2⟩, h3⟩, h4⟩, h5⟩ := h
      have pr : PE X (.Subscript (.Name x p1) ixx p2) (recvT ⟨X.K, W, cls⟩ ⟨call, P.glob, io, fl⟩ i kx) := pe_ix (ix_list.or ix_tup) (name_of ok.x.nm ok.x.scp h1) (sound_opd ok.x h3 (soundE (io := io) (fl := fl) kx ok.x h3)).pe (plainIx h2)
      unfold aoB at h5
      split at h5
      · cases of_decide_eq_true h5
        exact PS.of (ps_expr (pe_bm0 PySem.F.plainAttrs_list PySem.F.slot_list_clear PySem.F.type_list_clear mt_clear pr rfl (by rw [h4]; exact beq_self_eq_true _)) (sw_none rfl)) fun D σ H q => mutAt_clear q
      · rename_i c cc jj pp
        rw [Bool.and_eq_true] at h5
        cases of_decide_eq_true h5.1
        exact PS.of (ps_expr (pe_bm PySem.F.plainAttrs_list PySem.F.slot_list_append PySem.F.type_list_append mt_append pr (pa_seq (.cons (const_pe h5.2) .nil) rfl) rfl (by rfl) (by rw [h4]; exact beq_self_eq_true _) (starEach_of rfl) rfl) (sw_none rfl)) fun D σ H q => mutAt_append (a := .cst c) q
      · rename_i j y pp
        rw [Bool.and_eq_true] at h5
        cases of_decide_eq_true h5.1
        exact PS.of (ps_expr (pe_bm PySem.F.plainAttrs_list PySem.F.slot_list_append PySem.F.type_list_append mt_append pr (pa_seq (.cons (name_of ok.x.nm ok.x.scp h5.2) .nil) rfl) rfl (by rfl) (by rw [h4]; exact beq_self_eq_true _) (starEach_of rfl) rfl) (sw_none rfl)) fun D σ H q => mutAt_append (a := .var j) q
      · cases h5
    · cases h
  | .expr e, X, W, cls, sc, st, ok, h => by
    rw [ckS] at h; dsimp only at h
    split at h
    · rw [Bool.and_eq_true] at h
      exact PS.of (ps_expr (soundE e ok.x h.2).pe (sw_none h.1)) fun D σ H q => expr_rel q
    · cases h
  | .ifs c a b, X, W, cls, sc, st, ok, h => by
    rw [ckS] at h; dsimp only at h
    split at h
    · rw [Bool.and_eq_true, Bool.and_eq_true] at h
      exact PS.of (ps_if (sound_opd ok.x h.1.1 (soundE c ok.x h.1.1)).pt (soundSs a ok h.1.2) (soundSs b ok h.2)) fun D σ H q => if_rel q
    · cases h
  | .whl c b kl, X, W, cls, sc, st, ok, h => by
    rw [ckS] at h; dsimp only at h
    split at h
    · rw [Bool.and_eq_true] at h
      exact PS.of (ps_while ok.own (sound_opd ok.x h.1 (soundE c ok.x h.1)).pt (soundSs b ok h.2)) fun D σ H q => while_rel q
    · cases h
  | .fr t it b kl, X, W, cls, sc, st, ok, h => by
    rw [ckS] at h; dsimp only at h
    split at h
    · rename_i tg iter xb pos
      simp only [Bool.and_eq_true] at h
      obtain ⟨⟨⟨h1, h2⟩, h3⟩, h4⟩ := h
      have hs : ∀ x, foldedSetIterable iter X.env x = pure x := by
        intro x
        cases iter <;> first | rfl | cases h3
      exact PS.of (ps_for ok.own ok.x.calm (soundI it ok.x h2) (pg_tg rfl ok.x.calm ok.x.nd (tgOk_def ok) (by rw [← ok.x.nm] at h1; exact h1)) (soundSs b ok h4) hs) fun D σ H q => for_rel q
    · cases h
  | .ret e, X, W, cls, sc, st, ok, h => by
    rw [ckS] at h; dsimp only at h
    split at h
    · exact PS.of (ps_ret (soundE e ok.x h).pe) fun D σ H q => ret_rel q
    · cases h
  | .retN, X, W, cls, sc, st, ok, h => by
    rw [ckS] at h; dsimp only at h
    split at h
    · exact PS.of ps_retN fun D σ H q => retN_rel q
    · cases h
  | .rais c, X, W, cls, sc, st, ok, h => by
    rw [ckS] at h; dsimp only at h
    split at h
    · simp only [Bool.and_eq_true, decide_eq_true_eq] at h
      obtain ⟨⟨h1, h2⟩, h3⟩ := h
      obtain ⟨C, bmB, B, newId, initId, e1, F, q, gC, kC, s1, s2⟩ := ok.exc c _ h1
      refine PS.of (ps_raise ok.x.calm ok.x.tk (pmk_own F q gC kC (raises_own s1 s2) (gl_of ok.x.scp h2) (plainB_debug h3))) fun D σ H ⟨B, Γ, S, io, p⟩ => ?_
      rw [evS] at p
      have p := p σ H S
      dsimp only at p
      rw [e1] at p
      exact p
    · cases h
  | .tr b c hd, X, W, cls, sc, st, ok, h => by
    rw [ckS] at h; dsimp only at h
    split at h
    · rename_i xb x p xh pos' pos
      simp only [Bool.and_eq_true, decide_eq_true_eq] at h
      obtain ⟨⟨⟨⟨h1, h2⟩, h3⟩, h4⟩, h5⟩ := h
      obtain ⟨C, bmB, B0, newId, initId, e1, F, q0, gC, kC, s1, s2⟩ := ok.exc c _ h1
      unfold suiteB at h5
      split at h5
      · rename_i y p2 cc j p3 p4 i a
        rw [Bool.and_eq_true] at h5
        obtain ⟨n1, n2⟩ := name_l ok h5.1
        have suite : ∀ (a' : Addr) (oe : Obj) (cls' : Value) (d : Option Addr) (pn : List (Addr × Obj)), Zc cls' d oe → (∃ vs, oe.data = .fields vs) → PSs (X.suite a' ((a', oe) :: pn)) [.Assign [.Name y p2] (.Constant cc j p3) p4] (tAsg (tC (atV a)) (gName i)) := fun a' oe cls' d pn _ _ =>
          pss_one (ps_set (X := X.suite a' ((a', oe) :: pn)) ok.x.nd n1 n2 (const_pe h5.2) rfl (.inl (ok.fn y)))
        refine PS.of (ps_try_only (c := .ref C) (tb := fun W => tS ⟨X.K, W, cls⟩ ⟨call, P.glob, io, fl⟩ (evSs ⟨call, P.glob, io, fl⟩ b)) (Wout := W) ok.stk ok.frm ⟨gl_of ok.x.scp h2, plainB_debug h3, .inl gC⟩ ok.x.tk (fun W' pn xe tk own => soundSs b (ok.tr tk own) h4) suite) fun D σ H ⟨B, Γ, S, ioh, p⟩ => ?_
        refine ⟨B, Γ, S, ioh, ?_⟩
        rw [evS] at p
        cases eb : evSs ⟨call, P.glob, io, fl⟩ b Γ with
        | bad => rw [eb] at p; exact p
        | ok f Γ' =>
          rw [eb] at p
          cases f with
          | nx => exact p
          | bk => exact p
          | ct => exact p
          | rt x => exact p
        | exc c' Γ' =>
          rw [eb] at p
          dsimp only at p
          split at p
          · rename_i hc
            refine fun σ' H' S' => ⟨true, by rw [← e1]; exact ok.exm c c' _ h1 hc, fun _ a' _ => ?_, fun z => by cases z⟩
            obtain ⟨B2, q⟩ : ∃ B2 : Unit, tS ⟨X.K, W, cls⟩ ⟨call, P.glob, io, fl⟩ (evS ⟨call, P.glob, io, fl⟩ (.asg i (.cst a))) D σ' H' := by
              refine ⟨(), B, Γ', S', ioh, ?_⟩
              rw [evSs] at p
              refine post_imp (post_bind.mp p) (fun _ _ z => z) fun f Γ2 q => ?_
              cases f with
              | nx => rw [evSs] at q; exact q
              | bk => exact q
              | ct => exact q
              | rt x => exact q
            exact cst_rel (asg_rel q)
          · exact p.elim
      · cases h5
    · cases h
  | .brk, X, W, cls, sc, st, ok, h => by
    rw [ckS] at h; dsimp only at h
    split at h
    · exact PS.of ps_break fun D σ H ⟨B, Γ, S, io, p⟩ => by rw [evS] at p; exact p σ H S
    · cases h
  | .cnt, X, W, cls, sc, st, ok, h => by
    rw [ckS] at h; dsimp only at h
    split at h
    · exact PS.of ps_continue fun D σ H ⟨B, Γ, S, io, p⟩ => by rw [evS] at p; exact p σ H S
    · cases h
  | .pas, X, W, cls, sc, st, ok, h => by
    rw [ckS] at h; dsimp only at h
    split at h
    · exact PS.of ps_pass fun D σ H ⟨B, Γ, S, io, p⟩ => by rw [evS] at p; exact p σ H S
    · exact PS.of ps_doc fun D σ H ⟨B, Γ, S, io, p⟩ => by rw [evS] at p; exact p σ H S
    · cases h
  | .frz _, X, W, cls, sc, st, ok, h => by rw [ckS] at h; cases h
theorem soundSs : ∀ (ss : ISs) {X : Cx} {W : WX} {cls : Nat → Value} {sc : Scope} {sts : List Stmt}, SOk cf P call k X W cls sc → ckSs cf ss sc sts = true → PSs X sts (tS ⟨X.K, W, cls⟩ ⟨call, P.glob, io, fl⟩ (evSs ⟨call, P.glob, io, fl⟩ ss))
  | .nil, X, W, cls, sc, sts, ok, h => by
    rw [ckSs] at h; dsimp only at h
    split at h
    · exact PSs.of pss_nil fun D σ H ⟨B, Γ, S, io, p⟩ => by rw [evSs] at p; exact p σ H S
    · cases h
  | .cons s ss, X, W, cls, sc, sts, ok, h => by
    rw [ckSs] at h; dsimp only at h
    cases hf : isFrz s with
    | true =>
      rw [hf] at h
      have q := soundSs ss ok h
      cases s <;> first | cases hf | skip
      exact PSs.of q fun D σ H q => frz_rel q
    | false =>
      rw [hf] at h
      dsimp only [cond] at h
      split at h
      · rw [Bool.and_eq_true] at h
        exact PSs.of (pss_cons (soundS s ok h.1) (soundSs ss ok h.2)) fun D σ H q => tS_seq q
      · cases h
end
end
end Px
namespace Px
open PySem L2

/-! ### the defs of a law -/
/-- a def: its text, its names, its parameters, its form in the small language -/
structure DE where
  st : Stmt
  N : List Str
  ps : List Str
  D : FD
/-- a def as it stands behind the top -/
structure DefHere (K : W.Frag) (mg : Str → Option Value) (fn gl ex free : List Str) (x : Str) (e : DE) : Prop where
  is : ∃ (a : Addr) (fd : FuncData), Fun K x x e.st a fd ∧ mg x = some (.ref a) ∧ Binds K fd e.ps []
  sc : FnScope e.N e.ps (defScope e.st)
  ck : ckSs ⟨e.N, fn, gl, ex, free⟩ e.D.body (defScope e.st) (defBody e.st) = true
  np : e.D.np = e.ps.length
  nN : e.D.nN = e.N.length
structure Tab (K : W.Frag) (mg : Str → Option Value) (Pg : Prg) (tb : List DE) (cls : Nat → Value) (fn gl ex free : List Str) : Prop where
  fs : Pg.fs = tb.map (·.D)
  fns : ∀ (f : Nat) (x : Str), fn[f]? = some x → ∃ e, tb[f]? = some e ∧ DefHere K mg fn gl ex free x e
  free : ∀ x ∈ free, mg x = none
  glob : ∀ g x, gl[g]? = some x → ∃ u v, mg x = some u ∧ RelV v u ∧ Rep K noH noH [] v (Pg.glob g)
  exc : ∀ c y, ex[c]? = some y → ∃ (C : Addr) (bmB : List Value) (B newId initId : String), cls c = .ref C ∧ ExcBaseFacts B newId initId bmB ∧ PySem.W.excIn K C bmB newId = true ∧ mg y = some (.ref C) ∧ PySem.W.keepIn K (.ref C) = true ∧
    PySem.W.subIn K (.ref C) (.type "BaseException") = some true ∧ PySem.W.typeIn K (.ref C) = some (.type "type")
  exm : ∀ (c c' : Nat) (y : Str), ex[c]? = some y → (c' = c ∨ c = 0) → PySem.W.exmOne K (cls c') (cls c) = some true
theorem outG_at {io : List Nat} {np j : Nat} {Γ : Gam} {y : Val} (h : (outG io np Γ).getD j none = some y) : Γ[j]? = some (some y) := by
  rw [List.getD_eq_getElem?_getD] at h
  cases e : (outG io np Γ)[j]? with
  | none => rw [e] at h; cases h
  | some o =>
    rw [e] at h
    have h : o = some y := h
    subst h
    cases io with
    | nil => cases e
    | cons i io =>
      have e : ((List.range np).map fun j => if j ∈ i :: io then slotG Γ j else none)[j]? = some (some y) := e
      rw [List.getElem?_map] at e
      cases e2 : (List.range np)[j]? with
      | none => rw [e2] at e; cases e
      | some j' =>
        rw [e2] at e
        obtain ⟨hj, hj2⟩ := List.getElem?_eq_some_iff.mp e2
        rw [List.getElem_range] at hj2
        subst hj2
        have e : (if j ∈ i :: io then slotG Γ j else none) = some y := Option.some.inj e
        split at e
        · exact slotG_some.mp e
        · cases e
theorem evF_len {Pg : Prg} {k f : Nat} {D : FD} (hD : Pg.fs[f]? = some D) {is : List Nat} {xs : List Val} (h : evF Pg k f is xs ≠ .bad) : xs.length = D.np ∧ is = D.io ∧ D.np ≤ D.nN := by
  cases k with
  | zero => exact absurd rfl h
  | succ k =>
    unfold evF at h
    rw [hD] at h
    dsimp only at h
    split at h
    · rename_i q; exact q
    · exact absurd rfl h
section
variable {pr : Program} {w : World} {K : W.Frag} {mg : Str → Option Value} {base : Heap} {Pg : Prg} {tb : List DE} {cls : Nat → Value} {fn gl ex free : List Str}
theorem all_fn (T : Tab K mg Pg tb cls fn gl ex free) : ∀ (k f : Nat) (x : Str), fn[f]? = some x → ∃ e a fd, tb[f]? = some e ∧ Fun K x x e.st a fd ∧ mg x = some (.ref a) ∧ PySem.W.keepIn K (.ref a) = true ∧ Binds K fd e.ps [] ∧
    FnOk pr w K mg base (L2.CX pr w) k a fd e.ps (spF K cls (evF Pg k f) e.N e.ps.length) ∧
    (∀ is xs x outs, evF Pg k f is xs = .ok x outs → xs.length = e.ps.length ∧ xs.length ≤ e.N.length) ∧ (∀ is xs c, evF Pg k f is xs = .exc c → xs.length = e.ps.length ∧ xs.length ≤ e.N.length)
  | 0, f, x, hx => by
    obtain ⟨⟨st, N, ps, D⟩, he, ⟨a, fd, F, hm, b⟩, S, hc, h1, h2⟩ := T.fns f x hx
    refine ⟨_, a, fd, he, F, hm, F.kp, b, ⟨fun vs H Q E q => q.1, fun A outer s H args us vs Q E _ _ _ _ q => ?_⟩, (fun is xs y outs e => by cases e), (fun is xs c e => by cases e)⟩
    obtain ⟨_, B, xs, ps', _, _, _, _, q⟩ := q
    exact q.elim
  | k + 1, f, x, hx => by
    obtain ⟨⟨st, N, ps, D⟩, he, ⟨a, fd, F, hm, b⟩, S, hc, h1, h2⟩ := T.fns f x hx
    dsimp only at F b S hc h1 h2
    have hD : Pg.fs[f]? = some D := by rw [T.fs, List.getElem?_map, he]; rfl
    have len : ∀ {is : List Nat} {xs : List Val}, evF Pg (k + 1) f is xs ≠ .bad → xs.length = ps.length ∧ xs.length ≤ N.length := fun {is xs} h => by
      obtain ⟨q1, _, q2⟩ := evF_len hD h
      exact ⟨q1.trans h1, by omega⟩
    refine ⟨_, a, fd, he, F, hm, F.kp, b, F.okX S (fun vs H Q E q => q.1) fun cdv A outer s H vs Q E hr q => ?_, fun is xs y outs e => len (by rw [e]; intro z; cases z), fun is xs c e => len (by rw [e]; intro z; cases z)⟩
    obtain ⟨lv, B, xs, ps', hB, lx, S0, io, q⟩ := q
    let X : Cx := cxOf (L2.CX pr w) pr w K mg base N x (defScope st) a cdv A outer s H E
    have ok : SOk ⟨N, fn, gl, ex, free⟩ Pg (evF Pg k) k X (fun cls d _ H => E cls d H) cls (defScope st) :=
      ⟨⟨rfl, takes_of rfl rfl rfl rfl, S.nd, rfl, rfl, hr, T.free, T.glob, fun f' x' hx' => by
          obtain ⟨e', a', fd', _, _, q1, q2, q3, q4, q5, q6⟩ := all_fn T k f' x' hx'
          exact ⟨a', fd', e'.ps, e'.N, q1, q2, q3, q4, q5, q6⟩⟩,
        rfl, rfl, passes_of rfl, fun _ => rfl, S.kind, T.exc, T.exm⟩
    have body := soundSs (io := D.io) (fl := Pg.fuel) D.body ok hc
    refine ⟨_, body, B, gam0 N.length xs, S0, ?_, ?_⟩
    · intro p hp
      have z := io p hp
      have hne : evF Pg (k + 1) f ps' xs ≠ .bad := fun e => by rw [e] at q; exact q
      rw [(evF_len hD hne).2.1] at z
      exact z
    · have hne : evF Pg (k + 1) f ps' xs ≠ .bad := fun e => by rw [e] at q; exact q
      have hcond := evF_len hD hne
      have ev : evF Pg (k + 1) f ps' xs = retF D (evSs ⟨evF Pg k, Pg.glob, D.io, Pg.fuel⟩ D.body (gam0 D.nN xs)) := by
        conv => lhs; unfold evF
        rw [hD]
        dsimp only
        rw [if_pos hcond]
      rw [ev, h2] at q
      cases eb : evSs ⟨evF Pg k, Pg.glob, D.io, Pg.fuel⟩ D.body (gam0 N.length xs) with
      | bad => rw [eb] at q; exact q.elim
      | exc c Γ' =>
        rw [eb] at q
        exact fun σ' H' S' => q H' ⟨Γ', σ', S'⟩
      | ok f Γ' =>
        rw [eb] at q
        cases f with
        | nx => exact fun σ' H' S' => q .non H' ⟨Γ', σ', no_ok (r := ⟨K, noW, cls⟩) (a := .non) (Θ := []) S', fun j y e => outG_at e⟩
        | rt y => exact fun v σ' H' S' => q v H' ⟨Γ', σ', S', fun j y e => outG_at e⟩
        | bk => exact q.elim
        | ct => exact q.elim
/-- no list stands in the written part -/
def noLists (K : W.Frag) : Bool := K.all fun p => match p.2.cls with | .type T => !(T == "list") | _ => true
theorem noLists_at : ∀ {K : W.Frag} {a : Addr} {o : Obj}, noLists K = true → K.lookup a = some o → o.cls ≠ .type "list"
  | [], a, o, _, h => by cases h
  | (b, ob) :: K, a, o, h, hl => by
    unfold noLists at h
    rw [List.all_cons, Bool.and_eq_true] at h
    rw [List.lookup_cons] at hl
    split at hl
    · cases hl
      intro e
      have h1 := h.1
      dsimp only at h1
      rw [e] at h1
      simp at h1
    · exact noLists_at h.2 hl
/-- what law(script) promises -/
def spL (K : W.Frag) : Sp := fun vs H Q _ => ∃ (a : Addr) (ns : List Int), vs = [.ref a] ∧ Only H ∧ SqL K H a (ns.map V.int) ∧ ns.length ≤ 63 ∧ ∀ v H', v = .bl true → Q v H'
/-- the law's def, asked with a script -/
theorem law_fn (hNL : noLists K = true) (T : Tab K mg Pg tb cls fn gl ex free) {k f : Nat} {x : Str} (hx : fn[f]? = some x)
    (hlaw : ∀ ns : List Int, ns.length ≤ 63 → ∃ outs, evF Pg k f [] [⟨.no, true, .lst (ns.map Px.D.int)⟩] = .ok ⟨.no, false, .bl true⟩ outs) :
    ∃ e a fd, tb[f]? = some e ∧ Fun K x x e.st a fd ∧ mg x = some (.ref a) ∧ FnOk pr w K mg base (L2.CX pr w) k a fd e.ps (spL K) := by
  obtain ⟨e, a, fd, he, F, q1, q2, q3, q4, q5, q6⟩ := all_fn (pr := pr) (w := w) (base := base) T k f x hx
  obtain ⟨outs0, e0⟩ := hlaw [] (by simp)
  have lp := q5 _ _ _ _ e0
  refine ⟨e, a, fd, he, F, q1, q4.imp fun vs H Q E ⟨l, ns, ev, hO, hS, hl, hq⟩ => ?_⟩
  obtain ⟨outs, ee⟩ := hlaw ns hl
  subst ev
  refine ⟨lp.1, ⟨H, H, [], []⟩, [⟨.no, true, .lst (ns.map Px.D.int)⟩], [], rfl, rfl, ?_, (fun p z => by cases z), ?_⟩
  · have hN : 1 ≤ e.N.length := lp.2
    refine ⟨H, fun _ => [], fun a o z => z, fun a o z => z, fun a o z => .inl z, fun a o z _ => z, ?_, fun i y z => ?_, (fun j v y e => by simp at e), fun _ => List.nodup_nil, (fun i j a z => by cases z), (fun i a z => by cases z), fun _ _ => rfl, (fun p z => by cases z)⟩
    · unfold gam0 L2.start
      simp
    · have := gam0_some z
      cases i with
      | zero =>
        cases this
        refine ⟨.ref l, start_get rfl, ?_, fun _ => rfl, (fun z => by cases z), (fun z => by cases z)⟩
        rcases hS with hS | ⟨o, its, n, h1, h2, _⟩
        · exact .frz hS reps_ints
        · exact absurd h2 (noLists_at hNL h1)
      | succ i => simp at this
  · rw [ee]
    intro v H' ⟨Γ', σ', ⟨G, ρ, S⟩, _⟩
    exact hq v H' ((last_ok (Θ := []) S).at_inv (a := .bl true) rfl)
end
/-- THE LAW's END -/
theorem walk_px {l : PySem.W.OpenLaw} {q : Program} {loose : List Str} {XP : (Str → Option Value) → Heap → Prop} {YP : World → Heap → Prop} {d : DefRec} {K : Params → PySem.W.Frag} {k : Nat} {x : Str} (hn : l.most = some 63) (hdf : d.params.defaults = []) (hr : Room k callerA)
    (hY : ∀ (w : World) (h : Heap), YP w h → (K w.params).In h)
    (F : ∀ (w : World) (mg : Str → Option Value) (fa : Addr) (h : Heap), (K w.params).In h → h.Ns mainGlobals mg → mg d.name = some (.ref fa) →
      ∃ fd : FuncData, (∀ (s : Shared) (u : Value), BindsTo s fd ⟨[u], []⟩ [(x, u)]) ∧ ∀ base : Heap, (K w.params).In base → base.Ns mainGlobals mg → FnOk l.prog w (K w.params) mg base (L2.CX l.prog w) k fa fd [x] (spL (K w.params))) :
    PySem.W.WalkO q loose XP YP l.row.toRowW d [] (fun f vs => PySem.call f vs) :=
  L2.walk_of (n := 63) (k := k) (x := x) (CX := fun w => L2.CX l.prog w) (sp := fun w => spL (K w.params)) hn (by decide) hdf hr hY F
    (fun _ H a ns hl hO hS => ⟨a, ns, rfl, hO, hS, hl, fun _ _ e => e⟩) fun _ _ _ _ _ z => by
      obtain ⟨_, _, _, _, _, _, _, _, _, _, _, _, z⟩ := z
      exact z
end Px
namespace Px
open PySem L2

/-! ### from the program's top to the table -/
def DH (K : W.Frag) (x : Str) (st : Stmt) : Prop := ∃ f fd, PySem.W.nsIn K mainGlobals x = some (some (.ref f)) ∧ Fun K x x st f fd
theorem dh_mk {K : W.Frag} {x : Str} {st : Stmt} {f : Addr} {oc : Value} {od an : Option Addr} {osl : Array (Option Value)} {kV doc pm cdv ct : Value} (a : PySem.W.nsIn K mainGlobals x = some (some (.ref f)))
    (l : K.lookup f = some ⟨oc, od, .func (PySem.W.fnOf x x (defArgs st) (defBody st) (defScope st) .none kV doc pm an cdv ct), osl⟩) (c : PySem.W.codeIn K cdv x = true) (k : PySem.W.keepIn K (.ref f) = true) : DH K x st := ⟨f, _, a, fun_mk l c k⟩
def FreeIn (K : W.Frag) : List Str → Prop
  | [] => True
  | x :: xs => PySem.W.nsIn K mainGlobals x = some none ∧ FreeIn K xs
theorem free_of {K : W.Frag} {mg : Str → Option Value} {h : Heap} (X : K.In h) (G : h.Ns mainGlobals mg) : ∀ {xs : List Str}, FreeIn K xs → ∀ x ∈ xs, mg x = none
  | [], _, _, z => by cases z
  | y :: ys, q, x, z => by
    rcases List.mem_cons.mp z with rfl | z
    · exact PySem.W.mg_none_of X G q.1
    · exact free_of X G q.2 x z
/-- an own exception class over ValueError -/
def EH (K : W.Frag) (x : Str) (C : Addr) : Prop := PySem.W.nsIn K mainGlobals x = some (some (.ref C)) ∧ PySem.W.excIn K C [.type "ValueError", .type "Exception", .type "BaseException", .type "object"] "ValueError.__new__" = true ∧ PySem.W.keepIn K (.ref C) = true ∧
  PySem.W.subIn K (.ref C) (.type "BaseException") = some true ∧ PySem.W.typeIn K (.ref C) = some (.type "type")
def clsOf (cs : List Addr) : Nat → Value := fun c => match cs[c]? with
  | some C => .ref C
  | none => .ref (cs.getD 0 0)
def ExIn (K : W.Frag) : List Str → List Addr → Prop
  | [], [] => True
  | x :: xs, C :: cs => EH K x C ∧ ExIn K xs cs
  | _, _ => False
def EmIn (K : W.Frag) (ex : List Str) (cs : List Addr) : Prop := ∀ (c c' : Nat) (y : Str), ex[c]? = some y → (c' = c ∨ c = 0) → PySem.W.exmOne K (clsOf cs c') (clsOf cs c) = some true
theorem em_nil {K : W.Frag} {cs : List Addr} : EmIn K [] cs := fun c c' y h => by simp at h
theorem exIn_get {K : W.Frag} : ∀ {xs : List Str} {cs : List Addr} {c : Nat} {y : Str}, ExIn K xs cs → xs[c]? = some y → ∃ C, cs[c]? = some C ∧ EH K y C
  | [], _, _, _, _, h => by simp at h
  | _ :: _, [], _, _, q, _ => q.elim
  | x :: xs, C :: cs, 0, y, q, h => by
    simp at h; subst h
    exact ⟨C, rfl, q.1⟩
  | x :: xs, C :: cs, c + 1, y, q, h => by
    obtain ⟨D, h1, h2⟩ := exIn_get (c := c) q.2 (by simpa using h)
    exact ⟨D, by simpa using h1, h2⟩
/-- one def of the table: what the text alone shows -/
structure DefOk (fn gl ex free : List Str) (x : Str) (e : DE) : Prop where
  ck : ckSs ⟨e.N, fn, gl, ex, free⟩ e.D.body (defScope e.st) (defBody e.st) = true
  sc : FnScope e.N e.ps (defScope e.st)
  bi : ∀ {K : W.Frag} {a : Addr} {fd : FuncData}, Fun K x x e.st a fd → ∀ us : List Value, us.length = e.ps.length → bindArgs fd ⟨us, []⟩ = pure (e.ps.zip us)
  np : e.D.np = e.ps.length
  nN : e.D.nN = e.N.length
def DefsOk (fn gl ex free : List Str) : List Str → List DE → Prop
  | [], [] => True
  | x :: xs, e :: es => DefOk fn gl ex free x e ∧ DefsOk fn gl ex free xs es
  | _, _ => False
def DefsIn (K : W.Frag) : List Str → List DE → Prop
  | x :: xs, e :: es => DH K x e.st ∧ DefsIn K xs es
  | _, _ => True
theorem defs_get {K : W.Frag} {fn gl ex free : List Str} : ∀ {xs : List Str} {es : List DE} {f : Nat} {x : Str}, DefsOk fn gl ex free xs es → DefsIn K xs es → xs[f]? = some x → ∃ e, es[f]? = some e ∧ DH K x e.st ∧ DefOk fn gl ex free x e
  | [], _, _, _, _, _, h => by simp at h
  | _ :: _, [], _, _, q, _, _ => q.elim
  | y :: ys, e :: es, 0, x, q, r, h => by
    simp at h; subst h
    exact ⟨e, rfl, r.1, q.1⟩
  | y :: ys, e :: es, f + 1, x, q, r, h => by
    obtain ⟨e', h1, h2⟩ := defs_get (f := f) q.2 r.2 (by simpa using h)
    exact ⟨e', by simpa using h1, h2⟩
/-- the module's constants -/
def GlobIn (K : W.Frag) (Pg : Prg) (gl : List Str) : Prop := ∀ (g : Nat) (x : Str), gl[g]? = some x → ∃ u v, PySem.W.nsIn K mainGlobals x = some (some u) ∧ RelV v u ∧ Rep K noH noH [] v (Pg.glob g)
theorem glob_nil {K : W.Frag} {Pg : Prg} : GlobIn K Pg [] := fun g x h => by simp at h
theorem tab_of {K : W.Frag} {mg : Str → Option Value} {h : Heap} (X : K.In h) (G : h.Ns mainGlobals mg) {fn gl ex free : List Str} {Pg : Prg} {tb : List DE} {cs : List Addr} (hP : Pg.fs = tb.map (·.D)) (hk : DefsOk fn gl ex free fn tb) (hd : DefsIn K fn tb) (hf : FreeIn K free)
    (hg : GlobIn K Pg gl) (he : ExIn K ex cs) (hm : EmIn K ex cs) : Tab K mg Pg tb (clsOf cs) fn gl ex free := by
  refine ⟨hP, fun f x hx => ?_, free_of X G hf, fun g x hx => ?_, fun c y hy => ?_, hm⟩
  · obtain ⟨e, he, ⟨a, fd, q1, F⟩, d⟩ := defs_get hk hd hx
    exact ⟨e, he, ⟨a, fd, F, PySem.W.mg_of X G q1, .all (d.bi F)⟩, d.sc, d.ck, d.np, d.nN⟩
  · obtain ⟨u, v, q1, q2, q3⟩ := hg g x hx
    exact ⟨u, v, PySem.W.mg_of X G q1, q2, q3⟩
  · obtain ⟨C, h1, h2, h3, h4, h5, h6⟩ := exIn_get he hy
    refine ⟨C, _, _, _, _, ?_, PySem.F.excBase_ValueError, h3, PySem.W.mg_of X G h2, h4, h5, h6⟩
    unfold clsOf
    rw [h1]
/-- the law's def, its argument bound -/
theorem law_end {l : PySem.W.OpenLaw} {w : World} {K : W.Frag} {h : Heap} {mg : Str → Option Value} {fa : Addr} {s : Str} (hNL : noLists K = true) (X : K.In h) (G : h.Ns mainGlobals mg) (hfa : mg "law" = some (.ref fa)) {fn gl ex free : List Str} {Pg : Prg} {tb : List DE} {cs : List Addr} {k f : Nat} {e : DE}
    (hP : Pg.fs = tb.map (·.D)) (hk : DefsOk fn gl ex free fn tb) (hx : fn[f]? = some ("law" : Str)) (hl : tb[f]? = some e) (hs : e.ps = [s])
    (hlaw : ∀ ns : List Int, ns.length ≤ 63 → ∃ outs, evF Pg k f [] [⟨.no, true, .lst (ns.map D.int)⟩] = .ok ⟨.no, false, .bl true⟩ outs)
    (hd : DefsIn K fn tb) (hf : FreeIn K free) (hg : GlobIn K Pg gl) (he : ExIn K ex cs) (hm : EmIn K ex cs) :
    ∃ fd : FuncData, (∀ (s' : Shared) (v : Value), BindsTo s' fd ⟨[v], []⟩ [(s, v)]) ∧ ∀ base : Heap, K.In base → base.Ns mainGlobals mg → FnOk l.prog w K mg base (L2.CX l.prog w) k fa fd [s] (spL K) := by
  have T := tab_of X G hP hk hd hf hg he hm
  obtain ⟨e', he', ⟨a, fd, q1, F⟩, d⟩ := defs_get hk hd hx
  rw [hl] at he'; cases he'
  have ea := hfa.symm.trans (PySem.W.mg_of X G q1)
  cases ea
  refine ⟨fd, fun s' v => .of_eq ?_, fun base _ _ => ?_⟩
  · have := d.bi F [v] (by rw [hs]; rfl)
    rw [hs] at this
    exact this
  · obtain ⟨e2, a2, fd2, h1, F2, h2, h3⟩ := law_fn (pr := l.prog) (w := w) (base := base) hNL T hx hlaw
    rw [hl] at h1; cases h1
    rw [hfa] at h2; cases h2
    have efd : fd2 = fd := by
      obtain ⟨_, _, _, _, _, _, _, _, _, _, l1, _⟩ := F.ex
      obtain ⟨_, _, _, _, _, _, _, _, _, _, l2, _⟩ := F2.ex
      rw [l1] at l2
      cases l2
      rfl
    subst efd
    rw [hs] at h3
    exact h3
end Px
namespace Px
open PySem L2

/-! ### running the small language by simp -/
theorem evF_at {P : Prg} {k f : Nat} {ps : List Nat} {xs : List Val} {fd : FD} (h : P.fs[f]? = some fd) (h1 : xs.length = fd.np) (h2 : ps = fd.io) (h3 : fd.np ≤ fd.nN) :
    evF P (k + 1) f ps xs = retF fd (evSs ⟨evF P k, P.glob, fd.io, P.fuel⟩ fd.body (gam0 fd.nN xs)) := by
  conv => lhs; unfold evF
  rw [h]
  dsimp only
  rw [if_pos ⟨h1, h2, h3⟩]
theorem evF_at0 {P : Prg} {k f : Nat} {xs : List Val} {fd : FD} (h : P.fs[f]? = some fd) (h1 : xs.length = fd.np) (h2 : fd.io = []) (h3 : fd.np ≤ fd.nN) :
    evF P (k + 1) f [] xs = retF fd (evSs ⟨evF P k, P.glob, [], P.fuel⟩ fd.body (gam0 fd.nN xs)) := by
  rw [evF_at h h1 h2.symm h3, h2]
section
variable {C : Ctx} {Γ Γ' : Gam} {α β : Type}
@[simp] theorem bind_ok {a : α} {f : α → Gam → R β} : (R.ok a Γ).bind f = f a Γ := rfl
@[simp] theorem bind_exc {c : Nat} {f : α → Gam → R β} : (R.exc c Γ : R α).bind f = .exc c Γ := rfl
@[simp] theorem bind_bad {f : α → Gam → R β} : (R.bad : R α).bind f = .bad := rfl
@[simp] theorem bind_ite {c : Prop} [Decidable c] {a b : R α} {f : α → Gam → R β} : (if c then a else b : R α).bind f = if c then a.bind f else b.bind f := by split <;> rfl
@[simp] theorem x_nil : evSs C .nil Γ = .ok .nx Γ := by first | (rw [evSs]; done) | (rw [evSs]; rfl)
theorem x_cons {s : IS} {ss : ISs} : evSs C (.cons s ss) Γ = (evS C s Γ).bind fun f Γ' => match f with | .nx => evSs C ss Γ' | f => .ok f Γ' := by first | (rw [evSs]; done) | (rw [evSs]; rfl)
/-- a statement that comes to its end -/
theorem x_step {s : IS} {ss : ISs} (h : evS C s Γ = .ok .nx Γ') : evSs C (.cons s ss) Γ = evSs C ss Γ' := by rw [x_cons, h]; rfl
theorem x_ret {s : IS} {ss : ISs} {x : Val} (h : evS C s Γ = .ok (.rt x) Γ') : evSs C (.cons s ss) Γ = .ok (.rt x) Γ' := by rw [x_cons, h]; rfl
theorem x_exc {s : IS} {ss : ISs} {c : Nat} (h : evS C s Γ = .exc c Γ') : evSs C (.cons s ss) Γ = .exc c Γ' := by rw [x_cons, h]; rfl
theorem x_out {s : IS} {ss : ISs} {f : Fl} (h : evS C s Γ = .ok f Γ') (hf : f ≠ .nx) : evSs C (.cons s ss) Γ = .ok f Γ' := by
  rw [x_cons, h]
  cases f <;> first | rfl | exact absurd rfl hf
@[simp] theorem x_var {i : Nat} : evE C (.var i) Γ = match slotG Γ i with | none => .bad | some x => .ok (lend x) (lendI Γ i) := by first | (rw [evE]; done) | (rw [evE]; rfl)
@[simp] theorem x_mv {i : Nat} : evE C (.mv i) Γ = match slotG Γ i with | none => .bad | some x => .ok x (Γ.set i none) := by first | (rw [evE]; done) | (rw [evE]; rfl)
@[simp] theorem x_cst {a : At} : evE C (.cst a) Γ = .ok ⟨.no, false, .at a⟩ Γ := by first | (rw [evE]; done) | (rw [evE]; rfl)
@[simp] theorem x_glob {g : Nat} : evE C (.glob g) Γ = .ok ⟨.no, false, C.glob g⟩ Γ := by first | (rw [evE]; done) | (rw [evE]; rfl)
@[simp] theorem x_op {o : Op} {es : IEs} : evE C (.op o es) Γ = (evOs C es Γ).bind fun os Γ' => if idxM os = [] then opt ((getO Γ' os).bind (opVal o)) Γ' else .bad := by first | (rw [evE]; done) | (rw [evE]; rfl)
@[simp] theorem x_and {a b : IE} : evE C (.and a b) Γ = (evT C a Γ).bind fun t Γ' => if t then evE C b Γ' else .ok ⟨.no, false, .bl false⟩ Γ' := by
  rw [evE, evT]
  cases opdOf a Γ (evE C a Γ) with
  | bad => rfl
  | exc c Γ => rfl
  | ok o Γ1 =>
    simp only [bind_ok]
    cases (getD1 Γ1 o).bind boolV with
    | none => rfl
    | some b => cases b <;> rfl
@[simp] theorem x_or {a b : IE} : evE C (.or a b) Γ = (evT C a Γ).bind fun t Γ' => if t then .ok ⟨.no, false, .bl true⟩ Γ' else evE C b Γ' := by
  rw [evE, evT]
  cases opdOf a Γ (evE C a Γ) with
  | bad => rfl
  | exc c Γ => rfl
  | ok o Γ1 =>
    simp only [bind_ok]
    cases (getD1 Γ1 o).bind boolV with
    | none => rfl
    | some b => cases b <;> rfl
@[simp] theorem x_not {a : IE} : evE C (.not a) Γ = (evT C a Γ).bind fun t Γ' => .ok ⟨.no, false, .bl (!t)⟩ Γ' := by
  rw [evE, evT]
  cases opdOf a Γ (evE C a Γ) with
  | bad => rfl
  | exc c Γ => rfl
  | ok o Γ1 =>
    simp only [bind_ok]
    cases (getD1 Γ1 o).bind boolV with
    | none => rfl
    | some b => rfl
@[simp] theorem x_ite {c a b : IE} : evE C (.ite c a b) Γ = (evT C c Γ).bind fun t Γ' => if t then evE C a Γ' else evE C b Γ' := by
  rw [evE, evT]
  cases opdOf c Γ (evE C c Γ) with
  | bad => rfl
  | exc c Γ => rfl
  | ok o Γ1 =>
    simp only [bind_ok]
    cases (getD1 Γ1 o).bind boolV with
    | none => rfl
    | some b => cases b <;> rfl
@[simp] theorem x_chain {o1 o2 : Op} {a b c : IE} : evE C (.chain o1 o2 a b c) Γ = ((opdOf a Γ (evE C a Γ)).bind fun oa Γ1 => (opdOf b Γ1 (evE C b Γ1)).bind fun ob Γ2 => match getD1 Γ2 oa, getD1 Γ2 ob with
    | some x, some y => match (opVal o1 [x, y]).bind boolV with
      | some false => .ok ⟨.no, false, .bl false⟩ Γ2
      | some true => (opdOf c Γ2 (evE C c Γ2)).bind fun oc Γ3 => match getD1 Γ3 ob, getD1 Γ3 oc with
        | some y, some z => opt (opVal o2 [y, z]) Γ3
        | _, _ => .bad
      | none => .bad
    | _, _ => .bad) := by first | (rw [evE]; done) | (rw [evE]; rfl)
@[simp] theorem x_tup {es : IEs} : evE C (.tup es) Γ = (evEs C es Γ).bind fun xs Γ' => if xs.length ≤ szLim then .ok (mkT xs) Γ' else .bad := by first | (rw [evE]; done) | (rw [evE]; rfl)
@[simp] theorem x_lst {es : IEs} : evE C (.lst es) Γ = (evEs C es Γ).bind fun xs Γ' => if xs.length ≤ szLim then .ok (mkL xs) Γ' else .bad := by first | (rw [evE]; done) | (rw [evE]; rfl)
def callR (Γ' : Gam) (os : List Opd) (r : CR) : R Val := match r with
  | .bad => .bad
  | .exc c => .exc c (if idxM os = [] then Γ' else retG Γ' os [])
  | .ok x outs => .ok x (if idxM os = [] then (if x.fz then lendAll Γ' (idxB os) else Γ') else retG (if x.fz || outsFz outs then lendAll Γ' (idxB os) else Γ') os outs)
@[simp] theorem x_call {f : Nat} {es : IEs} : evE C (.call f es) Γ = (evOs C es Γ).bind fun os Γ' => match argO Γ' os with
    | none => .bad
    | some xs => if (idxM os).Nodup ∧ ∀ i ∈ idxM os, i ∉ idxB os then callR Γ' os (C.call f (posM 0 os) xs) else .bad := by
  rw [evE]
  have key : (fun (os : List Opd) (Γ' : Gam) => (match argO Γ' os with
      | none => .bad
      | some xs => if (idxM os).Nodup ∧ ∀ i ∈ idxM os, i ∉ idxB os then (match C.call f (posM 0 os) xs with
        | .bad => .bad
        | .exc c => .exc c (if idxM os = [] then Γ' else retG Γ' os [])
        | .ok x outs => .ok x (if idxM os = [] then (if x.fz then lendAll Γ' (idxB os) else Γ') else
            retG (if x.fz || outs.any (fun o => match o with | some y => y.fz | none => false) then lendAll Γ' (idxB os) else Γ') os outs)) else .bad : R Val)) =
      fun os Γ' => match argO Γ' os with
      | none => .bad
      | some xs => if (idxM os).Nodup ∧ ∀ i ∈ idxM os, i ∉ idxB os then callR Γ' os (C.call f (posM 0 os) xs) else .bad := by
    funext os Γ'
    cases argO Γ' os with
    | none => rfl
    | some xs =>
      dsimp only
      split
      · unfold callR
        cases C.call f (posM 0 os) xs <;> rfl
      · rfl
  exact congrArg (R.bind (evOs C es Γ)) key
@[simp] theorem callR_ok {os : List Opd} {x : Val} {outs : Gam} : callR Γ os (.ok x outs) = .ok x (if idxM os = [] then (if x.fz then lendAll Γ (idxB os) else Γ) else retG (if x.fz || outsFz outs then lendAll Γ (idxB os) else Γ) os outs) := rfl
@[simp] theorem callR_exc {os : List Opd} {c : Nat} : callR Γ os (.exc c) = .exc c (if idxM os = [] then Γ else retG Γ os []) := rfl
def killF (kl : List Nat) : Gam → Gam := fun Γ => killG Γ kl
@[simp] theorem killF_def {kl : List Nat} : killF kl Γ = killG Γ kl := rfl
def compB (C : Ctx) (e : IE) (t : Tgt) (c : IEs) (x : Val) (Γ : Gam) : R (Option Val) := (setTgt C t x Γ).bind fun _ Γ => (evCs C c Γ).bind fun b Γ => if b then (evE C e Γ).bind fun y Γ => .ok (some y) Γ else .ok none Γ
@[simp] theorem x_comp {e : IE} {t : Tgt} {it : Itr} {c : IEs} {kl : List Nat} : evE C (.comp e t it c kl) Γ = (evI C it Γ).bind fun items Γ1 => if items.length < szLim ∧ kl.all (fun i => !C.io.contains i) = true then
    (compL (compB C e t c) (killF kl) items (killG Γ1 kl)).bind fun ys Γ2 => .ok (mkL ys) Γ2 else .bad := by first | (rw [evE]; done) | (rw [evE]; rfl)
@[simp] theorem x_mut {m : MOp} {i : Nat} {es : IEs} : evE C (.mut m i es) Γ = if lstAt Γ i then (evEs C es Γ).bind fun ys Γ' => match slotG Γ' i with
    | some x => if x.ow = .no then .bad else match mutV m x ys with
      | some (r, x') => .ok r (Γ'.set i (some x'))
      | none => .bad
    | none => .bad
    else .bad := by first | (rw [evE]; done) | (rw [evE]; rfl)
@[simp] theorem x_dK0 : evE C .dK0 Γ = .ok ⟨.top, false, .nd (.dK []) []⟩ Γ := by first | (rw [evE]; done) | (rw [evE]; rfl)
@[simp] theorem x_dT0 : evE C .dT0 Γ = .ok ⟨.top, false, .nd (.dT []) []⟩ Γ := by first | (rw [evE]; done) | (rw [evE]; rfl)
@[simp] theorem x_imm {e : IE} : evE C (.imm e) Γ = (evE C e Γ).bind fun x Γ' => if imm x.d then .ok ⟨.no, false, x.d⟩ Γ' else .bad := by first | (rw [evE]; done) | (rw [evE]; rfl)
@[simp] theorem x_lent {e : IE} : evE C (.lent e) Γ = (evE C e Γ).bind fun x Γ' => .ok (lend x) Γ' := by first | (rw [evE]; done) | (rw [evE]; rfl)
@[simp] theorem x_esn : evEs C .nil Γ = .ok [] Γ := by first | (rw [evEs]; done) | (rw [evEs]; rfl)
@[simp] theorem x_esc {e : IE} {es : IEs} : evEs C (.cons e es) Γ = (evE C e Γ).bind fun x Γ1 => (evEs C es Γ1).bind fun xs Γ2 => .ok (x :: xs) Γ2 := by first | (rw [evEs]; done) | (rw [evEs]; rfl)
@[simp] theorem x_osn : evOs C .nil Γ = .ok [] Γ := by first | (rw [evOs]; done) | (rw [evOs]; rfl)
@[simp] theorem x_osc {e : IE} {es : IEs} : evOs C (.cons e es) Γ = (opdOf e Γ (evE C e Γ)).bind fun x Γ1 => (evOs C es Γ1).bind fun xs Γ2 => .ok (x :: xs) Γ2 := by first | (rw [evOs]; done) | (rw [evOs]; rfl)
@[simp] theorem x_csn : evCs C .nil Γ = .ok true Γ := by first | (rw [evCs]; done) | (rw [evCs]; rfl)
@[simp] theorem x_csc {e : IE} {es : IEs} : evCs C (.cons e es) Γ = evT C e Γ := by first | (rw [evCs]; done) | (rw [evCs]; rfl)
/-- operands -/
@[simp] theorem o_var {i : Nat} {r : R Val} : opdOf (.var i) Γ r = if (slotG Γ i).isSome then .ok (.b i) Γ else .bad := rfl
@[simp] theorem o_io {i : Nat} {r : R Val} : opdOf (.io i) Γ r = if (slotG Γ i).isSome then .ok (.m i) Γ else .bad := rfl
@[simp] theorem o_mv {i : Nat} {r : R Val} : opdOf (.mv i) Γ r = r.bind fun x Γ' => .ok (.v x) Γ' := rfl
@[simp] theorem o_cst {a : At} {r : R Val} : opdOf (.cst a) Γ r = r.bind fun x Γ' => .ok (.v x) Γ' := rfl
@[simp] theorem o_glob {a : Nat} {r : R Val} : opdOf (.glob a) Γ r = r.bind fun x Γ' => .ok (.v x) Γ' := rfl
@[simp] theorem o_op {o : Op} {es : IEs} {r : R Val} : opdOf (.op o es) Γ r = r.bind fun x Γ' => .ok (.v x) Γ' := rfl
@[simp] theorem o_and {a b : IE} {r : R Val} : opdOf (.and a b) Γ r = r.bind fun x Γ' => .ok (.v x) Γ' := rfl
@[simp] theorem o_or {a b : IE} {r : R Val} : opdOf (.or a b) Γ r = r.bind fun x Γ' => .ok (.v x) Γ' := rfl
@[simp] theorem o_not {a : IE} {r : R Val} : opdOf (.not a) Γ r = r.bind fun x Γ' => .ok (.v x) Γ' := rfl
@[simp] theorem o_ite {a b c : IE} {r : R Val} : opdOf (.ite a b c) Γ r = r.bind fun x Γ' => .ok (.v x) Γ' := rfl
@[simp] theorem o_chain {o1 o2 : Op} {a b c : IE} {r : R Val} : opdOf (.chain o1 o2 a b c) Γ r = r.bind fun x Γ' => .ok (.v x) Γ' := rfl
@[simp] theorem o_tup {es : IEs} {r : R Val} : opdOf (.tup es) Γ r = r.bind fun x Γ' => .ok (.v x) Γ' := rfl
@[simp] theorem o_lst {es : IEs} {r : R Val} : opdOf (.lst es) Γ r = r.bind fun x Γ' => .ok (.v x) Γ' := rfl
@[simp] theorem o_call {f : Nat} {es : IEs} {r : R Val} : opdOf (.call f es) Γ r = r.bind fun x Γ' => .ok (.v x) Γ' := rfl
@[simp] theorem o_comp {e : IE} {t : Tgt} {it : Itr} {c : IEs} {kl : List Nat} {r : R Val} : opdOf (.comp e t it c kl) Γ r = r.bind fun x Γ' => .ok (.v x) Γ' := rfl
@[simp] theorem o_mut {m : MOp} {i : Nat} {es : IEs} {r : R Val} : opdOf (.mut m i es) Γ r = r.bind fun x Γ' => .ok (.v x) Γ' := rfl
@[simp] theorem o_imm {a : IE} {r : R Val} : opdOf (.imm a) Γ r = r.bind fun x Γ' => .ok (.v x) Γ' := rfl
@[simp] theorem o_lent {a : IE} {r : R Val} : opdOf (.lent a) Γ r = r.bind fun x Γ' => .ok (.v x) Γ' := rfl
theorem x_T {e : IE} : evT C e Γ = (opdOf e Γ (evE C e Γ)).bind fun o Γ1 => match (getD1 Γ1 o).bind boolV with | some b => .ok b Γ1 | none => .bad := rfl
/-- tests, by their form -/
@[simp] theorem t_not {a : IE} : evT C (.not a) Γ = (evT C a Γ).bind fun t Γ' => .ok (!t) Γ' := by
  rw [x_T, o_not, x_not]
  cases evT C a Γ <;> rfl
theorem bind_assoc {γ : Type} {r : R α} {f : α → Gam → R β} {g : β → Gam → R γ} : (r.bind f).bind g = r.bind fun a Γ => (f a Γ).bind g := by cases r <;> rfl
@[simp] theorem t_cst {b : Bool} : evT C (.cst (.bl b)) Γ = .ok b Γ := by rw [x_T, o_cst, x_cst]; rfl
@[simp] theorem t_var {i : Nat} : evT C (.var i) Γ = match slotG Γ i with | some x => (match boolV x with | some b => .ok b Γ | none => .bad) | none => .bad := by
  rw [x_T, o_var]
  cases h : slotG Γ i with
  | none => rfl
  | some x => simp [getD1, h]
def tst (r : R Val) : R Bool := r.bind fun x Γ => match boolV x with | some b => .ok b Γ | none => .bad
@[simp] theorem tst_ok {x : Val} : tst (.ok x Γ) = match boolV x with | some b => .ok b Γ | none => .bad := rfl
@[simp] theorem tst_bad : tst .bad = .bad := rfl
@[simp] theorem tst_exc {c : Nat} : tst (.exc c Γ) = .exc c Γ := rfl
@[simp] theorem tst_bind {a : R α} {f : α → Gam → R Val} : tst (a.bind f) = a.bind fun x Γ => tst (f x Γ) := bind_assoc
@[simp] theorem tst_ite {c : Prop} [Decidable c] {a b : R Val} : tst (if c then a else b) = if c then tst a else tst b := by split <;> rfl
theorem t_val {e : IE} (h : ∀ Γ r, opdOf e Γ r = r.bind fun x Γ' => .ok (.v x) Γ' := by intros; rfl) : evT C e Γ = tst (evE C e Γ) := by
  rw [x_T, h, bind_assoc]
  rfl
@[simp] theorem t_and {a b : IE} : evT C (.and a b) Γ = (evT C a Γ).bind fun t Γ' => if t then tst (evE C b Γ') else .ok false Γ' := by
  rw [t_val, x_and, tst_bind]
  cases evT C a Γ with
  | bad => rfl
  | exc c Γ => rfl
  | ok t Γ1 => cases t <;> rfl
@[simp] theorem t_or {a b : IE} : evT C (.or a b) Γ = (evT C a Γ).bind fun t Γ' => if t then .ok true Γ' else tst (evE C b Γ') := by
  rw [t_val, x_or, tst_bind]
  cases evT C a Γ with
  | bad => rfl
  | exc c Γ => rfl
  | ok t Γ1 => cases t <;> rfl
@[simp] theorem t_op {o : Op} {es : IEs} : evT C (.op o es) Γ = tst (evE C (.op o es) Γ) := t_val
@[simp] theorem t_chain {o1 o2 : Op} {a b c : IE} : evT C (.chain o1 o2 a b c) Γ = tst (evE C (.chain o1 o2 a b c) Γ) := t_val
@[simp] theorem t_call {f : Nat} {es : IEs} : evT C (.call f es) Γ = tst (evE C (.call f es) Γ) := t_val
@[simp] theorem t_ite {c a b : IE} : evT C (.ite c a b) Γ = tst (evE C (.ite c a b) Γ) := t_val
@[simp] theorem t_mut {m : MOp} {i : Nat} {es : IEs} : evT C (.mut m i es) Γ = tst (evE C (.mut m i es) Γ) := t_val
/-- iterables -/
@[simp] theorem x_seq {e : IE} : evI C (.seq e) Γ = (evE C e Γ).bind fun x Γ' => match kidsD x.d with
    | some ds => .ok (ds.map (childV (lend x).fz)) Γ'
    | none => .bad := by first | (rw [evI]; done) | (rw [evI]; rfl)
@[simp] theorem x_str {e : IE} : evI C (.str e) Γ = (evE C e Γ).bind fun x Γ' => match x.d with
    | .at (.str z) => .ok (strKids z) Γ'
    | _ => .bad := by first | (rw [evI]; done) | (rw [evI]; rfl)
theorem x_rng {es : IEs} : evI C (.rng es) Γ = (evOs C es Γ).bind fun os Γ' => if idxM os = [] then (match (getO Γ' os).bind fun xs => rngInts (xs.map (·.d)) with
    | some ns => .ok (ns.map fun n => ⟨.no, false, .int n⟩) Γ'
    | none => .bad) else .bad := by first | (rw [evI]; done) | (rw [evI]; rfl)
@[simp] theorem x_enum {e : IE} : evI C (.enum e) Γ = (evE C e Γ).bind fun x Γ' => match x.d with
    | .nd .lst ds => .ok (ds.mapIdx fun k d => ⟨.no, (lend x).fz, .tup [.int (k : Nat), d]⟩) Γ'
    | _ => .bad := by first | (rw [evI]; done) | (rw [evI]; rfl)
@[simp] theorem x_zip {a b : IE} : evI C (.zip a b) Γ = (evE C a Γ).bind fun x Γ1 => (evE C b Γ1).bind fun y Γ2 => match x.d, y.d with
    | .nd .lst ds, .nd .lst es => .ok ((ds.zip es).map fun p => ⟨.no, (lend x).fz || (lend y).fz, .tup [p.1, p.2]⟩) Γ2
    | _, _ => .bad := by first | (rw [evI]; done) | (rw [evI]; rfl)
@[simp] theorem x_rev {e : IE} : evI C (.rev e) Γ = (evE C e Γ).bind fun x Γ' => match x.d with
    | .nd .lst ds => .ok (ds.reverse.map (childV (lend x).fz)) Γ'
    | _ => .bad := by first | (rw [evI]; done) | (rw [evI]; rfl)
/-- statements -/
@[simp] theorem s_asg {i : Nat} {e : IE} : evS C (.asg i e) Γ = if i ∈ C.io then .bad else (evE C e Γ).bind fun x Γ' => if i < Γ'.length then .ok .nx (Γ'.set i (some x)) else .bad := by first | (rw [evS]; done) | (rw [evS]; rfl)
@[simp] theorem s_asgT {is : List Nat} {e : IE} : evS C (.asgT is e) Γ = (evE C e Γ).bind fun x Γ' => match x.d with
    | .nd .tup _ => (setTgt C (.many is) (lend x) Γ').bind fun _ Γ' => .ok .nx Γ'
    | _ => .bad := by first | (rw [evS]; done) | (rw [evS]; rfl)
@[simp] theorem s_expr {e : IE} : evS C (.expr e) Γ = (evE C e Γ).bind fun _ Γ' => .ok .nx Γ' := by first | (rw [evS]; done) | (rw [evS]; rfl)
@[simp] theorem s_ret {e : IE} : evS C (.ret e) Γ = (evE C e Γ).bind fun x Γ' => .ok (.rt x) Γ' := by first | (rw [evS]; done) | (rw [evS]; rfl)
@[simp] theorem s_retN : evS C .retN Γ = .ok (.rt ⟨.no, false, .non⟩) Γ := by first | (rw [evS]; done) | (rw [evS]; rfl)
@[simp] theorem s_rais {c : Nat} : evS C (.rais c) Γ = .exc c Γ := by first | (rw [evS]; done) | (rw [evS]; rfl)
@[simp] theorem s_ifs {c : IE} {a b : ISs} : evS C (.ifs c a b) Γ = (evT C c Γ).bind fun t Γ' => if t then evSs C a Γ' else evSs C b Γ' := by first | (rw [evS]; done) | (rw [evS]; rfl)
@[simp] theorem s_pas : evS C .pas Γ = .ok .nx Γ := by first | (rw [evS]; done) | (rw [evS]; rfl)
@[simp] theorem s_brk : evS C .brk Γ = .ok .bk Γ := by first | (rw [evS]; done) | (rw [evS]; rfl)
@[simp] theorem s_cnt : evS C .cnt Γ = .ok .ct Γ := by first | (rw [evS]; done) | (rw [evS]; rfl)
def forB (C : Ctx) (t : Tgt) (b : ISs) (x : Val) (Γ : Gam) : R Fl := (setTgt C t x Γ).bind fun _ Γ => evSs C b Γ
@[simp] theorem s_for {t : Tgt} {it : Itr} {b : ISs} {kl : List Nat} : evS C (.fr t it b kl) Γ = (evI C it Γ).bind fun items Γ1 => forL (forB C t b) (killF kl) items Γ1 := by first | (rw [evS]; done) | (rw [evS]; rfl)
@[simp] theorem s_whl {c : IE} {b : ISs} {kl : List Nat} : evS C (.whl c b kl) Γ = whlL (evT C c) (evSs C b) (killF kl) C.fuel Γ := by first | (rw [evS]; done) | (rw [evS]; rfl)
@[simp] theorem s_aug {i : Nat} {o : Op} {e : IE} : evS C (.aug i o e) Γ = if i ∈ C.io ∨ (!augOk o) = true then .bad else match slotG Γ i with
    | some x => match x.d with
      | .at a => (opdOf e Γ (evE C e Γ)).bind fun oe Γ' => match getD1 Γ' oe with
        | some y => match opSem o [.at a, y.d] with
          | some (.at (.int r)) => if i < Γ'.length then .ok .nx (Γ'.set i (some ⟨.no, false, .int r⟩)) else .bad
          | _ => .bad
        | none => .bad
      | _ => .bad
    | none => .bad := by first | (rw [evS]; done) | (rw [evS]; rfl)
@[simp] theorem s_setIx {i : Nat} {k e : IE} : evS C (.setIx i k e) Γ = (evE C e Γ).bind fun y Γ1 => if conAt Γ1 i then (opdOf k Γ1 (evE C k Γ1)).bind fun ok Γ2 => match getD1 Γ2 ok, slotG Γ2 i with
    | some kv, some x => if x.ow = .no then .bad else match mutV .setIx x [y, kv] with
      | some (_, x') => .ok .nx (Γ2.set i (some x'))
      | none => .bad
    | _, _ => .bad
    else .bad := by first | (rw [evS]; done) | (rw [evS]; rfl)
@[simp] theorem s_try {b h : ISs} {c : Nat} : evS C (.tr b c h) Γ = match evSs C b Γ with
    | .exc c' Γ' => if c' = c ∨ c = 0 then evSs C h Γ' else .bad
    | r => r := by first | (rw [evS]; done) | (rw [evS]; rfl)
/-- a try's suites -/
theorem s_try_ok {b h : ISs} {c : Nat} {f : Fl} (e : evSs C b Γ = .ok f Γ') : evS C (.tr b c h) Γ = .ok f Γ' := by rw [s_try, e]
theorem s_try_exc {b h : ISs} {c c' : Nat} (e : evSs C b Γ = .exc c' Γ') (hc : c' = c ∨ c = 0) : evS C (.tr b c h) Γ = evSs C h Γ' := by
  rw [s_try, e]
  exact if_pos hc
/-! slots -/
@[simp] theorem slot_def {i : Nat} : slotG Γ i = (Γ[i]?).join := by
  unfold slotG
  cases Γ[i]? with
  | none => rfl
  | some o => cases o <;> rfl
@[simp] theorem lend_def {x : Val} : lend x = ⟨.no, x.fz || decide (x.ow ≠ .no), x.d⟩ := rfl
theorem lendI_no {i : Nat} {x : Val} (h : slotG Γ i = some x) (ho : x.ow = .no) : lendI Γ i = Γ := by
  unfold lendI
  rw [h]
  dsimp only
  rw [if_pos ho]
@[simp] theorem lendI_def {i : Nat} : lendI Γ i = match (Γ[i]?).join with
    | some x => if x.ow = .no then Γ else Γ.set i (some (lend x))
    | none => Γ := by
  unfold lendI
  first | (rw [slot_def]; done) | (rw [slot_def]; rfl)
@[simp] theorem lendAll_nil : lendAll Γ [] = Γ := rfl
@[simp] theorem lendAll_cons {i : Nat} {is : List Nat} : lendAll Γ (i :: is) = lendAll (lendI Γ i) is := rfl
@[simp] theorem killG_nil : killG Γ [] = Γ := rfl
@[simp] theorem killG_cons {i : Nat} {is : List Nat} : killG Γ (i :: is) = killG (Γ.set i none) is := rfl
@[simp] theorem getD1_v {x : Val} : getD1 Γ (.v x) = some x := rfl
@[simp] theorem getD1_b {i : Nat} : getD1 Γ (.b i) = slotG Γ i := rfl
@[simp] theorem getO_nil : getO Γ [] = some [] := rfl
@[simp] theorem getO_v {x : Val} {os : List Opd} : getO Γ (.v x :: os) = (getO Γ os).map (x :: ·) := rfl
@[simp] theorem getO_b {i : Nat} {os : List Opd} : getO Γ (.b i :: os) = (slotG Γ i).bind fun x => (getO Γ os).map (x :: ·) := rfl
@[simp] theorem argO_nil : argO Γ [] = some [] := rfl
@[simp] theorem argO_v {x : Val} {os : List Opd} : argO Γ (.v x :: os) = (argO Γ os).map (lend x :: ·) := rfl
@[simp] theorem argO_b {i : Nat} {os : List Opd} : argO Γ (.b i :: os) = (slotG Γ i).bind fun x => (argO Γ os).map (lend x :: ·) := rfl
@[simp] theorem argO_m {i : Nat} {os : List Opd} : argO Γ (.m i :: os) = (slotG Γ i).bind fun x => (argO Γ os).map (x :: ·) := rfl
@[simp] theorem idxM_nil : idxM [] = [] := rfl
@[simp] theorem idxM_v {x : Val} {os : List Opd} : idxM (.v x :: os) = idxM os := rfl
@[simp] theorem idxM_b {i : Nat} {os : List Opd} : idxM (.b i :: os) = idxM os := rfl
@[simp] theorem idxM_m {i : Nat} {os : List Opd} : idxM (.m i :: os) = i :: idxM os := rfl
@[simp] theorem idxB_nil : idxB [] = [] := rfl
@[simp] theorem idxB_v {x : Val} {os : List Opd} : idxB (.v x :: os) = idxB os := rfl
@[simp] theorem idxB_b {i : Nat} {os : List Opd} : idxB (.b i :: os) = i :: idxB os := rfl
@[simp] theorem idxB_m {i : Nat} {os : List Opd} : idxB (.m i :: os) = idxB os := rfl
@[simp] theorem posM_nil {j : Nat} : posM j [] = [] := rfl
@[simp] theorem posM_v {j : Nat} {x : Val} {os : List Opd} : posM j (.v x :: os) = posM (j + 1) os := rfl
@[simp] theorem posM_b {j i : Nat} {os : List Opd} : posM j (.b i :: os) = posM (j + 1) os := rfl
@[simp] theorem posM_m {j i : Nat} {os : List Opd} : posM j (.m i :: os) = j :: posM (j + 1) os := rfl
@[simp] theorem opt_some {a : α} : opt (some a) Γ = .ok a Γ := rfl
@[simp] theorem boolV_def {x : Val} : boolV x = match x.d with | .at (.bl b) => some b | _ => none := rfl
@[simp] theorem setTgt_one {i : Nat} {x : Val} : setTgt C (.one i) x Γ = if i ∈ C.io then .bad else if i < Γ.length then .ok () (Γ.set i (some x)) else .bad := rfl
@[simp] theorem retF_nx {fd : FD} : retF fd (.ok .nx Γ) = .ok ⟨.no, false, .non⟩ (outG fd.io fd.np Γ) := rfl
@[simp] theorem retF_rt {fd : FD} {x : Val} : retF fd (.ok (.rt x) Γ) = .ok x (outG fd.io fd.np Γ) := rfl
@[simp] theorem retF_exc {fd : FD} {c : Nat} : retF fd (.exc c Γ) = .exc c := rfl
@[simp] theorem outG_nil {np : Nat} : outG [] np Γ = [] := rfl
/-! operations on values: what may not be mixed up with ownership -/
@[simp] theorem opVal_def {o : Op} {xs : List Val} : opVal o xs = if ((o.flow && anyDeep xs) || !repOk o xs) = true then none else (opSem o (xs.map (·.d))).map (o.tag (anyFz xs)) := rfl
@[simp] theorem anyDeep_nil : anyDeep [] = false := rfl
@[simp] theorem anyDeep_cons {x : Val} {xs : List Val} : anyDeep (x :: xs) = (decide (x.ow = .deep) || anyDeep xs) := rfl
@[simp] theorem anyFz_nil : anyFz [] = false := rfl
@[simp] theorem anyFz_cons {x : Val} {xs : List Val} : anyFz (x :: xs) = (x.fz || anyFz xs) := rfl
@[simp] theorem anyOw_nil : anyOw [] = false := rfl
@[simp] theorem anyOw_cons {x : Val} {xs : List Val} : anyOw (x :: xs) = (decide (x.ow ≠ .no) || anyOw xs) := rfl
@[simp] theorem tagAt {o : Op} {fz : Bool} {a : At} : o.tag fz (.at a) = ⟨.no, false, .at a⟩ := rfl
@[simp] theorem tagTup {o : Op} {fz : Bool} {xs : List D} : o.tag fz (.nd .tup xs) = ⟨.no, o.flow && fz, .nd .tup xs⟩ := rfl
@[simp] theorem tagKtup {o : Op} {fz : Bool} {xs : List D} : o.tag fz (.nd .ktup xs) = ⟨if o.fresh then .top else .no, o.flow && fz, .nd .ktup xs⟩ := rfl
@[simp] theorem tagLst {o : Op} {fz : Bool} {xs : List D} : o.tag fz (.nd .lst xs) = ⟨if o.fresh then .top else .no, o.flow && fz, .nd .lst xs⟩ := rfl
@[simp] theorem tagDK {o : Op} {fz : Bool} {ks : List Key} {xs : List D} : o.tag fz (.nd (.dK ks) xs) = ⟨if o.fresh then .top else .no, o.flow && fz, .nd (.dK ks) xs⟩ := rfl
@[simp] theorem tagDT {o : Op} {fz : Bool} {ks : List (List Key)} {xs : List D} : o.tag fz (.nd (.dT ks) xs) = ⟨if o.fresh then .top else .no, o.flow && fz, .nd (.dT ks) xs⟩ := rfl
end
end Px
namespace Px
open PySem L2

/-! ### the small language by data alone: no ownership -/
abbrev PEnv := List (Option D)
inductive RP (α : Type) where
  | bad | exc (c : Nat) (ρ : PEnv) | ok (a : α) (ρ : PEnv)
def RP.bind {α β : Type} (m : RP α) (f : α → PEnv → RP β) : RP β := match m with
  | .bad => .bad
  | .exc c ρ => .exc c ρ
  | .ok a ρ => f a ρ
inductive CP where
  | bad | exc (c : Nat) | ok (d : D) (outs : PEnv)
structure PCtx where
  call : Nat → List Nat → List D → CP
  glob : Nat → D
  io : List Nat
  fuel : Nat
inductive POpd where
  | v (d : D) | b (i : Nat) | m (i : Nat)
def pslot (ρ : PEnv) (i : Nat) : Option D := (ρ[i]?).join
def popt {α : Type} (o : Option α) (ρ : PEnv) : RP α := match o with
  | some a => .ok a ρ
  | none => .bad
def popd (e : IE) (ρ : PEnv) (r : RP D) : RP POpd := match e with
  | .var i => if (pslot ρ i).isSome then .ok (.b i) ρ else .bad
  | .io i => if (pslot ρ i).isSome then .ok (.m i) ρ else .bad
  | _ => r.bind fun x ρ' => .ok (.v x) ρ'
def pget1 (ρ : PEnv) : POpd → Option D
  | .v x => some x
  | .b i => pslot ρ i
  | .m _ => none
def pget (ρ : PEnv) : List POpd → Option (List D)
  | [] => some []
  | o :: os => (pget1 ρ o).bind fun x => (pget ρ os).map (x :: ·)
def parg (ρ : PEnv) : List POpd → Option (List D)
  | [] => some []
  | .v x :: os => (parg ρ os).map (x :: ·)
  | .b i :: os => (pslot ρ i).bind fun x => (parg ρ os).map (x :: ·)
  | .m i :: os => (pslot ρ i).bind fun x => (parg ρ os).map (x :: ·)
def pidxB : List POpd → List Nat
  | [] => []
  | .b i :: os => i :: pidxB os
  | _ :: os => pidxB os
def pidxM : List POpd → List Nat
  | [] => []
  | .m i :: os => i :: pidxM os
  | _ :: os => pidxM os
def pposM : Nat → List POpd → List Nat
  | _, [] => []
  | j, .m _ :: os => j :: pposM (j + 1) os
  | j, _ :: os => pposM (j + 1) os
def pfindM : List POpd → Nat → Option Nat
  | [], _ => none
  | .m k :: os, i => if k = i then some 0 else (pfindM os i).map (· + 1)
  | _ :: os, i => (pfindM os i).map (· + 1)
def pret (ρ : PEnv) (os : List POpd) (outs : PEnv) : PEnv := ρ.mapIdx fun i o => match pfindM os i with
  | some j => outs.getD j none
  | none => o
def pkill (ρ : PEnv) : List Nat → PEnv
  | [] => ρ
  | i :: is => pkill (ρ.set i none) is
def pbool : D → Option Bool
  | .at (.bl b) => some b
  | _ => none
def plst (ρ : PEnv) (i : Nat) : Bool := match pslot ρ i with
  | some (.nd .lst _) => true
  | _ => false
def pcon (ρ : PEnv) (i : Nat) : Bool := match pslot ρ i with
  | some (.nd .lst _) => true
  | some (.nd (.dK _) _) => true
  | some (.nd (.dT _) _) => true
  | _ => false
def pdct (ρ : PEnv) (i : Nat) : Bool := match pslot ρ i with
  | some (.nd (.dK _) _) => true
  | some (.nd (.dT _) _) => true
  | _ => false
def pstrKids (z : Str) : List D := z.cps.toList.map fun c => .str ⟨#[c]⟩
def ptgt (io : List Nat) (t : Tgt) (x : D) (ρ : PEnv) : RP Unit := match t with
  | .one i => if i ∈ io then .bad else if i < ρ.length then .ok () (ρ.set i (some x)) else .bad
  | .many is => match x with
    | .nd .tup ds => if ds.length = is.length then go io is ds ρ else .bad
    | .nd .lst ds => if ds.length = is.length then go io is ds ρ else .bad
    | _ => .bad
where go (io : List Nat) : List Nat → List D → PEnv → RP Unit
  | i :: is, d :: ds, ρ => if i ∈ io then .bad else if i < ρ.length then go io is ds (ρ.set i (some d)) else .bad
  | _, _, ρ => .ok () ρ
def pputD {κ : Type} [DecidableEq κ] (ks : List κ) (ds : List D) (k : Option κ) (y : D) (mk : List κ → NT) : Option (D × D) := match k with
  | some k => if ks.length = ds.length ∧ ds.length < szLim then some (.non, .nd (mk (putKs ks ds k y).1) (putKs ks ds k y).2) else none
  | none => none
def pmut : MOp → D → List D → Option (D × D)
  | .append, .nd .lst ds, [y] => if ds.length < szLim then some (.non, .lst (ds ++ [y])) else none
  | .pop, .nd .lst ds, [] => ds.getLast?.map fun d => (d, .lst ds.dropLast)
  | .clear, .nd .lst ds, [] => some (.non, .lst [])
  | .extend, .nd .lst ds, [.nd .lst es] => if ds.length + es.length ≤ szLim then some (.non, .lst (ds ++ es)) else none
  | .setIx, .nd .lst ds, [y, .at (.int i)] => (ixN ds.length i).map fun j => (.non, .lst (ds.set j y))
  | .setIx, .nd (.dK ks) ds, [y, k] => pputD ks ds (keyOf k) y .dK
  | .setIx, .nd (.dT ks) ds, [y, .nd .tup es] => pputD ks ds (keysOf es) y .dT
  | _, _, _ => none
def psdf (x : D) : List D → Option (D × D)
  | [k, y] => match x, keyOf k with
    | .nd (.dK ks) ds, some key => if ks.length = ds.length ∧ ds.length < szLim then (match lookK ks ds key, y with
        | some (.at a), .at _ => some (.at a, x)
        | none, .at a => some (.at a, .nd (.dK (putKs ks ds key (.at a)).1) (putKs ks ds key (.at a)).2)
        | _, _ => none) else none
    | _, _ => none
  | _ => none
def pcompL (body : D → PEnv → RP (Option D)) (kill : PEnv → PEnv) : List D → PEnv → RP (List D)
  | [], ρ => .ok [] ρ
  | x :: xs, ρ => match body x ρ with
    | .ok y ρ' => match pcompL body kill xs (kill ρ') with
      | .ok ys ρ'' => .ok (match y with | some y => y :: ys | none => ys) ρ''
      | _ => .bad
    | _ => .bad
mutual
def pvE (C : PCtx) : IE → PEnv → RP D
  | .var i, ρ => match pslot ρ i with
    | none => .bad
    | some x => .ok x ρ
  | .mv i, ρ => match pslot ρ i with
    | none => .bad
    | some x => .ok x ρ
  | .io _, _ => .bad
  | .cst a, ρ => .ok (.at a) ρ
  | .glob g, ρ => .ok (C.glob g) ρ
  | .op o es, ρ => (pvOs C es ρ).bind fun os ρ' => if pidxM os = [] then popt ((pget ρ' os).bind (opSem o)) ρ' else .bad
  | .and a b, ρ => (popd a ρ (pvE C a ρ)).bind fun o ρ' => match (pget1 ρ' o).bind pbool with
    | some true => pvE C b ρ'
    | some false => .ok (.bl false) ρ'
    | none => .bad
  | .or a b, ρ => (popd a ρ (pvE C a ρ)).bind fun o ρ' => match (pget1 ρ' o).bind pbool with
    | some true => .ok (.bl true) ρ'
    | some false => pvE C b ρ'
    | none => .bad
  | .not a, ρ => (popd a ρ (pvE C a ρ)).bind fun o ρ' => match (pget1 ρ' o).bind pbool with
    | some b => .ok (.bl (!b)) ρ'
    | none => .bad
  | .ite c a b, ρ => (popd c ρ (pvE C c ρ)).bind fun o ρ' => match (pget1 ρ' o).bind pbool with
    | some true => pvE C a ρ'
    | some false => pvE C b ρ'
    | none => .bad
  | .chain o1 o2 a b c, ρ => (popd a ρ (pvE C a ρ)).bind fun oa ρ1 => (popd b ρ1 (pvE C b ρ1)).bind fun ob ρ2 => match pget1 ρ2 oa, pget1 ρ2 ob with
    | some x, some y => match (opSem o1 [x, y]).bind pbool with
      | some false => .ok (.bl false) ρ2
      | some true => (popd c ρ2 (pvE C c ρ2)).bind fun oc ρ3 => match pget1 ρ3 ob, pget1 ρ3 oc with
        | some y, some z => popt (opSem o2 [y, z]) ρ3
        | _, _ => .bad
      | none => .bad
    | _, _ => .bad
  | .tup es, ρ => (pvEs C es ρ).bind fun xs ρ' => if xs.length ≤ szLim then .ok (.tup xs) ρ' else .bad
  | .lst es, ρ => (pvEs C es ρ).bind fun xs ρ' => if xs.length ≤ szLim then .ok (.lst xs) ρ' else .bad
  | .call f es, ρ => (pvOs C es ρ).bind fun os ρ' => match parg ρ' os with
    | none => .bad
    | some xs => if (pidxM os).Nodup ∧ ∀ i ∈ pidxM os, i ∉ pidxB os then match C.call f (pposM 0 os) xs with
      | .bad => .bad
      | .exc c => .exc c ρ'
      | .ok x outs => .ok x (if pidxM os = [] then ρ' else pret ρ' os outs)
      else .bad
  | .comp e t it c kl, ρ => (pvI C it ρ).bind fun items ρ1 => if items.length < szLim ∧ kl.all (fun i => !C.io.contains i) = true then
      (pcompL (fun x ρ => (ptgt C.io t x ρ).bind fun _ ρ => (pvCs C c ρ).bind fun b ρ => if b then (pvE C e ρ).bind fun y ρ => .ok (some y) ρ else .ok none ρ)
        (fun ρ => pkill ρ kl) items (pkill ρ1 kl)).bind fun ys ρ2 => .ok (.lst ys) ρ2
      else .bad
  | .mut m i es, ρ => if plst ρ i then (pvEs C es ρ).bind fun ys ρ' => match pslot ρ' i with
    | some x => match pmut m x ys with
      | some (r, x') => .ok r (ρ'.set i (some x'))
      | none => .bad
    | none => .bad
    else .bad
  | .dget i es, ρ => if pdct ρ i then (pvOs C es ρ).bind fun os ρ' => if pidxM os = [] then popt ((pget ρ' (.b i :: os)).bind (opSem (if os.length = 1 then .get1 else .get2))) ρ' else .bad
    else .bad
  | .sdf i es, ρ => if pdct ρ i then (pvEs C es ρ).bind fun ys ρ' => match pslot ρ' i with
    | some x => match psdf x ys with
      | some (r, x') => .ok r (ρ'.set i (some x'))
      | none => .bad
    | none => .bad
    else .bad
  | .dK0, ρ => .ok (.nd (.dK []) []) ρ
  | .dT0, ρ => .ok (.nd (.dT []) []) ρ
  | .imm e, ρ => (pvE C e ρ).bind fun x ρ' => if imm x then .ok x ρ' else .bad
  | .lent e, ρ => pvE C e ρ
def pvEs (C : PCtx) : IEs → PEnv → RP (List D)
  | .nil, ρ => .ok [] ρ
  | .cons e es, ρ => (pvE C e ρ).bind fun x ρ1 => (pvEs C es ρ1).bind fun xs ρ2 => .ok (x :: xs) ρ2
def pvOs (C : PCtx) : IEs → PEnv → RP (List POpd)
  | .nil, ρ => .ok [] ρ
  | .cons e es, ρ => (popd e ρ (pvE C e ρ)).bind fun x ρ1 => (pvOs C es ρ1).bind fun xs ρ2 => .ok (x :: xs) ρ2
def pvCs (C : PCtx) : IEs → PEnv → RP Bool
  | .nil, ρ => .ok true ρ
  | .cons e es, ρ => (popd e ρ (pvE C e ρ)).bind fun o ρ1 => match (pget1 ρ1 o).bind pbool with
    | some b => .ok b ρ1
    | none => .bad
def pvI (C : PCtx) : Itr → PEnv → RP (List D)
  | .seq e, ρ => (pvE C e ρ).bind fun x ρ' => match kidsD x with
    | some ds => .ok ds ρ'
    | none => .bad
  | .str e, ρ => (pvE C e ρ).bind fun x ρ' => match x with
    | .at (.str z) => .ok (pstrKids z) ρ'
    | _ => .bad
  | .rng es, ρ => (pvOs C es ρ).bind fun os ρ' => if pidxM os = [] then match (pget ρ' os).bind rngInts with
    | some ns => .ok (ns.map D.int) ρ'
    | none => .bad
    else .bad
  | .enum e, ρ => (pvE C e ρ).bind fun x ρ' => match x with
    | .nd .lst ds => .ok (ds.mapIdx fun k d => .tup [.int (k : Nat), d]) ρ'
    | _ => .bad
  | .zip a b, ρ => (pvE C a ρ).bind fun x ρ1 => (pvE C b ρ1).bind fun y ρ2 => match x, y with
    | .nd .lst ds, .nd .lst es => .ok ((ds.zip es).map fun p => .tup [p.1, p.2]) ρ2
    | _, _ => .bad
  | .rev e, ρ => (pvE C e ρ).bind fun x ρ' => match x with
    | .nd .lst ds => .ok ds.reverse ρ'
    | _ => .bad
end
inductive PFl where
  | nx | bk | ct | rt (x : D)
def pforL (body : D → PEnv → RP PFl) (kill : PEnv → PEnv) : List D → PEnv → RP PFl
  | [], ρ => .ok .nx (kill ρ)
  | x :: xs, ρ => match body x ρ with
    | .ok .nx ρ' => pforL body kill xs (kill ρ')
    | .ok .ct ρ' => pforL body kill xs (kill ρ')
    | .ok .bk ρ' => .ok .nx (kill ρ')
    | .ok (.rt y) ρ' => .ok (.rt y) ρ'
    | .exc c ρ' => .exc c ρ'
    | .bad => .bad
def pwhlL (test : PEnv → RP Bool) (body : PEnv → RP PFl) (kill : PEnv → PEnv) : Nat → PEnv → RP PFl
  | 0, _ => .bad
  | n + 1, ρ => match test ρ with
    | .ok true ρ1 => match body ρ1 with
      | .ok .nx ρ' => pwhlL test body kill n (kill ρ')
      | .ok .ct ρ' => pwhlL test body kill n (kill ρ')
      | .ok .bk ρ' => .ok .nx (kill ρ')
      | .ok (.rt y) ρ' => .ok (.rt y) ρ'
      | .exc c ρ' => .exc c ρ'
      | .bad => .bad
    | .ok false ρ1 => .ok .nx (kill ρ1)
    | .exc c ρ' => .exc c ρ'
    | .bad => .bad
def pvT (C : PCtx) (e : IE) (ρ : PEnv) : RP Bool := (popd e ρ (pvE C e ρ)).bind fun o ρ1 => match (pget1 ρ1 o).bind pbool with
  | some b => .ok b ρ1
  | none => .bad
def paugG (x k : D) : Option (Int × Int) := match x, k with
  | .nd .lst ds, .at (.int n) => match atI ds n with
    | some (.at (.int a)) => some (n, a)
    | _ => none
  | _, _ => none
def pao (ρ : PEnv) : MA → Option At
  | .cst a => some a
  | .var j => match pslot ρ j with
    | some (.at a) => some a
    | _ => none
def paos (ρ : PEnv) : Option MA → Option (Option At)
  | none => some none
  | some o => (pao ρ o).map some
def pMA (i : Nat) (m : MOp) (a : Option MA) : POpd → PEnv → RP PFl := fun ok ρ1 => match pget1 ρ1 ok, pslot ρ1 i, paos ρ1 a with
  | some kv, some x, some y => match mutAtD m x kv y with
    | some x' => .ok .nx (ρ1.set i (some x'))
    | none => .bad
  | _, _, _ => .bad
mutual
def pvS (C : PCtx) : IS → PEnv → RP PFl
  | .asg i e, ρ => if i ∈ C.io then .bad else (pvE C e ρ).bind fun x ρ' => if i < ρ'.length then .ok .nx (ρ'.set i (some x)) else .bad
  | .asgT is e, ρ => (pvE C e ρ).bind fun x ρ' => match x with
    | .nd .tup _ => (ptgt C.io (.many is) x ρ').bind fun _ ρ' => .ok .nx ρ'
    | _ => .bad
  | .par i j a b, ρ => .bad
  | .aug i o e, ρ => if i ∈ C.io ∨ !augOk o then .bad else match pslot ρ i with
    | some (.at a) => (popd e ρ (pvE C e ρ)).bind fun oe ρ' => match pget1 ρ' oe with
        | some y => match opSem o [.at a, y] with
          | some (.at (.int r)) => if i < ρ'.length then .ok .nx (ρ'.set i (some (.int r))) else .bad
          | _ => .bad
        | none => .bad
    | _ => .bad
  | .setIx i k e, ρ => (pvE C e ρ).bind fun y ρ1 => if pcon ρ1 i then (popd k ρ1 (pvE C k ρ1)).bind fun ok ρ2 => match pget1 ρ2 ok, pslot ρ2 i with
    | some kv, some x => match pmut .setIx x [y, kv] with
      | some (_, x') => .ok .nx (ρ2.set i (some x'))
      | none => .bad
    | _, _ => .bad
    else .bad
  | .augIx i o k e, ρ => if (!augOk o || !plst ρ i) = true then .bad else (popd k ρ (pvE C k ρ)).bind fun ok ρ1 => match pget1 ρ1 ok, pslot ρ1 i with
    | some kv, some x => match paugG x kv with
      | some (n, a) => (popd e ρ1 (pvE C e ρ1)).bind fun oe ρ2 => match pget1 ρ2 oe, pslot ρ2 i with
        | some y, some x2 => match opSem o [.at (.int a), y] with
          | some (.at (.int r)) => match pmut .setIx x2 [.int r, .int n] with
            | some (_, x') => .ok .nx (ρ2.set i (some x'))
            | none => .bad
          | _ => .bad
        | _, _ => .bad
      | none => .bad
    | _, _ => .bad
  | .mutAt i k m a, ρ => if (pslot ρ i).isSome then (popd k ρ (pvE C k ρ)).bind (pMA i m a) else .bad
  | .expr e, ρ => (pvE C e ρ).bind fun _ ρ' => .ok .nx ρ'
  | .ifs c a b, ρ => (pvT C c ρ).bind fun t ρ' => if t then pvSs C a ρ' else pvSs C b ρ'
  | .whl c b kl, ρ => pwhlL (pvT C c) (pvSs C b) (fun ρ => pkill ρ kl) C.fuel ρ
  | .fr t it b kl, ρ => (pvI C it ρ).bind fun items ρ1 => pforL (fun x ρ => (ptgt C.io t x ρ).bind fun _ ρ => pvSs C b ρ) (fun ρ => pkill ρ kl) items ρ1
  | .ret e, ρ => (pvE C e ρ).bind fun x ρ' => .ok (.rt x) ρ'
  | .retN, ρ => .ok (.rt .non) ρ
  | .rais c, ρ => .exc c ρ
  | .tr b c h, ρ => match pvSs C b ρ with
    | .exc c' ρ' => if c' = c ∨ c = 0 then pvSs C h ρ' else .bad
    | r => r
  | .brk, ρ => .ok .bk ρ
  | .cnt, ρ => .ok .ct ρ
  | .pas, ρ => .ok .nx ρ
  | .frz _, ρ => .ok .nx ρ
def pvSs (C : PCtx) : ISs → PEnv → RP PFl
  | .nil, ρ => .ok .nx ρ
  | .cons s ss, ρ => (pvS C s ρ).bind fun f ρ' => match f with
    | .nx => pvSs C ss ρ'
    | f => .ok f ρ'
end
def pouts (io : List Nat) (np : Nat) (ρ : PEnv) : PEnv := match io with
  | [] => []
  | io => (List.range np).map fun j => if j ∈ io then pslot ρ j else none
def pretF (fd : FD) (r : RP PFl) : CP := match r with
  | .ok .nx ρ => .ok .non (pouts fd.io fd.np ρ)
  | .ok (.rt x) ρ => .ok x (pouts fd.io fd.np ρ)
  | .exc c _ => .exc c
  | _ => .bad
def penv0 (n : Nat) (xs : List D) : PEnv := xs.map some ++ List.replicate (n - xs.length) none
/-- is the value an atom, where the def is said to give one -/
def patOk (b : Bool) (r : CP) : CP := match r with
  | .ok (.nd t xs) outs => if b then .bad else .ok (.nd t xs) outs
  | r => r
def pvF (P : Prg) (S : List Bool) : Nat → Nat → List Nat → List D → CP
  | 0, _, _, _ => .bad
  | k + 1, f, ps, xs => match P.fs[f]? with
    | none => .bad
    | some fd => if xs.length = fd.np ∧ ps = fd.io ∧ fd.np ≤ fd.nN then patOk (S.getD f false) (pretF fd (pvSs ⟨pvF P S k, P.glob, fd.io, P.fuel⟩ fd.body (penv0 fd.nN xs))) else .bad
end Px
namespace Px
open PySem L2

/-! ### who owns what, said ahead of the run -/
/-- i: an atom; n: not owned; t: a list or dict that is owned at its root alone (else not owned); u: n or t; o: a list or dict that is owned; a: anything -/
inductive Oc where
  | i | n | t | u | o | a
  deriving DecidableEq
structure Ab where
  oc : Oc
  nf : Bool
  deriving DecidableEq
abbrev AG := List (Option Ab)
def Oc.le : Oc → Oc → Bool
  | .i, _ => true
  | .n, .n => true | .n, .u => true | .n, .a => true
  | .t, .t => true | .t, .u => true | .t, .o => true | .t, .a => true
  | .u, .u => true | .u, .a => true
  | .o, .o => true | .o, .a => true
  | .a, .a => true
  | _, _ => false
def Oc.join : Oc → Oc → Oc
  | .i, x => x
  | x, .i => x
  | .n, .n => .n | .n, .t => .u | .n, .u => .u
  | .t, .t => .t | .t, .n => .u | .t, .u => .u | .t, .o => .o
  | .u, .u => .u | .u, .n => .u | .u, .t => .u
  | .o, .o => .o | .o, .t => .o
  | _, _ => .a
def Ab.z (c : Ab) : Bool := c.nf || decide (c.oc = .i)
def Ab.le (c d : Ab) : Bool := c.oc.le d.oc && (!d.nf || c.z)
def Ab.join (c d : Ab) : Ab := ⟨c.oc.join d.oc, c.z && d.z⟩
def Ab.low (c : Ab) : Bool := decide (c.oc = .i) || decide (c.oc = .n)
def slA (σ : AG) (i : Nat) : Option Ab := (σ[i]?).join
def agLe : AG → AG → Bool
  | _, [] => true
  | [], b :: bs => b.isNone && agLe [] bs
  | a :: as, b :: bs => (match b with
    | none => true
    | some d => (match a with | some c => c.le d | none => false)) && agLe as bs
def agJoin : AG → AG → AG
  | a :: as, b :: bs => (match a, b with | some c, some d => some (c.join d) | _, _ => none) :: agJoin as bs
  | _, _ => []
def joinO : Option AG → Option AG → Option AG
  | none, y => y
  | x, none => x
  | some x, some y => some (agJoin x y)
def killA (σ : AG) : List Nat → AG
  | [] => σ
  | i :: is => killA (σ.set i none) is
def topA (σ : AG) : AG := σ.map fun _ => none
structure FS where
  ret : Ab
  ioc : Ab
  atom : Bool
def FS.r (s : FS) : Ab := if s.atom then ⟨.i, true⟩ else s.ret
inductive AOpd where
  | v (c : Ab) | b (i : Nat) | m (i : Nat)
def aget1 (σ : AG) : AOpd → Option Ab
  | .v c => some c
  | .b i => slA σ i
  | .m _ => none
def aget (σ : AG) : List AOpd → Option (List Ab)
  | [] => some []
  | o :: os => (aget1 σ o).bind fun c => (aget σ os).map (c :: ·)
def aarg (σ : AG) (ioc : Ab) : List AOpd → Bool
  | [] => true
  | .v _ :: os => aarg σ ioc os
  | .b i :: os => (slA σ i).isSome && aarg σ ioc os
  | .m i :: os => (match slA σ i with | some c => c.le ioc | none => false) && aarg σ ioc os
def aidxB : List AOpd → List Nat
  | [] => []
  | .b i :: os => i :: aidxB os
  | _ :: os => aidxB os
def aidxM : List AOpd → List Nat
  | [] => []
  | .m i :: os => i :: aidxM os
  | _ :: os => aidxM os
def Ab.deg (c : Ab) : Ab := match c.oc with
  | .i => c | .n => c | .t => ⟨.u, false⟩ | .u => ⟨.u, false⟩ | _ => ⟨.a, false⟩
def degA (σ : AG) : List Nat → AG
  | [] => σ
  | i :: is => degA (match slA σ i with | some c => σ.set i (some c.deg) | none => σ) is
def setA (σ : AG) (c : Ab) : List Nat → AG
  | [] => σ
  | i :: is => setA (σ.set i (some c)) c is
/-- a value that is lent -/
def Ab.lend (c : Ab) : Ab := if c.low then c else ⟨.n, false⟩
def lendA (σ : AG) (i : Nat) : AG := match slA σ i with
  | some c => if c.low then σ else σ.set i (some ⟨.n, false⟩)
  | none => σ
def atomOp : Op → Bool
  | .sub | .mul | .fdiv | .mod | .pow | .shl | .shr | .band | .neg | .eq | .ne | .lt | .le | .gt | .ge | .isN | .notN | .inn | .notIn | .isb | .len | .abs | .max2 | .min2 | .max1 | .min1 | .sum | .all | .any | .int1 | .isi _ => true
  | _ => false
def opBad (o : Op) (cs : List Ab) : Bool := (o.flow && cs.any fun c => decide (c.oc = .o) || decide (c.oc = .a)) || (decide (o = .rep) && (match cs with | c :: _ => decide (c.oc ≠ .t) | [] => true))
def opAtm (o : Op) (cs : List Ab) : Bool := atomOp o || (decide (o = .add) && cs.any fun c => decide (c.oc = .i))
def opCls (o : Op) (cs : List Ab) : Option Ab := if opBad o cs = true then none
  else if opAtm o cs = true then some ⟨.i, true⟩
  else some ⟨if o.fresh then .t else .n, !o.flow || cs.all Ab.z⟩
def appA (c cy : Ab) : Ab := ⟨if cy.low then c.oc else .o, c.z && cy.z⟩
def mutA (m : MOp) (c : Ab) (cs : List Ab) : Option (Ab × Ab) := if c.oc = .t ∨ c.oc = .o then (match m, cs with
    | .append, [cy] => some (⟨.i, true⟩, appA c cy)
    | .pop, [] => some (⟨.n, c.z && decide (c.oc = .t)⟩, c)
    | .clear, [] => some (⟨.i, true⟩, c)
    | .extend, [cy] => if cy.oc = .t ∨ cy.oc = .o then some (⟨.i, true⟩, ⟨if cy.oc = .t then c.oc else .o, c.z && cy.z⟩) else none
    | _, _ => none) else none
def tgtA (t : Tgt) (c : Ab) (σ : AG) : Option AG := match t with
  | .one i => some (σ.set i (some c))
  | .many is => if c.low then some (setA σ ⟨.n, c.z⟩ is) else none
def fixA {α : Type} (f : AG → Option (α × AG)) : Nat → AG → Option (α × AG)
  | 0, _ => none
  | n + 1, h => match f h with
    | none => none
    | some (x, p) => if agLe p h then some (x, h) else fixA f n (agJoin h p)
def opdA (e : IE) (σ : AG) (r : Option (Ab × AG)) : Option (AOpd × AG) := match e with
  | .var i => if (slA σ i).isSome then some (.b i, σ) else none
  | .io i => if (slA σ i).isSome then some (.m i, σ) else none
  | _ => r.map fun p => (.v p.1, p.2)
def tstA (r : Option (AOpd × AG)) : Option AG := r.bind fun p => (aget1 p.2 p.1).map fun _ => p.2
mutual
def abE (S : List FS) : AG → IE → AG → Option (Ab × AG)
  | X, .var i, σ => (slA σ i).map fun c => (c.lend, lendA σ i)
  | X, .mv i, σ => (slA σ i).map fun c => (c, σ.set i none)
  | X, .io _, _ => none
  | X, .cst _, σ => some (⟨.i, true⟩, σ)
  | X, .glob _, σ => some (⟨.n, true⟩, σ)
  | X, .op o es, σ => (abOs S X es σ).bind fun p => (aget p.2 p.1).bind fun cs => (opCls o cs).map fun c => (c, p.2)
  | X, .and a b, σ => (tstA (opdA a σ (abE S X a σ))).bind fun σ1 => (abE S X b σ1).map fun p => (p.1.join ⟨.i, true⟩, agJoin σ1 p.2)
  | X, .or a b, σ => (tstA (opdA a σ (abE S X a σ))).bind fun σ1 => (abE S X b σ1).map fun p => (p.1.join ⟨.i, true⟩, agJoin σ1 p.2)
  | X, .not a, σ => (tstA (opdA a σ (abE S X a σ))).map fun σ1 => (⟨.i, true⟩, σ1)
  | X, .ite c a b, σ => (tstA (opdA c σ (abE S X c σ))).bind fun σ1 => (abE S X a σ1).bind fun p => (abE S X b σ1).map fun q => (p.1.join q.1, agJoin p.2 q.2)
  | X, .chain o1 o2 a b c, σ => (opdA a σ (abE S X a σ)).bind fun p => (opdA b p.2 (abE S X b p.2)).bind fun q => (aget1 q.2 p.1).bind fun x => (aget1 q.2 q.1).bind fun y => (opCls o1 [x, y]).bind fun _ =>
      (opdA c q.2 (abE S X c q.2)).bind fun r => (aget1 r.2 q.1).bind fun y => (aget1 r.2 r.1).bind fun z => (opCls o2 [y, z]).map fun w => (w.join ⟨.i, true⟩, agJoin q.2 r.2)
  | X, .tup es, σ => (abEs S X es σ).map fun p => (⟨if p.1.all Ab.low then .n else .a, p.1.all Ab.z⟩, p.2)
  | X, .lst es, σ => (abEs S X es σ).map fun p => (⟨if p.1.all Ab.low then .t else .o, p.1.all Ab.z⟩, p.2)
  | X, .call f es, σ => (abOs S X es σ).bind fun p => (S[f]?).bind fun s => if aarg p.2 s.ioc p.1 && agLe (killA p.2 (aidxM p.1)) X then
      some (s.r, setA (if aidxM p.1 = [] ∧ s.r.z = true then p.2 else degA p.2 (aidxB p.1)) s.ioc (aidxM p.1)) else none
  | X, .comp e t it c kl, σ => (abI S X it σ).bind fun p => (fixA (fun h => (tgtA t p.1 h).bind fun h1 => (abCs S (topA σ) c h1).bind fun h2 => (abE S (topA σ) e h2).map fun q => (q.1, agJoin (killA h2 kl) (killA q.2 kl))) 8 (killA p.2 kl)).map fun q =>
      (⟨if q.1.low then .t else .o, q.1.z⟩, q.2)
  | X, .mut m i es, σ => (slA σ i).bind fun _ => (abEs S X es σ).bind fun p => (slA p.2 i).bind fun c => (mutA m c p.1).map fun q => (q.1, p.2.set i (some q.2))
  | X, .dget i es, σ => (slA σ i).bind fun _ => (abOs S X es σ).bind fun p => (aget p.2 (.b i :: p.1)).bind fun cs => (opCls .get1 cs).map fun c => (c, p.2)
  | X, .sdf i es, σ => (slA σ i).bind fun _ => (abEs S X es σ).bind fun p => (slA p.2 i).bind fun c => match p.1 with
    | [ck, cy] => if c.oc = .t ∧ cy.low = true then some (⟨.i, true⟩, p.2.set i (some ⟨.t, c.z⟩)) else none
    | _ => none
  | X, .dK0, σ => some (⟨.t, true⟩, σ)
  | X, .dT0, σ => some (⟨.t, true⟩, σ)
  | X, .imm e, σ => (abE S X e σ).map fun p => (⟨.n, true⟩, p.2)
  | X, .lent e, σ => (abE S X e σ).map fun p => (p.1.lend, p.2)
def abEs (S : List FS) : AG → IEs → AG → Option (List Ab × AG)
  | X, .nil, σ => some ([], σ)
  | X, .cons e es, σ => (abE S X e σ).bind fun p => (abEs S X es p.2).map fun q => (p.1 :: q.1, q.2)
def abOs (S : List FS) : AG → IEs → AG → Option (List AOpd × AG)
  | X, .nil, σ => some ([], σ)
  | X, .cons e es, σ => (opdA e σ (abE S X e σ)).bind fun p => (abOs S X es p.2).map fun q => (p.1 :: q.1, q.2)
def abCs (S : List FS) : AG → IEs → AG → Option AG
  | X, .nil, σ => some σ
  | X, .cons e es, σ => tstA (opdA e σ (abE S X e σ))
def abI (S : List FS) : AG → Itr → AG → Option (Ab × AG)
  | X, .seq e, σ => (abE S X e σ).map fun p => (⟨.n, p.1.low && p.1.z⟩, p.2)
  | X, .str e, σ => (abE S X e σ).map fun p => (⟨.i, true⟩, p.2)
  | X, .rng es, σ => (abOs S X es σ).bind fun p => (aget p.2 p.1).map fun _ => (⟨.i, true⟩, p.2)
  | X, .enum e, σ => (abE S X e σ).map fun p => (⟨.n, p.1.low && p.1.z⟩, p.2)
  | X, .zip a b, σ => (abE S X a σ).bind fun p => (abE S X b p.2).map fun q => (⟨.n, p.1.low && p.1.z && q.1.low && q.1.z⟩, q.2)
  | X, .rev e, σ => (abE S X e σ).map fun p => (⟨.n, p.1.low && p.1.z⟩, p.2)
end
abbrev abT (S : List FS) (X : AG) (e : IE) (σ : AG) : Option AG := tstA (opdA e σ (abE S X e σ))
structure AO where
  nx : Option AG
  bk : Option AG
  ct : Option AG
def AO.join (p q : AO) : AO := ⟨joinO p.nx q.nx, joinO p.bk q.bk, joinO p.ct q.ct⟩
def killO (kl : List Nat) (o : Option AG) : Option AG := o.map fun σ => killA σ kl
structure FX where
  ret : Ab
  ioc : Ab
  io : List Nat
def FX.okR (F : FX) (c : Ab) (σ : AG) : Bool := c.le F.ret && F.io.all fun j => match slA σ j with | some c => c.le F.ioc | none => false
mutual
def tchE : IE → List Nat
  | .var i => [i] | .mv i => [i] | .io i => [i] | .cst _ => [] | .glob _ => []
  | .op _ es => tchEs es
  | .and a b => tchE a ++ tchE b | .or a b => tchE a ++ tchE b | .not a => tchE a | .ite c a b => tchE c ++ tchE a ++ tchE b | .chain _ _ a b c => tchE a ++ tchE b ++ tchE c
  | .tup es => tchEs es | .lst es => tchEs es | .call _ es => tchOs es
  | .comp e t it c kl => kl ++ tchI it ++ tchE e ++ tchEs c
  | .mut _ i es => i :: tchEs es | .dget _ es => tchEs es | .sdf i es => i :: tchEs es
  | .dK0 => [] | .dT0 => [] | .imm e => tchE e | .lent e => tchE e
def tchEs : IEs → List Nat
  | .nil => []
  | .cons e es => tchE e ++ tchEs es
def tchOs : IEs → List Nat
  | .nil => []
  | .cons (.var _) es => tchOs es
  | .cons e es => tchE e ++ tchOs es
def tchI : Itr → List Nat
  | .seq e => tchE e | .str e => tchE e | .rng es => tchEs es | .enum e => tchE e | .zip a b => tchE a ++ tchE b | .rev e => tchE e
end
def tchT : Tgt → List Nat
  | .one i => [i]
  | .many is => is
mutual
def tchS : IS → List Nat
  | .asg i e => i :: tchE e | .asgT is e => is ++ tchE e | .par i j a b => i :: j :: (tchE a ++ tchE b) | .aug i _ e => i :: tchE e
  | .setIx i k e => i :: (tchE k ++ tchE e) | .augIx i _ k e => i :: (tchE k ++ tchE e) | .mutAt i k _ _ => i :: tchE k | .expr e => tchE e
  | .ifs c a b => tchE c ++ tchSs a ++ tchSs b | .whl c b kl => kl ++ tchE c ++ tchSs b | .fr t it b kl => kl ++ tchT t ++ tchI it ++ tchSs b
  | .ret e => tchE e | .tr b _ h => tchSs b ++ tchSs h | .frz i => [i]
  | _ => []
def tchSs : ISs → List Nat
  | .nil => []
  | .cons s ss => tchS s ++ tchSs ss
end
/-! what may be changed before something is raised -/
mutual
def tchX : IS → List Nat
  | .asg _ e => tchE e | .asgT _ e => tchE e
  | .ifs c a b => tchE c ++ tchXs a ++ tchXs b
  | s => tchS s
def tchXs : ISs → List Nat
  | .nil => []
  | .cons s .nil => tchX s
  | .cons s ss => tchS s ++ tchXs ss
end
def aoA (σ : AG) : Option MA → Bool
  | some (.var j) => (slA σ j).isSome
  | _ => true
mutual
def abS (S : List FS) (F : FX) : AG → IS → AG → Option AO
  | X, .asg i e, σ => (abE S X e σ).map fun p => ⟨some (p.2.set i (some p.1)), none, none⟩
  | X, .asgT is e, σ => (abE S X e σ).bind fun p => (tgtA (.many is) ⟨.n, p.1.low && p.1.z⟩ p.2).map fun σ' => ⟨some σ', none, none⟩
  | X, .par _ _ _ _, _ => none
  | X, .aug i o e, σ => (slA σ i).bind fun _ => (abT S X e σ).map fun σ' => ⟨some (σ'.set i (some ⟨.i, true⟩)), none, none⟩
  | X, .setIx i k e, σ => (abE S X e σ).bind fun p => (slA p.2 i).bind fun _ => (opdA k p.2 (abE S X k p.2)).bind fun q => (aget1 q.2 q.1).bind fun _ => (slA q.2 i).bind fun c => if c.oc = .t ∧ p.1.low = true then some ⟨some (q.2.set i (some ⟨.t, c.z && p.1.z⟩)), none, none⟩ else none
  | X, .augIx i o k e, σ => (slA σ i).bind fun _ => (opdA k σ (abE S X k σ)).bind fun p => (aget1 p.2 p.1).bind fun _ => (slA p.2 i).bind fun c1 => (opdA e p.2 (abE S X e p.2)).bind fun q => (aget1 q.2 q.1).bind fun _ => (slA q.2 i).bind fun c => if c1.oc = .t ∧ c.oc = .t then some ⟨some (q.2.set i (some ⟨.t, c.z⟩)), none, none⟩ else none
  | X, .mutAt i k m a, σ => (slA σ i).bind fun _ => (opdA k σ (abE S X k σ)).bind fun q => (aget1 q.2 q.1).bind fun _ => (slA q.2 i).bind fun c => if (c.nf && aoA q.2 a) = true then some ⟨some (q.2.set i (some c)), none, none⟩ else none
  | X, .expr e, σ => (abE S X e σ).map fun p => ⟨some p.2, none, none⟩
  | X, .ifs c a b, σ => (abT S X c σ).bind fun σ1 => (abSs S F X a σ1).bind fun p => (abSs S F X b σ1).map fun q => p.join q
  | X, .whl c b kl, σ => (fixA (fun h => (abT S X c h).bind fun h1 => (abSs S F X b h1).bind fun o => (joinO (some (killA h1 kl)) (killO kl o.bk)).map fun out => (out, ((joinO (killO kl o.nx) (killO kl o.ct)).getD h))) 8 σ).map fun p => ⟨some p.1, none, none⟩
  | X, .fr t it b kl, σ => (abI S X it σ).bind fun p => (fixA (fun h => (tgtA t p.1 h).bind fun h1 => (abSs S F X b h1).bind fun o => (joinO (some (killA h kl)) (killO kl o.bk)).map fun out => (out, ((joinO (killO kl o.nx) (killO kl o.ct)).getD h))) 8 p.2).map fun p => ⟨some p.1, none, none⟩
  | X, .ret e, σ => (abE S X e σ).bind fun p => if F.okR p.1 p.2 then some ⟨none, none, none⟩ else none
  | X, .retN, σ => if F.okR ⟨.i, true⟩ σ then some ⟨none, none, none⟩ else none
  | X, .rais _, σ => if agLe σ X then some ⟨none, none, none⟩ else none
  | X, .tr b _ h, σ => (abSs S F (killA σ (tchXs b)) b σ).bind fun p => (abSs S F X h (killA σ (tchXs b))).map fun q => p.join q
  | X, .brk, σ => some ⟨none, some σ, none⟩
  | X, .cnt, σ => some ⟨none, none, some σ⟩
  | X, .pas, σ => some ⟨some σ, none, none⟩
  | X, .frz i, σ => some ⟨some (lendA σ i), none, none⟩
def abSs (S : List FS) (F : FX) : AG → ISs → AG → Option AO
  | X, .nil, σ => some ⟨some σ, none, none⟩
  | X, .cons s ss, σ => (abS S F X s σ).bind fun p => match p.nx with
    | none => some p
    | some σ' => (abSs S F X ss σ').map fun q => ⟨q.nx, joinO p.bk q.bk, joinO p.ct q.ct⟩
end
def abF (S : List FS) (s : FS) (fd : FD) : Bool := match abSs S ⟨s.ret, s.ioc, fd.io⟩ (List.replicate fd.nN none) fd.body ((List.range fd.nN).map fun j => if j < fd.np then (if j ∈ fd.io then some s.ioc else some ⟨.n, false⟩) else none) with
  | some o => (match o.nx with | none => true | some σ => FX.okR ⟨s.ret, s.ioc, fd.io⟩ ⟨.i, true⟩ σ) && o.bk.isNone && o.ct.isNone && fd.io.all fun j => decide (j < fd.np)
  | none => false
def abP (S : List FS) (fs : List FD) : Bool := decide (S.length = fs.length) && (S.zip fs).all fun p => abF S p.1 p.2
end Px
namespace Px
open PySem L2

/-! ### what is said ahead holds -/
def isM : D → Bool
  | .at _ => false
  | .nd .tup _ => false
  | .nd _ _ => true
def OcOk (c : Oc) (x : Val) : Prop := match c with
  | .i => ∃ a, x.d = .at a
  | .n => x.ow = .no
  | .t => x.ow = if isM x.d then .top else .no
  | .u => x.ow ≠ .deep
  | .o => isM x.d = true → x.ow ≠ .no
  | .a => True
def AtOk (x : Val) : Prop := ∀ a, x.d = .at a → x.ow = .no ∧ x.fz = false
def OkV (c : Ab) (x : Val) : Prop := AtOk x ∧ OcOk c.oc x ∧ (c.nf = true → x.fz = false)
theorem okV_z {c : Ab} {x : Val} (h : OkV c x) (hz : c.z = true) : x.fz = false := by
  unfold Ab.z at hz
  rcases Bool.or_eq_true _ _ ▸ hz with h1 | h1
  · exact h.2.2 h1
  · have := h.2.1
    rw [of_decide_eq_true h1] at this
    obtain ⟨a, e⟩ := this
    exact (h.1 a e).2
theorem oc_le {c d : Oc} {x : Val} (ha : AtOk x) (h : c.le d = true) (hx : OcOk c x) : OcOk d x := by
  have at_ : ∀ a, x.d = .at a → x.ow = .no := fun a e => (ha a e).1
  cases c <;> cases d <;> first
    | (exact hx)
    | (exact trivial)
    | (cases h; done)
    | (obtain ⟨a, e⟩ := hx; have := at_ a e; simp [OcOk, e, isM, this]; done)
    | (have hx : x.ow = .no := hx; simp [OcOk, hx]; done)
    | (have hx : x.ow = if isM x.d then Ow.top else Ow.no := hx
       show x.ow ≠ Ow.deep
       rw [hx]; split <;> simp
       done)
    | (have hx : x.ow = if isM x.d then Ow.top else Ow.no := hx
       show isM x.d = true → x.ow ≠ Ow.no
       intro h; rw [hx, if_pos h]; simp
       done)
theorem okV_le {c d : Ab} {x : Val} (h : c.le d = true) (hx : OkV c x) : OkV d x := by
  unfold Ab.le at h
  rw [Bool.and_eq_true] at h
  refine ⟨hx.1, oc_le hx.1 h.1 hx.2.1, fun z => ?_⟩
  have := h.2
  rw [z] at this
  exact okV_z hx (by simpa using this)
theorem le_joinL (c d : Oc) : c.le (c.join d) = true := by cases c <;> cases d <;> rfl
theorem le_joinR (c d : Oc) : d.le (c.join d) = true := by cases c <;> cases d <;> rfl
theorem ab_joinL (c d : Ab) : c.le (c.join d) = true := by
  unfold Ab.le Ab.join
  rw [le_joinL]
  cases c.z <;> cases d.z <;> rfl
theorem ab_joinR (c d : Ab) : d.le (c.join d) = true := by
  unfold Ab.le Ab.join
  rw [le_joinR]
  cases c.z <;> cases d.z <;> rfl
/-- the state: what is said of the live slots -/
def Fit (σ : AG) (ρ : PEnv) (Γ : Gam) : Prop := ρ.length = Γ.length ∧ ∀ i c, slA σ i = some c → ∃ x, slotG Γ i = some x ∧ pslot ρ i = some x.d ∧ OkV c x
theorem slA_cons {a : Option Ab} {as : AG} {i : Nat} : slA (a :: as) (i + 1) = slA as i := rfl
theorem agLe_at : ∀ {σ τ : AG} {i : Nat} {d : Ab}, agLe σ τ = true → slA τ i = some d → ∃ c, slA σ i = some c ∧ c.le d = true
  | _, [], i, d, _, h => by cases h
  | [], b :: bs, i, d, h, e => by
    simp only [agLe, Bool.and_eq_true] at h
    cases i with
    | zero =>
      cases b with
      | none => cases e
      | some b => cases h.1
    | succ i =>
      obtain ⟨c, h1, h2⟩ := agLe_at (σ := []) (τ := bs) (i := i) h.2 e
      cases h1
  | a :: as, b :: bs, i, d, h, e => by
    simp only [agLe, Bool.and_eq_true] at h
    cases i with
    | zero =>
      have e : b = some d := e
      subst e
      have h := h.1
      dsimp only at h
      cases a with
      | none => cases h
      | some c => exact ⟨c, rfl, h⟩
    | succ i => exact agLe_at (σ := as) (τ := bs) (i := i) h.2 e
theorem Fit.le {σ τ : AG} {ρ : PEnv} {Γ : Gam} (h : Fit σ ρ Γ) (l : agLe σ τ = true) : Fit τ ρ Γ := ⟨h.1, fun i d e => by
  obtain ⟨c, e1, e2⟩ := agLe_at l e
  obtain ⟨x, h1, h2, h3⟩ := h.2 i c e1
  exact ⟨x, h1, h2, okV_le e2 h3⟩⟩
theorem agJoin_at : ∀ {σ τ : AG} {i : Nat} {d : Ab}, slA (agJoin σ τ) i = some d → ∃ c e, slA σ i = some c ∧ slA τ i = some e ∧ d = c.join e
  | [], [], i, d, h => by cases h
  | [], _ :: _, i, d, h => by cases h
  | _ :: _, [], i, d, h => by cases h
  | none :: as, b :: bs, 0, d, h => by cases h
  | some c :: as, none :: bs, 0, d, h => by cases h
  | some c :: as, some e :: bs, 0, d, h => by
    have h : some (c.join e) = some d := h
    exact ⟨c, e, rfl, rfl, (Option.some.inj h).symm⟩
  | a :: as, b :: bs, i + 1, d, h => agJoin_at (σ := as) (τ := bs) (i := i) h
theorem Fit.joinL {σ τ : AG} {ρ : PEnv} {Γ : Gam} (h : Fit σ ρ Γ) : Fit (agJoin σ τ) ρ Γ := ⟨h.1, fun i d e => by
  obtain ⟨c, c', e1, _, rfl⟩ := agJoin_at e
  obtain ⟨x, h1, h2, h3⟩ := h.2 i c e1
  exact ⟨x, h1, h2, okV_le (ab_joinL c c') h3⟩⟩
theorem Fit.joinR {σ τ : AG} {ρ : PEnv} {Γ : Gam} (h : Fit τ ρ Γ) : Fit (agJoin σ τ) ρ Γ := ⟨h.1, fun i d e => by
  obtain ⟨c, c', _, e1, rfl⟩ := agJoin_at e
  obtain ⟨x, h1, h2, h3⟩ := h.2 i c' e1
  exact ⟨x, h1, h2, okV_le (ab_joinR c c') h3⟩⟩
theorem slA_set {σ : AG} {i j : Nat} {o : Option Ab} {c : Ab} (h : slA (σ.set i o) j = some c) : (i = j ∧ o = some c) ∨ (i ≠ j ∧ slA σ j = some c) := by
  unfold slA at h ⊢
  rw [List.getElem?_set] at h
  by_cases e : i = j
  · subst e
    rw [if_pos rfl] at h
    split at h
    · exact .inl ⟨rfl, h⟩
    · cases h
  · rw [if_neg e] at h
    exact .inr ⟨e, h⟩
theorem slotG_def' {Γ : Gam} {i : Nat} : slotG Γ i = (Γ[i]?).join := by
  unfold slotG
  cases Γ[i]? with
  | none => rfl
  | some o => cases o <;> rfl
theorem slotG_ne {Γ : Gam} {i j : Nat} {o : Option Val} (h : i ≠ j) : slotG (Γ.set i o) j = slotG Γ j := by
  rw [slotG_def', slotG_def', List.getElem?_set, if_neg h]
theorem pslot_ne {ρ : PEnv} {i j : Nat} {o : Option D} (h : i ≠ j) : pslot (ρ.set i o) j = pslot ρ j := by
  unfold pslot
  rw [List.getElem?_set, if_neg h]
theorem pslot_set {ρ : PEnv} {i : Nat} {d : D} (h : i < ρ.length) : pslot (ρ.set i (some d)) i = some d := by
  unfold pslot
  rw [List.getElem?_set_self h]
  rfl
theorem slotG_lt {Γ : Gam} {i : Nat} {x : Val} (h : slotG Γ i = some x) : i < Γ.length := (List.getElem?_eq_some_iff.mp (slotG_some.mp h)).1
section
variable {σ τ X : AG} {ρ ρ' : PEnv} {Γ Γ' : Gam} {x y : Val} {c d : Ab} {i : Nat}
theorem Fit.set (h : Fit σ ρ Γ) (hi : i < Γ.length) (ok : OkV c x) : Fit (σ.set i (some c)) (ρ.set i (some x.d)) (Γ.set i (some x)) := ⟨by simp [h.1], fun j d e => by
  rcases slA_set e with ⟨rfl, e2⟩ | ⟨ne, e⟩
  · cases e2
    exact ⟨x, slot_set hi, pslot_set (by rw [h.1]; exact hi), ok⟩
  · rw [slotG_ne ne, pslot_ne ne]
    exact h.2 j d e⟩
theorem Fit.setG (h : Fit σ ρ Γ) (hx : pslot ρ i = some x.d) (hi : i < Γ.length) (ok : OkV c x) : Fit (σ.set i (some c)) ρ (Γ.set i (some x)) := ⟨by simp [h.1], fun j d e => by
  rcases slA_set e with ⟨rfl, e2⟩ | ⟨ne, e⟩
  · cases e2
    exact ⟨x, slot_set hi, hx, ok⟩
  · rw [slotG_ne ne]
    exact h.2 j d e⟩
theorem Fit.mv (h : Fit σ ρ Γ) : Fit (σ.set i none) ρ (Γ.set i none) := ⟨by simp [h.1], fun j d e => by
  rcases slA_set e with ⟨_, e2⟩ | ⟨ne, e⟩
  · cases e2
  · rw [slotG_ne ne]
    exact h.2 j d e⟩
theorem Fit.kill1 (h : Fit σ ρ Γ) : Fit (σ.set i none) (ρ.set i none) (Γ.set i none) := ⟨by simp [h.1], fun j d e => by
  rcases slA_set e with ⟨_, e2⟩ | ⟨ne, e⟩
  · cases e2
  · rw [slotG_ne ne, pslot_ne ne]
    exact h.2 j d e⟩
theorem Fit.kill : ∀ {kl : List Nat} {σ : AG} {ρ : PEnv} {Γ : Gam}, Fit σ ρ Γ → Fit (killA σ kl) (pkill ρ kl) (killG Γ kl)
  | [], _, _, _, h => h
  | i :: kl, _, _, _, h => Fit.kill (kl := kl) h.kill1
theorem low_no (h : c.low = true) (ok : OkV c x) : x.ow = .no := by
  unfold Ab.low at h
  rcases Bool.or_eq_true _ _ ▸ h with h | h
  · have := ok.2.1
    rw [of_decide_eq_true h] at this
    obtain ⟨a, e⟩ := this
    exact (ok.1 a e).1
  · have := ok.2.1
    rw [of_decide_eq_true h] at this
    exact this
theorem lend_at (h : AtOk x) : AtOk (lend x) := fun a e => by
  obtain ⟨h1, h2⟩ := h a e
  exact ⟨rfl, by show (x.fz || decide (x.ow ≠ .no)) = false; rw [h1, h2]; rfl⟩
theorem lend_ok (h : OkV c x) : OkV c.lend (lend x) := by
  unfold Ab.lend
  by_cases hl : c.low = true
  · rw [if_pos hl, lend_no (low_no hl h)]
    exact h
  · rw [if_neg hl]
    exact ⟨lend_at h.1, rfl, fun z => by cases z⟩
theorem lend_n (h : AtOk x) : OkV ⟨.n, false⟩ (lend x) := ⟨lend_at h, rfl, fun z => by cases z⟩
theorem Fit.lendI (h : Fit σ ρ Γ) : Fit (lendA σ i) ρ (Px.lendI Γ i) := by
  unfold lendA
  cases e : slA σ i with
  | none =>
    refine ⟨?_, fun j d e2 => ?_⟩
    · rw [h.1]; unfold Px.lendI; split <;> (try split) <;> simp
    · have ne : i ≠ j := fun z => by subst z; rw [e] at e2; cases e2
      obtain ⟨x, h1, h2⟩ := h.2 j d e2
      refine ⟨x, ?_, h2⟩
      unfold Px.lendI
      split
      · split
        · exact h1
        · rw [slotG_ne ne]; exact h1
      · exact h1
  | some c =>
    obtain ⟨x, h1, h2, h3⟩ := h.2 i c e
    unfold Px.lendI
    rw [h1]
    dsimp only
    by_cases hl : c.low = true
    · rw [if_pos hl, if_pos (low_no hl h3)]
      exact h
    · rw [if_neg hl]
      split
      · rename_i ho
        refine ⟨h.1, fun j d e2 => ?_⟩
        rcases slA_set e2 with ⟨rfl, e3⟩ | ⟨ne, e2⟩
        · cases e3
          exact ⟨x, h1, h2, h3.1, ho, fun z => by cases z⟩
        · exact h.2 j d e2
      · exact h.setG (x := lend x) h2 (slotG_lt h1) (lend_n h3.1)
theorem deg_ok (h : OkV c x) : OkV c.deg x ∧ OkV c.deg (lend x) := by
  unfold Ab.deg
  cases e : c.oc <;> dsimp only
  · refine ⟨h, ?_⟩
    rw [lend_no (low_no (by unfold Ab.low; rw [e]; rfl) h)]; exact h
  · refine ⟨h, ?_⟩
    rw [lend_no (low_no (by unfold Ab.low; rw [e]; rfl) h)]; exact h
  · have h2 : OcOk .u x := oc_le (c := .t) h.1 rfl (e ▸ h.2.1)
    exact ⟨⟨h.1, h2, fun z => by cases z⟩, lend_at h.1, (by simp [OcOk, lend]), fun z => by cases z⟩
  · exact ⟨⟨h.1, e ▸ h.2.1, fun z => by cases z⟩, lend_at h.1, (by simp [OcOk, lend]), fun z => by cases z⟩
  · exact ⟨⟨h.1, trivial, fun z => by cases z⟩, lend_at h.1, trivial, fun z => by cases z⟩
  · exact ⟨⟨h.1, trivial, fun z => by cases z⟩, lend_at h.1, trivial, fun z => by cases z⟩
theorem Fit.deg1 (h : Fit σ ρ Γ) : Fit (match slA σ i with | some c => σ.set i (some c.deg) | none => σ) ρ Γ ∧ Fit (match slA σ i with | some c => σ.set i (some c.deg) | none => σ) ρ (Px.lendI Γ i) := by
  cases e : slA σ i with
  | none =>
    refine ⟨h, ?_⟩
    have := h.lendI (i := i)
    unfold lendA at this
    rw [e] at this
    exact this
  | some c =>
    obtain ⟨x, h1, h2, h3⟩ := h.2 i c e
    have q : Fit (σ.set i (some c.deg)) ρ Γ := ⟨h.1, fun j d e2 => by
      rcases slA_set e2 with ⟨rfl, e3⟩ | ⟨ne, e2⟩
      · cases e3; exact ⟨x, h1, h2, (deg_ok h3).1⟩
      · exact h.2 j d e2⟩
    refine ⟨q, ?_⟩
    dsimp only
    unfold Px.lendI
    rw [h1]
    dsimp only
    split
    · exact q
    · exact h.setG (x := lend x) h2 (slotG_lt h1) (deg_ok h3).2
theorem Fit.deg : ∀ {is : List Nat} {σ : AG} {ρ : PEnv} {Γ : Gam}, Fit σ ρ Γ → Fit (degA σ is) ρ Γ ∧ Fit (degA σ is) ρ (lendAll Γ is)
  | [], _, _, _, h => ⟨h, h⟩
  | i :: is, _, _, _, h => ⟨(Fit.deg (is := is) (h.deg1 (i := i)).1).1, (Fit.deg (is := is) (h.deg1 (i := i)).2).2⟩
end

/-! ### two runs side by side -/
def RR {α β : Type} (X : AG) (Q : α → Gam → β → PEnv → Prop) : R α → RP β → Prop
  | _, .bad => True
  | .exc c Γ, .exc c' ρ => c = c' ∧ Fit X ρ Γ
  | .ok a Γ, .ok b ρ => Q a Γ b ρ
  | _, _ => False
section
variable {α β γ δ : Type} {X : AG} {Q : α → Gam → β → PEnv → Prop} {Q' : γ → Gam → δ → PEnv → Prop}
theorem RR.bind {m : R α} {m' : RP β} {f : α → Gam → R γ} {f' : β → PEnv → RP δ} (h : RR X Q m m') (k : ∀ a Γ b ρ, Q a Γ b ρ → RR X Q' (f a Γ) (f' b ρ)) : RR X Q' (m.bind f) (m'.bind f') := by
  cases m' with
  | bad => cases m <;> trivial
  | exc c ρ => cases m <;> first | exact h.elim | exact h
  | ok b ρ => cases m <;> first | exact h.elim | exact k _ _ _ _ h
theorem RR.bad {m : R α} : RR X Q m .bad := by cases m <;> trivial
theorem RR.imp {Q2 : α → Gam → β → PEnv → Prop} {m : R α} {m' : RP β} (h : RR X Q m m') (k : ∀ a Γ b ρ, Q a Γ b ρ → Q2 a Γ b ρ) : RR X Q2 m m' := by
  cases m' with
  | bad => cases m <;> trivial
  | exc c ρ => cases m <;> first | exact h.elim | exact h
  | ok b ρ => cases m <;> first | exact h.elim | exact k _ _ _ _ h
end
def QE (c : Ab) (σ : AG) : Val → Gam → D → PEnv → Prop := fun x Γ d ρ => x.d = d ∧ OkV c x ∧ Fit σ ρ Γ
/-- values side by side -/
inductive Vs3 : List Ab → List Val → List D → Prop
  | nil : Vs3 [] [] []
  | cons {c : Ab} {x : Val} {cs : List Ab} {xs : List Val} {ds : List D} : OkV c x → Vs3 cs xs ds → Vs3 (c :: cs) (x :: xs) (x.d :: ds)
def QEs (cs : List Ab) (σ : AG) : List Val → Gam → List D → PEnv → Prop := fun xs Γ ds ρ => Vs3 cs xs ds ∧ Fit σ ρ Γ
inductive Op1 : AOpd → Opd → POpd → Prop
  | v {c : Ab} {x : Val} : OkV c x → Op1 (.v c) (.v x) (.v x.d)
  | b (i : Nat) : Op1 (.b i) (.b i) (.b i)
  | m (i : Nat) : Op1 (.m i) (.m i) (.m i)
inductive Ops3 : List AOpd → List Opd → List POpd → Prop
  | nil : Ops3 [] [] []
  | cons {a : AOpd} {o : Opd} {p : POpd} {as : List AOpd} {os : List Opd} {ps : List POpd} : Op1 a o p → Ops3 as os ps → Ops3 (a :: as) (o :: os) (p :: ps)
def QO (a : AOpd) (σ : AG) : Opd → Gam → POpd → PEnv → Prop := fun o Γ p ρ => Op1 a o p ∧ Fit σ ρ Γ
def QOs (as : List AOpd) (σ : AG) : List Opd → Gam → List POpd → PEnv → Prop := fun os Γ ps ρ => Ops3 as os ps ∧ Fit σ ρ Γ
section
variable {σ τ X : AG} {ρ ρ' : PEnv} {Γ Γ' : Gam} {x y : Val} {c d : Ab} {i : Nat}
theorem Vs3.eq : ∀ {cs : List Ab} {xs : List Val} {ds : List D}, Vs3 cs xs ds → xs.map (·.d) = ds
  | _, _, _, .nil => rfl
  | _, _, _, .cons _ h => by rw [List.map_cons, h.eq]
theorem Vs3.len : ∀ {cs : List Ab} {xs : List Val} {ds : List D}, Vs3 cs xs ds → xs.length = ds.length ∧ cs.length = ds.length
  | _, _, _, .nil => ⟨rfl, rfl⟩
  | _, _, _, .cons _ h => by simp [h.len]
theorem Vs3.all : ∀ {cs : List Ab} {xs : List Val} {ds : List D}, Vs3 cs xs ds → (cs.all Ab.low = true → anyOw xs = false) ∧ (cs.all Ab.z = true → anyFz xs = false)
  | _, _, _, .nil => ⟨fun _ => rfl, fun _ => rfl⟩
  | _, _, _, .cons (c := c) (x := x) (xs := xs) ok h => by
    obtain ⟨h1, h2⟩ := h.all
    refine ⟨fun z => ?_, fun z => ?_⟩
    · rw [List.all_cons, Bool.and_eq_true] at z
      show (decide (x.ow ≠ .no) || anyOw xs) = false
      rw [h1 z.2, low_no z.1 ok]; rfl
    · rw [List.all_cons, Bool.and_eq_true] at z
      show (x.fz || anyFz xs) = false
      rw [h2 z.2, okV_z ok z.1]; rfl
theorem get1_ok {a : AOpd} {o : Opd} {p : POpd} (h : Op1 a o p) (F : Fit σ ρ Γ) (e : aget1 σ a = some c) : ∃ x, getD1 Γ o = some x ∧ pget1 ρ p = some x.d ∧ OkV c x := by
  cases h with
  | v ok => cases e; exact ⟨_, rfl, rfl, ok⟩
  | b i => exact F.2 i c e
  | m i => cases e
theorem get_ok : ∀ {as : List AOpd} {os : List Opd} {ps : List POpd} {cs : List Ab}, Ops3 as os ps → Fit σ ρ Γ → aget σ as = some cs → ∃ xs ds, getO Γ os = some xs ∧ pget ρ ps = some ds ∧ Vs3 cs xs ds ∧ idxM os = [] ∧ pidxM ps = []
  | _, _, _, _, .nil, F, e => by cases e; exact ⟨[], [], rfl, rfl, .nil, rfl, rfl⟩
  | _, _, _, _, .cons (a := a) (as := as) h hs, F, e => by
    have e : ((aget1 σ a).bind fun c => (aget σ as).map (c :: ·)) = some _ := e
    cases e1 : aget1 σ a with
    | none => rw [e1] at e; cases e
    | some c =>
      cases e2 : aget σ as with
      | none => rw [e1, e2] at e; cases e
      | some cs =>
        rw [e1, e2] at e; cases e
        obtain ⟨xs, ds, q1, q2, q3, q4, q5⟩ := get_ok hs F e2
        cases h with
        | v ok =>
          cases e1
          refine ⟨_ :: xs, _ :: ds, ?_, ?_, .cons ok q3, q4, q5⟩
          · show (getO Γ _).map (_ :: ·) = _
            rw [q1]; rfl
          · show (pget1 ρ _).bind _ = _
            show (pget ρ _).map (_ :: ·) = _
            rw [q2]; rfl
        | b i =>
          obtain ⟨x, h1, h2, h3⟩ := F.2 i c e1
          refine ⟨x :: xs, x.d :: ds, ?_, ?_, .cons h3 q3, q4, q5⟩
          · show (slotG Γ i).bind (fun x => (getO Γ _).map (x :: ·)) = _
            rw [h1, q1]; rfl
          · show (pslot ρ i).bind (fun x => (pget ρ _).map (x :: ·)) = _
            rw [h2, q2]; rfl
        | m i => cases e1
theorem tag_ok {o : Op} {f : Bool} {d : D} {nf : Bool} (hf : (o.flow && f) = true → nf = false) : OkV ⟨if o.fresh then .t else .n, nf⟩ (o.tag f d) := by
  have nz : nf = true → (o.flow && f) = false := fun h => by
    cases e : (o.flow && f) with
    | false => rfl
    | true => rw [hf e] at h; cases h
  cases d with
  | «at» a =>
    refine ⟨fun _ _ => ⟨rfl, rfl⟩, ?_, fun _ => rfl⟩
    cases o.fresh <;> rfl
  | nd t xs =>
    cases t <;> (refine ⟨(fun a e => by cases e), ?_, fun z => nz z⟩; show OcOk (if o.fresh then Oc.t else Oc.n) _; cases hq : o.fresh <;> simp [OcOk, Op.tag, isM, hq])
theorem atomOp_at {o : Op} {ds : List D} {d : D} (h : atomOp o = true) (hs : opSem o ds = some d) : ∃ a, d = .at a := by
  unfold opSem at hs
  split at hs <;> first
    | (cases h; done)
    | (simp only [dSub, dMul, dFdiv, dMod, dPow, dShl, dShr, dBand, dNeg, dCmp, dLen, onInts, onBls, Option.map_eq_some_iff, Option.bind_eq_some_iff] at hs
       first
        | (obtain ⟨_, _, rfl⟩ := hs; exact ⟨_, rfl⟩)
        | (repeat' (split at hs))
          <;> first
            | (cases hs; exact ⟨_, rfl⟩)
            | (cases hs; done)
            | (simp only [Option.map_eq_some_iff, Option.bind_eq_some_iff] at hs; obtain ⟨_, _, _, _, rfl⟩ := hs; exact ⟨_, rfl⟩)
            | (simp only [Option.map_eq_some_iff, Option.bind_eq_some_iff] at hs; obtain ⟨_, _, rfl⟩ := hs; exact ⟨_, rfl⟩))
    | (cases hs; done)
    | (cases hs; exact ⟨_, rfl⟩)
theorem add_at {cs : List Ab} {xs : List Val} {ds : List D} {d : D} (h : Vs3 cs xs ds) (hc : (cs.any fun c => decide (c.oc = .i)) = true) (hs : opSem .add ds = some d) : ∃ a, d = .at a := by
  cases h with
  | nil => cases hc
  | @cons c1 x1 cs xs ds ok1 h =>
    cases h with
    | nil => cases hs
    | @cons c2 x2 cs xs ds ok2 h =>
      cases h with
      | cons _ _ => cases hs
      | nil =>
        have hs : dAdd x1.d x2.d = some d := hs
        have key : (∃ a, x1.d = .at a) ∨ ∃ a, x2.d = .at a := by
          rw [List.any_cons, List.any_cons, List.any_nil, Bool.or_false] at hc
          rcases Bool.or_eq_true _ _ ▸ hc with h | h
          · have := ok1.2.1; rw [of_decide_eq_true h] at this; exact .inl this
          · have := ok2.2.1; rw [of_decide_eq_true h] at this; exact .inr this
        unfold dAdd at hs
        split at hs
        · cases hs; exact ⟨_, rfl⟩
        · split at hs
          · cases hs; exact ⟨_, rfl⟩
          · cases hs
        · rename_i e1 e2
          rcases key with ⟨a, e⟩ | ⟨a, e⟩
          · rw [e] at e1; cases e1
          · rw [e] at e2; cases e2
        · rename_i e1 e2
          rcases key with ⟨a, e⟩ | ⟨a, e⟩
          · rw [e] at e1; cases e1
          · rw [e] at e2; cases e2
        · cases hs
theorem op_ok {o : Op} {cs : List Ab} {xs : List Val} {ds : List D} (h : Vs3 cs xs ds) (hc : opCls o cs = some c) {d : D} (hs : opSem o ds = some d) : ∃ x, opVal o xs = some x ∧ x.d = d ∧ OkV c x := by
  have hd0 := h.eq
  unfold opCls at hc
  by_cases hn : opBad o cs = true
  · rw [if_pos hn] at hc; cases hc
  · rw [if_neg hn] at hc
    rw [Bool.not_eq_true] at hn
    unfold opBad at hn
    rw [Bool.or_eq_false_iff] at hn
    obtain ⟨hn1, hn2⟩ := hn
    have dp : (o.flow && anyDeep xs) = false := by
      cases hfl : o.flow with
      | false => rfl
      | true =>
        rw [hfl, Bool.true_and] at hn1
        show anyDeep xs = false
        clear hn2 hc hs hfl hd0
        induction h with
        | nil => rfl
        | @cons c x cs xs ds ok h ih =>
          rw [List.any_cons, Bool.or_eq_false_iff] at hn1
          show (decide (x.ow = .deep) || anyDeep xs) = false
          rw [ih hn1.2, Bool.or_false]
          apply decide_eq_false
          intro hd
          have ok0 := ok
          have ok := ok.2.1
          rw [Bool.or_eq_false_iff] at hn1
          have h1 := of_decide_eq_false hn1.1.1
          have h2 := of_decide_eq_false hn1.1.2
          cases hoc : c.oc <;> rw [hoc] at ok
          · obtain ⟨a, e⟩ := ok
            have := (ok0.1 a e).1
            rw [hd] at this; cases this
          · have ok : x.ow = .no := ok
            rw [hd] at ok; cases ok
          · have ok : x.ow = if isM x.d then .top else .no := ok
            rw [hd] at ok
            split at ok <;> cases ok
          · exact ok hd
          · exact h1 hoc
          · exact h2 hoc
    have rp : repOk o xs = true := by
      unfold repOk
      by_cases ho : o = .rep
      · rw [if_pos ho]
        subst ho
        rw [decide_eq_true rfl, Bool.true_and] at hn2
        cases h with
        | nil => cases hn2
        | @cons c x cs xs ds ok h =>
          have hn2 : decide (c.oc ≠ .t) = false := hn2
          have hoc : c.oc = .t := by simpa using hn2
          have ok := ok.2.1
          rw [hoc] at ok
          have ok : x.ow = if isM x.d then .top else .no := ok
          have : isM x.d = true := by
            cases h with
            | nil => cases hs
            | @cons c2 x2 cs xs ds ok2 h =>
              cases h with
              | nil =>
                cases e : x.d with
                | «at» a => rw [e] at hs; cases hs
                | nd t zs =>
                  rw [e] at hs
                  cases t <;> first | rfl | cases hs
              | cons _ _ => cases hs
          rw [this] at ok
          exact decide_eq_true ok
      · rw [if_neg ho]
    have ev : opVal o xs = some (o.tag (anyFz xs) d) := by
      unfold opVal
      rw [dp, rp, h.eq, hs]
      rfl
    refine ⟨_, ev, by cases d with
      | «at» a => rfl
      | nd t ys => cases t <;> rfl, ?_⟩
    by_cases ha : opAtm o cs = true
    · rw [if_pos ha] at hc
      cases hc
      unfold opAtm at ha
      have : ∃ a, d = .at a := by
        rcases Bool.or_eq_true _ _ ▸ ha with ha | ha
        · exact atomOp_at ha hs
        · rw [Bool.and_eq_true] at ha
          have ho := of_decide_eq_true ha.1
          subst ho
          exact add_at h ha.2 hs
      obtain ⟨a, rfl⟩ := this
      exact ⟨fun _ _ => ⟨rfl, rfl⟩, ⟨a, rfl⟩, fun _ => rfl⟩
    · rw [if_neg ha] at hc
      cases hc
      refine tag_ok fun hf => ?_
      rw [Bool.and_eq_true] at hf
      rw [hf.1]
      cases hz : cs.all Ab.z with
      | false => rfl
      | true => rw [h.all.2 hz] at hf; cases hf.2
end
end Px
namespace Px
open PySem L2

def ArgsR (s : FS) (ps : List Nat) (xs : List Val) (ds : List D) : Prop := xs.map (·.d) = ds ∧ ∀ (j : Nat) x, xs[j]? = some x → if j ∈ ps then OkV s.ioc x else OkV ⟨.n, false⟩ x
def OutsR (s : FS) (ps : List Nat) (outs : Gam) (outs' : PEnv) : Prop := ∀ j ∈ ps, ∃ y, outs.getD j none = some y ∧ outs'.getD j none = some y.d ∧ OkV s.ioc y
def CRR (s : FS) (ps : List Nat) : CR → CP → Prop
  | _, .bad => True
  | .exc c, .exc c' => c = c'
  | .ok x outs, .ok d outs' => x.d = d ∧ OkV s.r x ∧ OutsR s ps outs outs'
  | _, _ => False
structure CRel (S : List FS) (C : Ctx) (P : PCtx) : Prop where
  glob : C.glob = P.glob
  io : C.io = P.io
  fuel : C.fuel = P.fuel
  call : ∀ f s, S[f]? = some s → ∀ ps xs ds, ArgsR s ps xs ds → CRR s ps (C.call f ps xs) (P.call f ps ds)
section
variable {S : List FS} {C : Ctx} {P : PCtx} {X σ σ' σ1 : AG} {ρ ρ' : PEnv} {Γ Γ' : Gam} {c : Ab} {i : Nat}
theorem opd_ok {e : IE} {a : AOpd} (F : Fit σ ρ Γ) (h : opdA e σ (abE S X e σ) = some (a, σ')) (ih : ∀ c σ', abE S X e σ = some (c, σ') → RR X (QE c σ') (evE C e Γ) (pvE P e ρ)) : RR X (QO a σ') (opdOf e Γ (evE C e Γ)) (popd e ρ (pvE P e ρ)) := by
  have gen : (abE S X e σ).map (fun p => (AOpd.v p.1, p.2)) = some (a, σ') → RR X (QO a σ') ((evE C e Γ).bind fun x Γ' => .ok (.v x) Γ') ((pvE P e ρ).bind fun x ρ' => .ok (.v x) ρ') := fun h => by
    cases q : abE S X e σ with
    | none => rw [q] at h; cases h
    | some p =>
      rw [q] at h; cases h
      refine (ih _ _ q).bind fun x Γ d ρ hq => ?_
      obtain ⟨rfl, h2, h3⟩ := hq
      exact ⟨.v h2, h3⟩
  cases e with
  | var i =>
    unfold opdA at h
    dsimp only at h
    split at h
    · rename_i hs
      cases h
      cases e1 : slA σ i with
      | none => rw [e1] at hs; cases hs
      | some c =>
        obtain ⟨x, h1, h2, h3⟩ := F.2 i c e1
        unfold opdOf popd
        dsimp only
        rw [h1, h2]
        exact ⟨.b i, F⟩
    · cases h
  | io i =>
    unfold opdA at h
    dsimp only at h
    split at h
    · rename_i hs
      cases h
      cases e1 : slA σ i with
      | none => rw [e1] at hs; cases hs
      | some c =>
        obtain ⟨x, h1, h2, h3⟩ := F.2 i c e1
        unfold opdOf popd
        dsimp only
        rw [h1, h2]
        exact ⟨.m i, F⟩
    · cases h
  | _ => exact gen h
theorem tst_inv {r : Option (AOpd × AG)} (h : tstA r = some σ1) : ∃ a c, r = some (a, σ1) ∧ aget1 σ1 a = some c := by
  cases r with
  | none => cases h
  | some p =>
    have h : (aget1 p.2 p.1).map (fun _ => p.2) = some σ1 := h
    cases q : aget1 p.2 p.1 with
    | none => rw [q] at h; cases h
    | some c => rw [q] at h; cases h; exact ⟨_, c, rfl, q⟩
theorem boolV_p {x : Val} : boolV x = pbool x.d := by
  unfold boolV pbool
  rcases x.d with a | _
  · cases a <;> rfl
  · rfl
theorem bool_ok {a : AOpd} {o : Opd} {p : POpd} (h : QO a σ o Γ p ρ) (e : aget1 σ a = some c) : ∃ k, (getD1 Γ o).bind boolV = k ∧ (pget1 ρ p).bind pbool = k := by
  obtain ⟨x, h1, h2, h3⟩ := get1_ok h.1 h.2 e
  rw [h1, h2]
  exact ⟨_, boolV_p, rfl⟩
theorem ops_idx : ∀ {as : List AOpd} {os : List Opd} {ps : List POpd}, Ops3 as os ps → idxM os = aidxM as ∧ pidxM ps = aidxM as ∧ idxB os = aidxB as ∧ pidxB ps = aidxB as ∧ (∀ i, findM os i = pfindM ps i) ∧ (∀ j, posM j os = pposM j ps) ∧ os.length = ps.length
  | _, _, _, .nil => ⟨rfl, rfl, rfl, rfl, fun _ => rfl, fun _ => rfl, rfl⟩
  | _, _, _, .cons h hs => by
    obtain ⟨h1, h2, h3, h4, h5, h6, h7⟩ := ops_idx hs
    cases h with
    | v ok => exact ⟨h1, h2, h3, h4, fun i => by show (findM _ i).map _ = (pfindM _ i).map _; rw [h5], fun j => h6 (j + 1), by simp [h7]⟩
    | b i => exact ⟨h1, h2, by show i :: _ = i :: _; rw [h3], by show i :: _ = i :: _; rw [h4], fun i => by show (findM _ i).map _ = (pfindM _ i).map _; rw [h5], fun j => h6 (j + 1), by simp [h7]⟩
    | m k => exact ⟨by show k :: _ = k :: _; rw [h1], by show k :: _ = k :: _; rw [h2], h3, h4, fun i => by show (if k = i then _ else _) = (if k = i then _ else _); rw [h5], fun j => by show j :: _ = j :: _; rw [h6], by simp [h7]⟩
theorem posM_ge : ∀ {os : List Opd} {k m : Nat}, m ∈ posM k os → k ≤ m
  | [], k, m, h => by cases h
  | .v _ :: os, k, m, h => by have := posM_ge (os := os) (k := k + 1) h; omega
  | .b _ :: os, k, m, h => by have := posM_ge (os := os) (k := k + 1) h; omega
  | .m _ :: os, k, m, h => by
    rcases List.mem_cons.mp h with rfl | h
    · omega
    · have := posM_ge (os := os) (k := k + 1) h; omega
theorem posM_find : ∀ {os : List Opd} {i j k : Nat}, findM os i = some j → k + j ∈ posM k os
  | [], i, j, k, h => by cases h
  | .v _ :: os, i, j, k, h => by
    have h : (findM os i).map (· + 1) = some j := h
    cases q : findM os i with
    | none => rw [q] at h; cases h
    | some j' =>
      rw [q] at h; cases h
      have := posM_find (k := k + 1) q
      show k + (j' + 1) ∈ posM (k + 1) os
      rw [show k + (j' + 1) = k + 1 + j' by omega]; exact this
  | .b _ :: os, i, j, k, h => by
    have h : (findM os i).map (· + 1) = some j := h
    cases q : findM os i with
    | none => rw [q] at h; cases h
    | some j' =>
      rw [q] at h; cases h
      have := posM_find (k := k + 1) q
      show k + (j' + 1) ∈ posM (k + 1) os
      rw [show k + (j' + 1) = k + 1 + j' by omega]; exact this
  | .m m :: os, i, j, k, h => by
    have h : (if m = i then some 0 else (findM os i).map (· + 1)) = some j := h
    split at h
    · cases h; exact List.mem_cons_self
    · cases q : findM os i with
      | none => rw [q] at h; cases h
      | some j' =>
        rw [q] at h; cases h
        have := posM_find (k := k + 1) q
        refine List.mem_cons_of_mem _ ?_
        rw [show k + (j' + 1) = k + 1 + j' by omega]; exact this
theorem find_mem : ∀ {os : List Opd} {i : Nat}, i ∈ idxM os → ∃ j, findM os i = some j
  | [], i, h => by cases h
  | .v _ :: os, i, h => by
    obtain ⟨j, q⟩ := find_mem (os := os) h
    exact ⟨j + 1, by show (findM os i).map _ = _; rw [q]; rfl⟩
  | .b _ :: os, i, h => by
    obtain ⟨j, q⟩ := find_mem (os := os) h
    exact ⟨j + 1, by show (findM os i).map _ = _; rw [q]; rfl⟩
  | .m m :: os, i, h => by
    by_cases e : m = i
    · exact ⟨0, by show (if m = i then _ else _) = _; rw [if_pos e]⟩
    · rcases List.mem_cons.mp h with h | h
      · exact absurd h.symm e
      · obtain ⟨j, q⟩ := find_mem (os := os) h
        exact ⟨j + 1, by show (if m = i then _ else (findM os i).map _) = _; rw [if_neg e, q]; rfl⟩
theorem args_ok {ioc : Ab} (F : Fit σ ρ Γ) : ∀ {as : List AOpd} {os : List Opd} {ps : List POpd} (k : Nat), Ops3 as os ps → aarg σ ioc as = true → ∃ xs ds, argO Γ os = some xs ∧ parg ρ ps = some ds ∧ xs.map (·.d) = ds ∧ ∀ (j : Nat) x, xs[j]? = some x → if k + j ∈ posM k os then OkV ioc x else OkV ⟨.n, false⟩ x
  | _, _, _, k, .nil, _ => ⟨[], [], rfl, rfl, rfl, fun j x h => by simp at h⟩
  | _, _, _, k, .cons (os := os) (ps := ps) h hs, ha => by
    cases h with
    | @v c x ok =>
      obtain ⟨xs, ds, q1, q2, q3, q4⟩ := args_ok F (k + 1) hs ha
      refine ⟨lend x :: xs, x.d :: ds, by show (argO Γ os).map _ = _; rw [q1]; rfl, by show (parg ρ ps).map _ = _; rw [q2]; rfl, by rw [List.map_cons, q3]; rfl, fun j y hj => ?_⟩
      show if k + j ∈ posM (k + 1) os then _ else _
      cases j with
      | zero =>
        cases hj
        rw [if_neg fun z => by have := posM_ge z; omega]
        exact lend_n ok.1
      | succ j =>
        have := q4 j y hj
        rw [show k + 1 + j = k + (j + 1) by omega] at this
        exact this
    | b i =>
      have ha : ((slA σ i).isSome && aarg σ ioc _) = true := ha
      rw [Bool.and_eq_true] at ha
      obtain ⟨xs, ds, q1, q2, q3, q4⟩ := args_ok F (k + 1) hs ha.2
      cases e1 : slA σ i with
      | none => rw [e1] at ha; cases ha.1
      | some c =>
        obtain ⟨x, h1, h2, h3⟩ := F.2 i c e1
        refine ⟨lend x :: xs, x.d :: ds, by show (slotG Γ i).bind _ = _; rw [h1]; show (argO Γ os).map _ = _; rw [q1]; rfl, by show (pslot ρ i).bind _ = _; rw [h2]; show (parg ρ ps).map _ = _; rw [q2]; rfl, by rw [List.map_cons, q3]; rfl, fun j y hj => ?_⟩
        show if k + j ∈ posM (k + 1) os then _ else _
        cases j with
        | zero =>
          cases hj
          rw [if_neg fun z => by have := posM_ge z; omega]
          exact lend_n h3.1
        | succ j =>
          have := q4 j y hj
          rw [show k + 1 + j = k + (j + 1) by omega] at this
          exact this
    | m i =>
      have ha : ((match slA σ i with | some c => c.le ioc | none => false) && aarg σ ioc _) = true := ha
      rw [Bool.and_eq_true] at ha
      obtain ⟨xs, ds, q1, q2, q3, q4⟩ := args_ok F (k + 1) hs ha.2
      cases e1 : slA σ i with
      | none => rw [e1] at ha; cases ha.1
      | some c =>
        rw [e1] at ha
        obtain ⟨x, h1, h2, h3⟩ := F.2 i c e1
        refine ⟨x :: xs, x.d :: ds, by show (slotG Γ i).bind _ = _; rw [h1]; show (argO Γ os).map _ = _; rw [q1]; rfl, by show (pslot ρ i).bind _ = _; rw [h2]; show (parg ρ ps).map _ = _; rw [q2]; rfl, by rw [List.map_cons, q3], fun j y hj => ?_⟩
        show if k + j ∈ k :: posM (k + 1) os then _ else _
        cases j with
        | zero =>
          cases hj
          rw [if_pos (show k + 0 ∈ k :: posM (k + 1) os from List.mem_cons_self)]
          exact okV_le ha.1 h3
        | succ j =>
          have := q4 j y hj
          rw [show k + 1 + j = k + (j + 1) by omega] at this
          by_cases hm : k + (j + 1) ∈ posM (k + 1) os
          · rw [if_pos hm] at this
            rw [if_pos (List.mem_cons_of_mem _ hm)]
            exact this
          · rw [if_neg hm] at this
            rw [if_neg fun z => (List.mem_cons.mp z).elim (fun z => by omega) hm]
            exact this
theorem setA_at : ∀ {is : List Nat} {σ : AG} {c d : Ab} {i : Nat}, slA (setA σ c is) i = some d → (i ∈ is ∧ d = c) ∨ (i ∉ is ∧ slA σ i = some d)
  | [], σ, c, d, i, h => .inr ⟨by simp, h⟩
  | k :: is, σ, c, d, i, h => by
    rcases setA_at (is := is) h with ⟨h1, h2⟩ | ⟨h1, h2⟩
    · exact .inl ⟨List.mem_cons_of_mem _ h1, h2⟩
    · rcases slA_set h2 with ⟨rfl, e⟩ | ⟨ne, e⟩
      · cases e; exact .inl ⟨List.mem_cons_self, rfl⟩
      · exact .inr ⟨fun z => (List.mem_cons.mp z).elim (fun z => ne z.symm) h1, e⟩
theorem lendI_len : (lendI Γ i).length = Γ.length := by
  unfold lendI
  split <;> (try split) <;> simp
theorem lendAll_len : ∀ {is : List Nat} {Γ : Gam}, (lendAll Γ is).length = Γ.length
  | [], _ => rfl
  | i :: is, Γ => by
    show (lendAll (lendI Γ i) is).length = _
    rw [lendAll_len, lendI_len]
theorem killA_at : ∀ {kl : List Nat} {σ : AG} {i : Nat} {d : Ab}, slA (killA σ kl) i = some d → i ∉ kl ∧ slA σ i = some d
  | [], σ, i, d, h => ⟨by simp, h⟩
  | k :: kl, σ, i, d, h => by
    obtain ⟨h1, h2⟩ := killA_at (kl := kl) h
    rcases slA_set h2 with ⟨_, e⟩ | ⟨ne, e⟩
    · cases e
    · exact ⟨fun z => (List.mem_cons.mp z).elim (fun z => ne z.symm) h1, e⟩
theorem findM_mem : ∀ {os : List Opd} {i j : Nat}, findM os i = some j → i ∈ idxM os := fun {os i j} h => by
  have := findM_some h
  exact idxM_mem this
theorem args_live {ioc : Ab} : ∀ {as : List AOpd}, aarg σ ioc as = true → ∀ i ∈ aidxM as, ∃ c, slA σ i = some c
  | [], _, i, h => by cases h
  | .v _ :: as, ha, i, h => args_live (as := as) ha i h
  | .b _ :: as, ha, i, h => by
    have ha : (_ && aarg σ ioc as) = true := ha
    rw [Bool.and_eq_true] at ha
    exact args_live (as := as) ha.2 i h
  | .m k :: as, ha, i, h => by
    have ha : ((match slA σ k with | some c => c.le ioc | none => false) && aarg σ ioc as) = true := ha
    rw [Bool.and_eq_true] at ha
    rcases List.mem_cons.mp h with rfl | h
    · cases e : slA σ i with
      | none => rw [e] at ha; cases ha.1
      | some c => exact ⟨c, rfl⟩
    · exact args_live (as := as) ha.2 i h
/-- a call -/
theorem call_ok {es : IEs} {f : Nat} {as : List AOpd} {s : FS} (R : CRel S C P) (hs : S[f]? = some s) {os : List Opd} {ps : List POpd} (hO : Ops3 as os ps) (F : Fit σ ρ Γ) (ha : aarg σ s.ioc as = true) (hX : agLe (killA σ (aidxM as)) X = true) :
    RR X (QE s.r (setA (if aidxM as = [] ∧ s.r.z = true then σ else degA σ (aidxB as)) s.ioc (aidxM as)))
      (match argO Γ os with
        | none => .bad
        | some xs => if (idxM os).Nodup ∧ ∀ i ∈ idxM os, i ∉ idxB os then match C.call f (posM 0 os) xs with
          | .bad => .bad
          | .exc c => .exc c (if idxM os = [] then Γ else retG Γ os [])
          | .ok x outs => .ok x (if idxM os = [] then (if x.fz then lendAll Γ (idxB os) else Γ) else
            retG (if x.fz || outs.any (fun o => match o with | some y => y.fz | none => false) then lendAll Γ (idxB os) else Γ) os outs)
          else .bad)
      (match parg ρ ps with
        | none => .bad
        | some xs => if (pidxM ps).Nodup ∧ ∀ i ∈ pidxM ps, i ∉ pidxB ps then match P.call f (pposM 0 ps) xs with
          | .bad => .bad
          | .exc c => .exc c ρ
          | .ok x outs => .ok x (if pidxM ps = [] then ρ else pret ρ ps outs)
          else .bad) := by
  obtain ⟨i1, i2, i3, i4, i5, i6, _⟩ := ops_idx hO
  obtain ⟨xs, ds, e1, e2, e3, e4⟩ := args_ok F 0 hO ha
  rw [e1, e2]
  dsimp only
  rw [i1, i2, i3, i4]
  by_cases hnd : (aidxM as).Nodup ∧ ∀ i ∈ aidxM as, i ∉ aidxB as
  · rw [if_pos hnd, if_pos hnd]
    have A : ArgsR s (posM 0 os) xs ds := ⟨e3, fun j x h => by have := e4 j x h; rw [Nat.zero_add] at this; exact this⟩
    have q := R.call f s hs _ _ _ A
    rw [← i6 0]
    cases e5 : P.call f (posM 0 os) ds with
    | bad => exact RR.bad
    | exc c =>
      rw [e5] at q
      cases e6 : C.call f (posM 0 os) xs with
      | bad => rw [e6] at q; exact q.elim
      | ok _ _ => rw [e6] at q; exact q.elim
      | exc c' =>
        rw [e6] at q
        refine ⟨q, ?_⟩
        refine Fit.le ?_ hX
        by_cases hm : aidxM as = []
        · rw [if_pos hm, hm]; exact F
        · rw [if_neg hm]
          refine ⟨by rw [retG_len]; exact F.1, fun i d hd => ?_⟩
          obtain ⟨h1, h2⟩ := killA_at hd
          obtain ⟨x, h3, h4, h5⟩ := F.2 i d h2
          refine ⟨x, ?_, h4, h5⟩
          have hi := slotG_lt h3
          rw [slotG_some, retG_at hi]
          cases hf : findM os i with
          | some j => exact absurd (findM_mem hf) (by rw [i1]; exact h1)
          | none =>
            have := slotG_some.mp h3
            rw [List.getElem?_eq_getElem hi] at this
            exact this
    | ok d outs' =>
      rw [e5] at q
      cases e6 : C.call f (posM 0 os) xs with
      | bad => rw [e6] at q; exact q.elim
      | exc _ => rw [e6] at q; exact q.elim
      | ok x outs =>
        rw [e6] at q
        obtain ⟨q1, q2, q3⟩ := q
        refine ⟨q1, q2, ?_⟩
        by_cases hm : aidxM as = []
        · rw [if_pos hm, if_pos hm, hm]
          show Fit (if [] = [] ∧ s.r.z = true then σ else degA σ (aidxB as)) ρ _
          by_cases hz : s.r.z = true
          · rw [if_pos ⟨rfl, hz⟩, okV_z q2 hz]
            exact F
          · rw [if_neg fun z => hz z.2]
            split
            · exact F.deg.2
            · exact F.deg.1
        · rw [if_neg hm, if_neg hm, if_neg fun z => hm z.1]
          have key : ∀ Γ1 : Gam, Γ1.length = Γ.length → Fit (degA σ (aidxB as)) ρ Γ1 → Fit (setA (degA σ (aidxB as)) s.ioc (aidxM as)) (pret ρ ps outs') (retG Γ1 os outs) := fun Γ1 hl F1 => by
            refine ⟨by rw [retG_len]; unfold pret; rw [List.length_mapIdx]; exact F1.1, fun i d hd => ?_⟩
            rcases setA_at hd with ⟨h1, rfl⟩ | ⟨h1, h2⟩
            · obtain ⟨c, hc⟩ := args_live ha i h1
              obtain ⟨x0, h3, h4, h5⟩ := F.2 i c hc
              have hi : i < Γ1.length := by rw [hl]; exact slotG_lt h3
              obtain ⟨j, hj⟩ := find_mem (os := os) (i := i) (by rw [i1]; exact h1)
              have hjm : j ∈ posM 0 os := by
                have := posM_find (k := 0) hj
                rwa [Nat.zero_add] at this
              obtain ⟨y, y1, y2, y3⟩ := q3 j hjm
              refine ⟨y, ?_, ?_, y3⟩
              · rw [slotG_some, retG_at hi, hj]
                dsimp only
                rw [y1]
              · unfold pslot pret
                rw [List.getElem?_mapIdx, List.getElem?_eq_getElem (show i < ρ.length by rw [F1.1]; exact hi)]
                dsimp only [Option.map_some]
                rw [← i5, hj]
                dsimp only
                rw [y2]
                rfl
            · obtain ⟨x, h3, h4, h5⟩ := F1.2 i d h2
              have hi := slotG_lt h3
              have hf : findM os i = none := by
                cases hf : findM os i with
                | none => rfl
                | some j => exact absurd (findM_mem hf) (by rw [i1]; exact h1)
              refine ⟨x, ?_, ?_, h5⟩
              · rw [slotG_some, retG_at hi, hf]
                have := slotG_some.mp h3
                rw [List.getElem?_eq_getElem hi] at this
                exact this
              · unfold pslot pret at *
                rw [List.getElem?_mapIdx]
                cases e : ρ[i]? with
                | none => rw [e] at h4; cases h4
                | some o =>
                  rw [e] at h4
                  dsimp only [Option.map_some]
                  rw [← i5, hf]
                  exact h4
          split
          · exact key _ lendAll_len F.deg.2
          · exact key _ rfl F.deg.1
  · rw [if_neg hnd, if_neg hnd]
    exact RR.bad
theorem fixA_ok {α : Type} {f : AG → Option (α × AG)} : ∀ {n : Nat} {h0 h : AG} {x : α}, fixA f n h0 = some (x, h) → (∃ p, f h = some (x, p) ∧ agLe p h = true) ∧ ∀ ρ Γ, Fit h0 ρ Γ → Fit h ρ Γ
  | 0, _, _, _, e => by cases e
  | n + 1, h0, h, x, e => by
    unfold fixA at e
    cases q : f h0 with
    | none => rw [q] at e; cases e
    | some r =>
      obtain ⟨y, p⟩ := r
      rw [q] at e
      dsimp only at e
      split at e
      · rename_i hl
        cases e
        exact ⟨⟨p, q, hl⟩, fun _ _ z => z⟩
      · obtain ⟨h1, h2⟩ := fixA_ok e
        exact ⟨h1, fun ρ Γ z => h2 ρ Γ z.joinL⟩
/-- targets -/
theorem setMany_ok {io : List Nat} {fz : Bool} {nf : Bool} (hio : C.io = io) (hf : nf = true → fz = false) : ∀ {is : List Nat} {ds : List D} {σ : AG} {ρ : PEnv} {Γ : Gam}, Fit σ ρ Γ → ds.length = is.length →
    RR X (fun _ Γ' _ ρ' => Fit (setA σ ⟨.n, nf⟩ is) ρ' Γ') (setTgt.go C fz is ds Γ) (ptgt.go io is ds ρ)
  | [], [], σ, ρ, Γ, F, _ => F
  | [], _ :: _, σ, ρ, Γ, F, h => by simp at h
  | _ :: _, [], σ, ρ, Γ, F, h => by simp at h
  | i :: is, d :: ds, σ, ρ, Γ, F, h => by
    unfold setTgt.go ptgt.go
    rw [hio, F.1]
    split
    · exact RR.bad
    · split
      · rename_i hi
        have ok : OkV ⟨.n, nf⟩ (childV fz d) := by
          cases d with
          | «at» a => exact ⟨fun _ _ => ⟨rfl, rfl⟩, rfl, fun _ => rfl⟩
          | nd t xs => exact ⟨(fun a e => by cases e), rfl, hf⟩
        have F2 := F.set hi ok
        have ed : (childV fz d).d = d := by cases d <;> rfl
        rw [ed] at F2
        exact setMany_ok hio hf F2 (by simpa using h)
      · exact RR.bad
theorem tgt_ok {t : Tgt} {x : Val} {h1 : AG} (R : CRel S C P) (F : Fit σ ρ Γ) (ok : OkV c x) (h : tgtA t c σ = some h1) : RR X (fun _ Γ' _ ρ' => Fit h1 ρ' Γ') (setTgt C t x Γ) (ptgt P.io t x.d ρ) := by
  cases t with
  | one i =>
    have h : some (σ.set i (some c)) = some h1 := h
    cases h
    show RR X _ (if i ∈ C.io then .bad else if i < Γ.length then .ok () (Γ.set i (some x)) else .bad) (if i ∈ P.io then .bad else if i < ρ.length then .ok () (ρ.set i (some x.d)) else .bad)
    rw [R.io, F.1]
    split
    · exact RR.bad
    · split
      · rename_i hi
        exact F.set hi ok
      · exact RR.bad
  | many is =>
    have h : (if c.low then some (setA σ ⟨.n, c.z⟩ is) else none) = some h1 := h
    split at h
    · rename_i hl
      cases h
      have ho := low_no hl ok
      have hf : c.z = true → x.fz = false := okV_z ok
      unfold setTgt ptgt
      dsimp only
      rw [ho]
      cases e : x.d with
      | «at» a => exact RR.bad
      | nd t ds =>
        cases t with
        | tup =>
          dsimp only
          split
          · rename_i hl; exact setMany_ok R.io hf F hl
          · exact RR.bad
        | lst =>
          dsimp only
          split
          · rename_i hl; exact setMany_ok R.io hf F hl
          · exact RR.bad
        | _ => exact RR.bad
    · cases h
/-- iterables -/
def QI (c : Ab) (σ : AG) : List Val → Gam → List D → PEnv → Prop := fun xs Γ ds ρ => xs.map (·.d) = ds ∧ (∀ x ∈ xs, OkV c x) ∧ Fit σ ρ Γ
theorem child_okV {fz nf : Bool} {d : D} (hf : nf = true → fz = false) : OkV ⟨.n, nf⟩ (childV fz d) ∧ (childV fz d).d = d := by
  cases d with
  | «at» a => exact ⟨⟨fun _ _ => ⟨rfl, rfl⟩, rfl, fun _ => rfl⟩, rfl⟩
  | nd t xs => exact ⟨⟨(fun a e => by cases e), rfl, hf⟩, rfl⟩
theorem childs_okV {fz nf : Bool} {ds : List D} (hf : nf = true → fz = false) : (ds.map (childV fz)).map (·.d) = ds ∧ ∀ x ∈ ds.map (childV fz), OkV ⟨.n, nf⟩ x := by
  refine ⟨?_, fun x hx => ?_⟩
  · rw [List.map_map]
    have : ((fun x : Val => x.d) ∘ childV fz) = id := funext fun d => (child_okV (nf := false) (fun z => by cases z)).2
    rw [this, List.map_id]
  · obtain ⟨d, _, rfl⟩ := List.mem_map.mp hx
    exact (child_okV hf).1
theorem low_lend {x : Val} (ok : OkV c x) (h : (c.low && c.z) = true) : (lend x).fz = false := by
  rw [Bool.and_eq_true] at h
  show (x.fz || decide (x.ow ≠ .no)) = false
  rw [okV_z ok h.2, low_no h.1 ok]; rfl
theorem ex_of {α β : Type} {o : Option α} {f : α → Option β} {b : β} (h : o.bind f = some b) : ∃ a, o = some a ∧ f a = some b := by
  cases o with
  | none => cases h
  | some a => exact ⟨a, rfl, h⟩
theorem ex_map {α β : Type} {o : Option α} {f : α → β} {b : β} (h : o.map f = some b) : ∃ a, o = some a ∧ b = f a := by
  cases o with
  | none => cases h
  | some a => cases h; exact ⟨a, rfl, rfl⟩
theorem atom_ok {c : Ab} {a : At} : OkV c ⟨.no, false, .at a⟩ := ⟨fun _ _ => ⟨rfl, rfl⟩, by cases c.oc <;> first | exact ⟨a, rfl⟩ | rfl | trivial | (intro z; cases z) | (intro z; exact absurd z (by decide)), fun _ => rfl⟩
/-- what is written -/
theorem oc_to {c : Oc} {x : Val} (h : c = .t ∨ c = .o) (ok : OcOk c x) (hm : isM x.d = true) : x.ow ≠ .no := by
  rcases h with rfl | rfl
  · have ok : x.ow = if isM x.d then .top else .no := ok
    rw [ok, if_pos hm]; simp
  · exact ok hm
theorem app_ok {cx cy : Ab} {x y : Val} {ds : List D} (hc : cx.oc = .t ∨ cx.oc = .o) (okx : OkV cx x) (oky : OkV cy y) (hd : x.d = .lst ds) (es : List D) : OkV (appA cx cy) ⟨joinOw x.ow y.ow, x.fz || y.fz, .lst es⟩ := by
  have hn := oc_to hc okx.2.1 (by rw [hd]; rfl)
  refine ⟨(fun a e => by cases e), ?_, fun z => ?_⟩
  · unfold appA
    dsimp only
    by_cases hl : cy.low = true
    · rw [if_pos hl, low_no hl oky]
      rcases hc with hc | hc
      · have ok := okx.2.1
        rw [hc] at ok ⊢
        have ok : x.ow = if isM x.d then .top else .no := ok
        rw [hd] at ok
        exact ok
      · rw [hc]; exact fun _ => hn
    · rw [if_neg hl]
      exact fun _ => joinOw_no hn
  · have z : (cx.z && cy.z) = true := z
    rw [Bool.and_eq_true] at z
    show (x.fz || y.fz) = false
    rw [okV_z okx z.1, okV_z oky z.2]; rfl
end
end Px
namespace Px
open PySem L2
section
variable {S : List FS} {C : Ctx} {P : PCtx} {X σ σ' σ1 τ : AG} {ρ ρ' : PEnv} {Γ Γ' : Gam} {c d : Ab} {i : Nat} {x : Val} {cs : List Ab} {xs : List Val} {ds : List D}
theorem QE.jL {w : D} (h : QE c σ x Γ w ρ) : QE (c.join d) (agJoin σ τ) x Γ w ρ := ⟨h.1, okV_le (ab_joinL c d) h.2.1, h.2.2.joinL⟩
theorem QE.jR {w : D} (h : QE c σ x Γ w ρ) : QE (d.join c) (agJoin τ σ) x Γ w ρ := ⟨h.1, okV_le (ab_joinR d c) h.2.1, h.2.2.joinR⟩
theorem mkT_ok (h : Vs3 cs xs ds) : OkV ⟨if cs.all Ab.low then .n else .a, cs.all Ab.z⟩ (mkT xs) ∧ (mkT xs).d = .tup ds := by
  refine ⟨⟨(fun a e => by cases e), ?_, fun z => h.all.2 z⟩, ?_⟩
  · dsimp only
    split
    · rename_i hl
      show (if anyOw xs = true then Ow.deep else Ow.no) = Ow.no
      rw [h.all.1 hl]; rfl
    · exact trivial
  · show D.nd .tup (xs.map (·.d)) = _
    rw [h.eq]
theorem mkL_ok (h : Vs3 cs xs ds) : OkV ⟨if cs.all Ab.low then .t else .o, cs.all Ab.z⟩ (mkL xs) ∧ (mkL xs).d = .lst ds := by
  refine ⟨⟨(fun a e => by cases e), ?_, fun z => h.all.2 z⟩, ?_⟩
  · dsimp only
    split
    · rename_i hl
      show (if anyOw xs = true then Ow.deep else Ow.top) = Ow.top
      rw [h.all.1 hl]; rfl
    · show _ → (if anyOw xs = true then Ow.deep else Ow.top) ≠ Ow.no
      intro _; split <;> simp
  · show D.nd .lst (xs.map (·.d)) = _
    rw [h.eq]
theorem vs3_all {c : Ab} : ∀ {xs : List Val}, (∀ x ∈ xs, OkV c x) → Vs3 (List.replicate xs.length c) xs (xs.map (·.d))
  | [], _ => .nil
  | x :: xs, h => .cons (h x List.mem_cons_self) (vs3_all fun y hy => h y (List.mem_cons_of_mem _ hy))
theorem mkL_all (h : ∀ x ∈ xs, OkV c x) : OkV ⟨if c.low then .t else .o, c.z⟩ (mkL xs) ∧ (mkL xs).d = .lst (xs.map (·.d)) := by
  cases xs with
  | nil =>
    refine ⟨⟨(fun a e => by cases e), ?_, fun _ => rfl⟩, rfl⟩
    cases c.low
    · exact fun _ z => by cases z
    · exact rfl
  | cons x xs =>
    obtain ⟨h1, h2⟩ := mkL_ok (vs3_all h)
    refine ⟨okV_le ?_ h1, h2⟩
    have e1 : (List.replicate (x :: xs).length c).all Ab.low = c.low := by
      rw [List.length_cons, List.replicate_succ, List.all_cons]
      cases hc : c.low with
      | false => rfl
      | true => rw [Bool.true_and, List.all_eq_true]; intro y hy; rw [List.eq_of_mem_replicate hy]; exact hc
    have e2 : (List.replicate (x :: xs).length c).all Ab.z = c.z := by
      rw [List.length_cons, List.replicate_succ, List.all_cons]
      cases hc : c.z with
      | false => rfl
      | true => rw [Bool.true_and, List.all_eq_true]; intro y hy; rw [List.eq_of_mem_replicate hy]; exact hc
    rw [e1, e2]
    cases c.low <;> cases c.z <;> rfl
theorem lstAt_ok (F : Fit σ ρ Γ) (h : slA σ i = some c) : lstAt Γ i = plst ρ i := by
  obtain ⟨x, h1, h2, _⟩ := F.2 i c h
  unfold lstAt plst
  rw [h1, h2]
  dsimp only
  rcases x.d with a | ⟨t, ds⟩
  · rfl
  · cases t <;> rfl
theorem conAt_ok (F : Fit σ ρ Γ) (h : slA σ i = some c) : conAt Γ i = pcon ρ i := by
  obtain ⟨x, h1, h2, _⟩ := F.2 i c h
  unfold conAt pcon
  rw [h1, h2]
  dsimp only
  rcases x.d with a | ⟨t, ds⟩
  · rfl
  · cases t <;> rfl
theorem dctAt_ok (F : Fit σ ρ Γ) (h : slA σ i = some c) : dctAt Γ i = pdct ρ i := by
  obtain ⟨x, h1, h2, _⟩ := F.2 i c h
  unfold dctAt pdct
  rw [h1, h2]
  dsimp only
  rcases x.d with a | ⟨t, ds⟩
  · rfl
  · cases t <;> rfl
theorem mut_ok {m : MOp} {r c' : Ab} (h : Vs3 cs xs ds) (okx : OkV c x) (hm : mutA m c cs = some (r, c')) {v' w' : D} (hp : pmut m x.d ds = some (v', w')) :
    x.ow ≠ .no ∧ ∃ r' x', mutV m x xs = some (r', x') ∧ r'.d = v' ∧ OkV r r' ∧ x'.d = w' ∧ OkV c' x' := by
  unfold mutA at hm
  split at hm
  · rename_i hc
    cases m with
    | append =>
      cases h with
      | nil => cases hm
      | @cons c1 y cs xs ds oky h =>
        cases h with
        | cons _ _ => cases hm
        | nil =>
          cases hm
          cases e : x.d with
          | «at» a => rw [e] at hp; cases hp
          | nd t zs =>
            rw [e] at hp
            cases t <;> first | (cases hp; done) | skip
            have hp : (if zs.length < szLim then some (D.non, D.lst (zs ++ [y.d])) else none) = some (v', w') := hp
            split at hp
            · rename_i hl
              cases hp
              refine ⟨oc_to hc okx.2.1 (by rw [e]; rfl), ⟨.no, false, .non⟩, ⟨joinOw x.ow y.ow, x.fz || y.fz, .lst (zs ++ [y.d])⟩, ?_, rfl, atom_ok, rfl, app_ok hc okx oky e _⟩
              show (match x.d with
                | .nd .lst ds => if ds.length < szLim then some ((⟨.no, false, .non⟩ : Val), (⟨joinOw x.ow y.ow, x.fz || y.fz, .lst (ds ++ [y.d])⟩ : Val)) else none
                | _ => none) = _
              rw [e]
              exact if_pos hl
            · cases hp
    | pop =>
      cases h with
      | cons _ _ => cases hm
      | nil =>
        cases hm
        cases e : x.d with
        | «at» a => rw [e] at hp; cases hp
        | nd t zs =>
          rw [e] at hp
          cases t <;> first | (cases hp; done) | skip
          have hp : zs.getLast?.map (fun d => (d, D.lst zs.dropLast)) = some (v', w') := hp
          cases el : zs.getLast? with
          | none => rw [el] at hp; cases hp
          | some d =>
            rw [el] at hp
            cases hp
            refine ⟨oc_to hc okx.2.1 (by rw [e]; rfl), itemV x v', ⟨x.ow, x.fz, .lst zs.dropLast⟩, ?_, ?_, ?_, rfl, ?_⟩
            · show (match x.d with
                | .nd .lst ds => ds.getLast?.map fun d => (itemV x d, (⟨x.ow, x.fz, .lst ds.dropLast⟩ : Val))
                | _ => none) = _
              rw [e]
              show zs.getLast?.map _ = _
              rw [el]; rfl
            · cases v' <;> rfl
            · cases v' with
              | «at» a => exact atom_ok
              | nd t us =>
                refine ⟨(fun a e => by cases e), rfl, fun z => ?_⟩
                have z : (c.z && decide (c.oc = .t)) = true := z
                rw [Bool.and_eq_true] at z
                show (x.fz || decide (x.ow = .deep)) = false
                rw [okV_z okx z.1]
                have ok := okx.2.1
                rw [of_decide_eq_true z.2] at ok
                have ok : x.ow = if isM x.d then .top else .no := ok
                rw [ok, e]; rfl
            · refine ⟨(fun a e => by cases e), ?_, fun z => okx.2.2 z⟩
              rcases hc with hc | hc
              · have ok := okx.2.1
                rw [hc] at ok ⊢
                have ok : x.ow = if isM x.d then .top else .no := ok
                rw [e] at ok
                exact ok
              · rw [hc]
                intro _
                exact oc_to (c := c.oc) (x := x) (.inr hc) okx.2.1 (by rw [e]; rfl)
    | clear =>
      cases h with
      | cons _ _ => cases hm
      | nil =>
        cases hm
        cases e : x.d with
        | «at» a => rw [e] at hp; cases hp
        | nd t zs =>
          rw [e] at hp
          cases t <;> first | (cases hp; done) | skip
          cases hp
          refine ⟨oc_to hc okx.2.1 (by rw [e]; rfl), ⟨.no, false, .non⟩, ⟨x.ow, x.fz, .lst []⟩, ?_, rfl, atom_ok, rfl, ?_⟩
          · show (match x.d with
              | .nd .lst ds => some ((⟨.no, false, .non⟩ : Val), (⟨x.ow, x.fz, .lst []⟩ : Val))
              | _ => none) = _
            rw [e]
          · refine ⟨(fun a e => by cases e), ?_, fun z => okx.2.2 z⟩
            rcases hc with hc | hc
            · have ok := okx.2.1
              rw [hc] at ok ⊢
              have ok : x.ow = if isM x.d then .top else .no := ok
              rw [e] at ok
              exact ok
            · rw [hc]
              intro _
              exact oc_to (c := c.oc) (x := x) (.inr hc) okx.2.1 (by rw [e]; rfl)
    | extend =>
      cases h with
      | nil => cases hm
      | @cons c1 y cs xs ds oky h =>
        cases h with
        | cons _ _ => cases hm
        | nil =>
          have hm : (if c1.oc = .t ∨ c1.oc = .o then some ((⟨.i, true⟩ : Ab), (⟨if c1.oc = .t then c.oc else .o, c.z && c1.z⟩ : Ab)) else none) = some (r, c') := hm
          split at hm
          · rename_i hy
            cases hm
            cases e : x.d with
            | «at» a => rw [e] at hp; cases hp
            | nd t zs =>
              rw [e] at hp
              cases t <;> first | (cases hp; done) | skip
              cases ey : y.d with
              | «at» a => rw [ey] at hp; cases hp
              | nd t us =>
                rw [ey] at hp
                cases t <;> first | (cases hp; done) | skip
                have hp : (if zs.length + us.length ≤ szLim then some (D.non, D.lst (zs ++ us)) else none) = some (v', w') := hp
                split at hp
                · rename_i hl
                  cases hp
                  have hyo := oc_to hy oky.2.1 (by rw [ey]; rfl)
                  have hxo := oc_to hc okx.2.1 (by rw [e]; rfl)
                  refine ⟨hxo, ⟨.no, false, .non⟩, ⟨if y.ow = .deep then .deep else x.ow, x.fz || y.fz, .lst (zs ++ us)⟩, ?_, rfl, atom_ok, rfl, ?_⟩
                  · show (match x.d, y.d with
                      | .nd .lst ds, .nd .lst es => if ds.length + es.length ≤ szLim ∧ y.ow ≠ Ow.no then some ((⟨.no, false, .non⟩ : Val), (⟨if y.ow = Ow.deep then Ow.deep else x.ow, x.fz || y.fz, .lst (ds ++ es)⟩ : Val)) else none
                      | _, _ => none) = _
                    rw [e, ey]
                    exact if_pos ⟨hl, hyo⟩
                  · refine ⟨(fun a e => by cases e), ?_, fun z => ?_⟩
                    · dsimp only
                      by_cases ht : c1.oc = .t
                      · rw [if_pos ht]
                        have ok := oky.2.1
                        rw [ht] at ok
                        have ok : y.ow = if isM y.d then .top else .no := ok
                        rw [ey] at ok
                        have ok : y.ow = .top := ok
                        rw [ok, if_neg (by decide)]
                        rcases hc with hc | hc
                        · have okx := okx.2.1
                          rw [hc] at okx ⊢
                          have okx : x.ow = if isM x.d then .top else .no := okx
                          rw [e] at okx
                          exact okx
                        · rw [hc]; exact fun _ => hxo
                      · rw [if_neg ht]
                        intro _
                        show (if y.ow = .deep then Ow.deep else x.ow) ≠ .no
                        split
                        · decide
                        · exact hxo
                    · have z : (c.z && c1.z) = true := z
                      rw [Bool.and_eq_true] at z
                      show (x.fz || y.fz) = false
                      rw [okV_z okx z.1, okV_z oky z.2]; rfl
                · cases hp
          · cases hm
    | _ => cases xs <;> cases cs <;> simp at hm
  · cases hm
end
end Px
namespace Px
open PySem L2

/-! ### running by data alone, by simp -/
section
variable {C : PCtx} {ρ ρ' : PEnv} {α β γ : Type}
@[simp] theorem pb_ok {a : α} {f : α → PEnv → RP β} : (RP.ok a ρ).bind f = f a ρ := id rfl
@[simp] theorem pb_exc {c : Nat} {f : α → PEnv → RP β} : (RP.exc c ρ : RP α).bind f = .exc c ρ := id rfl
@[simp] theorem pb_bad {f : α → PEnv → RP β} : (RP.bad : RP α).bind f = .bad := id rfl
@[simp] theorem pb_ite {c : Prop} [Decidable c] {a b : RP α} {f : α → PEnv → RP β} : (if c then a else b : RP α).bind f = if c then a.bind f else b.bind f := by split <;> rfl
theorem pb_assoc {r : RP α} {f : α → PEnv → RP β} {g : β → PEnv → RP γ} : (r.bind f).bind g = r.bind fun a ρ => (f a ρ).bind g := by cases r <;> rfl
theorem pslot_def {i : Nat} : pslot ρ i = (ρ[i]?).join := rfl
@[simp] theorem pslot_zero {a : Option D} : pslot (a :: ρ) 0 = a := id rfl
@[simp] theorem pslot_succ {a : Option D} {n : Nat} : pslot (a :: ρ) (n + 1) = pslot ρ n := id rfl
@[simp] theorem popt_some {a : α} : popt (some a) ρ = .ok a ρ := id rfl
@[simp] theorem popt_none : popt (none : Option α) ρ = .bad := id rfl
@[simp] theorem pbool_bl {b : Bool} : pbool (.at (.bl b)) = some b := id rfl
@[simp] theorem pget1_v {x : D} : pget1 ρ (.v x) = some x := id rfl
@[simp] theorem pget1_b {i : Nat} : pget1 ρ (.b i) = pslot ρ i := id rfl
@[simp] theorem pget_nil : pget ρ [] = some [] := id rfl
@[simp] theorem pget_v {x : D} {os : List POpd} : pget ρ (.v x :: os) = (pget ρ os).map (x :: ·) := id rfl
@[simp] theorem pget_b {i : Nat} {os : List POpd} : pget ρ (.b i :: os) = (pslot ρ i).bind fun x => (pget ρ os).map (x :: ·) := id rfl
@[simp] theorem parg_nil : parg ρ [] = some [] := id rfl
@[simp] theorem parg_v {x : D} {os : List POpd} : parg ρ (.v x :: os) = (parg ρ os).map (x :: ·) := id rfl
@[simp] theorem parg_b {i : Nat} {os : List POpd} : parg ρ (.b i :: os) = (pslot ρ i).bind fun x => (parg ρ os).map (x :: ·) := id rfl
@[simp] theorem parg_m {i : Nat} {os : List POpd} : parg ρ (.m i :: os) = (pslot ρ i).bind fun x => (parg ρ os).map (x :: ·) := id rfl
@[simp] theorem pidxM_nil : pidxM [] = [] := id rfl
@[simp] theorem pidxM_v {x : D} {os : List POpd} : pidxM (.v x :: os) = pidxM os := id rfl
@[simp] theorem pidxM_b {i : Nat} {os : List POpd} : pidxM (.b i :: os) = pidxM os := id rfl
@[simp] theorem pidxM_m {i : Nat} {os : List POpd} : pidxM (.m i :: os) = i :: pidxM os := id rfl
@[simp] theorem pidxB_nil : pidxB [] = [] := id rfl
@[simp] theorem pidxB_v {x : D} {os : List POpd} : pidxB (.v x :: os) = pidxB os := id rfl
@[simp] theorem pidxB_b {i : Nat} {os : List POpd} : pidxB (.b i :: os) = i :: pidxB os := id rfl
@[simp] theorem pidxB_m {i : Nat} {os : List POpd} : pidxB (.m i :: os) = pidxB os := id rfl
@[simp] theorem pposM_nil {j : Nat} : pposM j [] = [] := id rfl
@[simp] theorem pposM_v {j : Nat} {x : D} {os : List POpd} : pposM j (.v x :: os) = pposM (j + 1) os := id rfl
@[simp] theorem pposM_b {j i : Nat} {os : List POpd} : pposM j (.b i :: os) = pposM (j + 1) os := id rfl
@[simp] theorem pposM_m {j i : Nat} {os : List POpd} : pposM j (.m i :: os) = j :: pposM (j + 1) os := id rfl
@[simp] theorem pkill_nil : pkill ρ [] = ρ := id rfl
@[simp] theorem pkill_cons {i : Nat} {is : List Nat} : pkill ρ (i :: is) = pkill (ρ.set i none) is := id rfl
@[simp] theorem pfind_nil {i : Nat} : pfindM [] i = none := id rfl
@[simp] theorem pfind_v {x : D} {os : List POpd} {i : Nat} : pfindM (.v x :: os) i = (pfindM os i).map (· + 1) := id rfl
@[simp] theorem pfind_b {k : Nat} {os : List POpd} {i : Nat} : pfindM (.b k :: os) i = (pfindM os i).map (· + 1) := id rfl
@[simp] theorem pfind_m {k : Nat} {os : List POpd} {i : Nat} : pfindM (.m k :: os) i = if k = i then some 0 else (pfindM os i).map (· + 1) := id rfl
@[simp] theorem ptgt_one {io : List Nat} {i : Nat} {x : D} : ptgt io (.one i) x ρ = if i ∈ io then .bad else if i < ρ.length then .ok () (ρ.set i (some x)) else .bad := id rfl
@[simp] theorem ptgt_tup {io is : List Nat} {ds : List D} : ptgt io (.many is) (.nd .tup ds) ρ = if ds.length = is.length then ptgt.go io is ds ρ else .bad := id rfl
@[simp] theorem ptgt_lst {io is : List Nat} {ds : List D} : ptgt io (.many is) (.nd .lst ds) ρ = if ds.length = is.length then ptgt.go io is ds ρ else .bad := id rfl
@[simp] theorem ptgo_nil {io : List Nat} : ptgt.go io [] [] ρ = .ok () ρ := id rfl
@[simp] theorem ptgo_cons {io is : List Nat} {i : Nat} {d : D} {ds : List D} : ptgt.go io (i :: is) (d :: ds) ρ = if i ∈ io then .bad else if i < ρ.length then ptgt.go io is ds (ρ.set i (some d)) else .bad := id rfl
theorem plst_def {i : Nat} : plst ρ i = match pslot ρ i with | some (.nd .lst _) => true | _ => false := rfl
theorem pcon_def {i : Nat} : pcon ρ i = match pslot ρ i with | some (.nd .lst _) => true | some (.nd (.dK _) _) => true | some (.nd (.dT _) _) => true | _ => false := rfl
theorem pdct_def {i : Nat} : pdct ρ i = match pslot ρ i with | some (.nd (.dK _) _) => true | some (.nd (.dT _) _) => true | _ => false := rfl
/-- expressions -/
@[simp] theorem y_var {i : Nat} : pvE C (.var i) ρ = match pslot ρ i with | none => .bad | some x => .ok x ρ := by first | (rw [pvE]; done) | (rw [pvE]; rfl)
@[simp] theorem y_mv {i : Nat} : pvE C (.mv i) ρ = match pslot ρ i with | none => .bad | some x => .ok x ρ := by first | (rw [pvE]; done) | (rw [pvE]; rfl)
@[simp] theorem y_io {i : Nat} : pvE C (.io i) ρ = .bad := by first | (rw [pvE]; done) | (rw [pvE]; rfl)
@[simp] theorem y_cst {a : At} : pvE C (.cst a) ρ = .ok (.at a) ρ := by first | (rw [pvE]; done) | (rw [pvE]; rfl)
@[simp] theorem y_glob {g : Nat} : pvE C (.glob g) ρ = .ok (C.glob g) ρ := by first | (rw [pvE]; done) | (rw [pvE]; rfl)
theorem y_op {o : Op} {es : IEs} : pvE C (.op o es) ρ = (pvOs C es ρ).bind fun os ρ' => if pidxM os = [] then popt ((pget ρ' os).bind (opSem o)) ρ' else .bad := by first | (rw [pvE]; done) | (rw [pvE]; rfl)
theorem y_T {e : IE} : pvT C e ρ = (popd e ρ (pvE C e ρ)).bind fun o ρ1 => match (pget1 ρ1 o).bind pbool with | some b => .ok b ρ1 | none => .bad := id rfl
theorem y_and0 {a : IE} {f : PEnv → RP D} {g : PEnv → RP D} : ((popd a ρ (pvE C a ρ)).bind fun o ρ' => match (pget1 ρ' o).bind pbool with | some true => f ρ' | some false => g ρ' | none => .bad) = (pvT C a ρ).bind fun t ρ' => if t then f ρ' else g ρ' := by
  rw [y_T]
  cases popd a ρ (pvE C a ρ) with
  | bad => rfl
  | exc c ρ => rfl
  | ok o ρ1 =>
    simp only [pb_ok]
    cases (pget1 ρ1 o).bind pbool with
    | none => rfl
    | some b => cases b <;> rfl
theorem y_and {a b : IE} : pvE C (.and a b) ρ = (pvT C a ρ).bind fun t ρ' => if t then pvE C b ρ' else .ok (.bl false) ρ' := by rw [pvE]; exact y_and0
theorem y_or {a b : IE} : pvE C (.or a b) ρ = (pvT C a ρ).bind fun t ρ' => if t then .ok (.bl true) ρ' else pvE C b ρ' := by rw [pvE]; exact y_and0
theorem y_ite {c a b : IE} : pvE C (.ite c a b) ρ = (pvT C c ρ).bind fun t ρ' => if t then pvE C a ρ' else pvE C b ρ' := by rw [pvE]; exact y_and0
theorem y_not {a : IE} : pvE C (.not a) ρ = (pvT C a ρ).bind fun t ρ' => .ok (.bl (!t)) ρ' := by
  rw [pvE, y_T]
  cases popd a ρ (pvE C a ρ) with
  | bad => rfl
  | exc c ρ => rfl
  | ok o ρ1 =>
    simp only [pb_ok]
    cases (pget1 ρ1 o).bind pbool with
    | none => rfl
    | some b => rfl
theorem y_chain {o1 o2 : Op} {a b c : IE} : pvE C (.chain o1 o2 a b c) ρ = ((popd a ρ (pvE C a ρ)).bind fun oa ρ1 => (popd b ρ1 (pvE C b ρ1)).bind fun ob ρ2 => match pget1 ρ2 oa, pget1 ρ2 ob with
    | some x, some y => match (opSem o1 [x, y]).bind pbool with
      | some false => .ok (.bl false) ρ2
      | some true => (popd c ρ2 (pvE C c ρ2)).bind fun oc ρ3 => match pget1 ρ3 ob, pget1 ρ3 oc with
        | some y, some z => popt (opSem o2 [y, z]) ρ3
        | _, _ => .bad
      | none => .bad
    | _, _ => .bad) := by first | (rw [pvE]; done) | (rw [pvE]; rfl)
theorem y_tup {es : IEs} : pvE C (.tup es) ρ = (pvEs C es ρ).bind fun xs ρ' => if xs.length ≤ szLim then .ok (.tup xs) ρ' else .bad := by first | (rw [pvE]; done) | (rw [pvE]; rfl)
theorem y_lst {es : IEs} : pvE C (.lst es) ρ = (pvEs C es ρ).bind fun xs ρ' => if xs.length ≤ szLim then .ok (.lst xs) ρ' else .bad := by first | (rw [pvE]; done) | (rw [pvE]; rfl)
def pcallR (ρ : PEnv) (os : List POpd) (r : CP) : RP D := match r with
  | .bad => .bad
  | .exc c => .exc c ρ
  | .ok x outs => .ok x (if pidxM os = [] then ρ else pret ρ os outs)
@[simp] theorem pcallR_ok {os : List POpd} {x : D} {outs : PEnv} : pcallR ρ os (.ok x outs) = .ok x (if pidxM os = [] then ρ else pret ρ os outs) := id rfl
@[simp] theorem pcallR_exc {os : List POpd} {c : Nat} : pcallR ρ os (.exc c) = .exc c ρ := id rfl
@[simp] theorem pcallR_ite {os : List POpd} {c : Prop} [Decidable c] {a b : CP} : pcallR ρ os (if c then a else b) = if c then pcallR ρ os a else pcallR ρ os b := by split <;> rfl
theorem y_call {f : Nat} {es : IEs} : pvE C (.call f es) ρ = (pvOs C es ρ).bind fun os ρ' => match parg ρ' os with
    | none => .bad
    | some xs => if (pidxM os).Nodup ∧ ∀ i ∈ pidxM os, i ∉ pidxB os then pcallR ρ' os (C.call f (pposM 0 os) xs) else .bad := by
  rw [pvE]
  refine congrArg (RP.bind (pvOs C es ρ)) (funext fun os => funext fun ρ' => ?_)
  cases parg ρ' os with
  | none => rfl
  | some xs =>
    dsimp only
    split
    · unfold pcallR
      cases C.call f (pposM 0 os) xs <;> rfl
    · rfl
def pkillF (kl : List Nat) : PEnv → PEnv := fun ρ => pkill ρ kl
@[simp] theorem pkillF_def {kl : List Nat} : pkillF kl ρ = pkill ρ kl := id rfl
def pcompB (C : PCtx) (e : IE) (t : Tgt) (c : IEs) (x : D) (ρ : PEnv) : RP (Option D) := (ptgt C.io t x ρ).bind fun _ ρ => (pvCs C c ρ).bind fun b ρ => if b then (pvE C e ρ).bind fun y ρ => .ok (some y) ρ else .ok none ρ
theorem y_comp {e : IE} {t : Tgt} {it : Itr} {c : IEs} {kl : List Nat} : pvE C (.comp e t it c kl) ρ = (pvI C it ρ).bind fun items ρ1 => if items.length < szLim ∧ kl.all (fun i => !C.io.contains i) = true then
    (pcompL (pcompB C e t c) (pkillF kl) items (pkill ρ1 kl)).bind fun ys ρ2 => .ok (.lst ys) ρ2 else .bad := by first | (rw [pvE]; done) | (rw [pvE]; rfl)
theorem y_mut {m : MOp} {i : Nat} {es : IEs} : pvE C (.mut m i es) ρ = if plst ρ i then (pvEs C es ρ).bind fun ys ρ' => match pslot ρ' i with
    | some x => match pmut m x ys with
      | some (r, x') => .ok r (ρ'.set i (some x'))
      | none => .bad
    | none => .bad
    else .bad := by first | (rw [pvE]; done) | (rw [pvE]; rfl)
theorem y_dget {i : Nat} {es : IEs} : pvE C (.dget i es) ρ = if pdct ρ i then (pvOs C es ρ).bind fun os ρ' => if pidxM os = [] then popt ((pget ρ' (.b i :: os)).bind (opSem (if os.length = 1 then .get1 else .get2))) ρ' else .bad
    else .bad := by first | (rw [pvE]; done) | (rw [pvE]; rfl)
theorem y_sdf {i : Nat} {es : IEs} : pvE C (.sdf i es) ρ = if pdct ρ i then (pvEs C es ρ).bind fun ys ρ' => match pslot ρ' i with
    | some x => match psdf x ys with
      | some (r, x') => .ok r (ρ'.set i (some x'))
      | none => .bad
    | none => .bad
    else .bad := by first | (rw [pvE]; done) | (rw [pvE]; rfl)
@[simp] theorem y_dK0 : pvE C .dK0 ρ = .ok (.nd (.dK []) []) ρ := by first | (rw [pvE]; done) | (rw [pvE]; rfl)
@[simp] theorem y_dT0 : pvE C .dT0 ρ = .ok (.nd (.dT []) []) ρ := by first | (rw [pvE]; done) | (rw [pvE]; rfl)
theorem y_imm {e : IE} : pvE C (.imm e) ρ = (pvE C e ρ).bind fun x ρ' => if imm x then .ok x ρ' else .bad := by first | (rw [pvE]; done) | (rw [pvE]; rfl)
@[simp] theorem y_lent {e : IE} : pvE C (.lent e) ρ = pvE C e ρ := by first | (rw [pvE]; done) | (rw [pvE]; rfl)
@[simp] theorem y_esn : pvEs C .nil ρ = .ok [] ρ := by first | (rw [pvEs]; done) | (rw [pvEs]; rfl)
theorem y_esc {e : IE} {es : IEs} : pvEs C (.cons e es) ρ = (pvE C e ρ).bind fun x ρ1 => (pvEs C es ρ1).bind fun xs ρ2 => .ok (x :: xs) ρ2 := by first | (rw [pvEs]; done) | (rw [pvEs]; rfl)
@[simp] theorem y_osn : pvOs C .nil ρ = .ok [] ρ := by first | (rw [pvOs]; done) | (rw [pvOs]; rfl)
theorem y_osc {e : IE} {es : IEs} : pvOs C (.cons e es) ρ = (popd e ρ (pvE C e ρ)).bind fun x ρ1 => (pvOs C es ρ1).bind fun xs ρ2 => .ok (x :: xs) ρ2 := by first | (rw [pvOs]; done) | (rw [pvOs]; rfl)
@[simp] theorem y_csn : pvCs C .nil ρ = .ok true ρ := by first | (rw [pvCs]; done) | (rw [pvCs]; rfl)
@[simp] theorem y_csc {e : IE} {es : IEs} : pvCs C (.cons e es) ρ = pvT C e ρ := by first | (rw [pvCs]; done) | (rw [pvCs]; rfl)
/-- operands -/
@[simp] theorem z_var {i : Nat} {r : RP D} : popd (.var i) ρ r = if (pslot ρ i).isSome then .ok (.b i) ρ else .bad := id rfl
@[simp] theorem z_io {i : Nat} {r : RP D} : popd (.io i) ρ r = if (pslot ρ i).isSome then .ok (.m i) ρ else .bad := id rfl
theorem z_mv {i : Nat} {r : RP D} : popd (.mv i) ρ r = r.bind fun x ρ' => .ok (.v x) ρ' := rfl
theorem z_cst {a : At} {r : RP D} : popd (.cst a) ρ r = r.bind fun x ρ' => .ok (.v x) ρ' := rfl
theorem z_glob {a : Nat} {r : RP D} : popd (.glob a) ρ r = r.bind fun x ρ' => .ok (.v x) ρ' := rfl
theorem z_op {o : Op} {es : IEs} {r : RP D} : popd (.op o es) ρ r = r.bind fun x ρ' => .ok (.v x) ρ' := rfl
theorem z_and {a b : IE} {r : RP D} : popd (.and a b) ρ r = r.bind fun x ρ' => .ok (.v x) ρ' := rfl
theorem z_or {a b : IE} {r : RP D} : popd (.or a b) ρ r = r.bind fun x ρ' => .ok (.v x) ρ' := rfl
theorem z_not {a : IE} {r : RP D} : popd (.not a) ρ r = r.bind fun x ρ' => .ok (.v x) ρ' := rfl
theorem z_ite {a b c : IE} {r : RP D} : popd (.ite a b c) ρ r = r.bind fun x ρ' => .ok (.v x) ρ' := rfl
theorem z_chain {o1 o2 : Op} {a b c : IE} {r : RP D} : popd (.chain o1 o2 a b c) ρ r = r.bind fun x ρ' => .ok (.v x) ρ' := rfl
theorem z_tup {es : IEs} {r : RP D} : popd (.tup es) ρ r = r.bind fun x ρ' => .ok (.v x) ρ' := rfl
theorem z_lst {es : IEs} {r : RP D} : popd (.lst es) ρ r = r.bind fun x ρ' => .ok (.v x) ρ' := rfl
theorem z_call {f : Nat} {es : IEs} {r : RP D} : popd (.call f es) ρ r = r.bind fun x ρ' => .ok (.v x) ρ' := rfl
theorem z_comp {e : IE} {t : Tgt} {it : Itr} {c : IEs} {kl : List Nat} {r : RP D} : popd (.comp e t it c kl) ρ r = r.bind fun x ρ' => .ok (.v x) ρ' := rfl
theorem z_mut {m : MOp} {i : Nat} {es : IEs} {r : RP D} : popd (.mut m i es) ρ r = r.bind fun x ρ' => .ok (.v x) ρ' := rfl
theorem z_dget {i : Nat} {es : IEs} {r : RP D} : popd (.dget i es) ρ r = r.bind fun x ρ' => .ok (.v x) ρ' := rfl
theorem z_sdf {i : Nat} {es : IEs} {r : RP D} : popd (.sdf i es) ρ r = r.bind fun x ρ' => .ok (.v x) ρ' := rfl
theorem z_dK0 {r : RP D} : popd .dK0 ρ r = r.bind fun x ρ' => .ok (.v x) ρ' := rfl
theorem z_dT0 {r : RP D} : popd .dT0 ρ r = r.bind fun x ρ' => .ok (.v x) ρ' := rfl
theorem z_imm {a : IE} {r : RP D} : popd (.imm a) ρ r = r.bind fun x ρ' => .ok (.v x) ρ' := rfl
theorem z_lent {a : IE} {r : RP D} : popd (.lent a) ρ r = r.bind fun x ρ' => .ok (.v x) ρ' := rfl
/-- tests -/
theorem u_not {a : IE} : pvT C (.not a) ρ = (pvT C a ρ).bind fun t ρ' => .ok (!t) ρ' := by
  rw [y_T, z_not, y_not]
  cases pvT C a ρ <;> rfl
@[simp] theorem u_cst {b : Bool} : pvT C (.cst (.bl b)) ρ = .ok b ρ := by rw [y_T, z_cst, y_cst]; rfl
@[simp] theorem u_var {i : Nat} : pvT C (.var i) ρ = match (pslot ρ i).bind pbool with | some b => .ok b ρ | none => .bad := by
  rw [y_T, z_var]
  cases h : pslot ρ i with
  | none => rfl
  | some x => simp [pget1, h]
def ptst (r : RP D) : RP Bool := r.bind fun x ρ => match pbool x with | some b => .ok b ρ | none => .bad
@[simp] theorem ptst_ok {x : D} : ptst (.ok x ρ) = match pbool x with | some b => .ok b ρ | none => .bad := id rfl
@[simp] theorem ptst_bad : ptst .bad = .bad := id rfl
@[simp] theorem ptst_exc {c : Nat} : ptst (.exc c ρ) = .exc c ρ := id rfl
theorem ptst_bind {a : RP α} {f : α → PEnv → RP D} : ptst (a.bind f) = a.bind fun x ρ => ptst (f x ρ) := pb_assoc
@[simp] theorem ptst_ite {c : Prop} [Decidable c] {a b : RP D} : ptst (if c then a else b) = if c then ptst a else ptst b := by split <;> rfl
theorem u_val {e : IE} (h : ∀ ρ r, popd e ρ r = r.bind fun x ρ' => .ok (.v x) ρ' := by intros; rfl) : pvT C e ρ = ptst (pvE C e ρ) := by
  rw [y_T, h, pb_assoc]
  rfl
theorem u_and {a b : IE} : pvT C (.and a b) ρ = (pvT C a ρ).bind fun t ρ' => if t then ptst (pvE C b ρ') else .ok false ρ' := by
  rw [u_val, y_and, ptst_bind]
  cases pvT C a ρ with
  | bad => rfl
  | exc c ρ => rfl
  | ok t ρ1 => cases t <;> rfl
theorem u_or {a b : IE} : pvT C (.or a b) ρ = (pvT C a ρ).bind fun t ρ' => if t then .ok true ρ' else ptst (pvE C b ρ') := by
  rw [u_val, y_or, ptst_bind]
  cases pvT C a ρ with
  | bad => rfl
  | exc c ρ => rfl
  | ok t ρ1 => cases t <;> rfl
theorem u_op {o : Op} {es : IEs} : pvT C (.op o es) ρ = ptst (pvE C (.op o es) ρ) := u_val
theorem u_chain {o1 o2 : Op} {a b c : IE} : pvT C (.chain o1 o2 a b c) ρ = ptst (pvE C (.chain o1 o2 a b c) ρ) := u_val
theorem u_call {f : Nat} {es : IEs} : pvT C (.call f es) ρ = ptst (pvE C (.call f es) ρ) := u_val
theorem u_ite {c a b : IE} : pvT C (.ite c a b) ρ = ptst (pvE C (.ite c a b) ρ) := u_val
theorem u_mut {m : MOp} {i : Nat} {es : IEs} : pvT C (.mut m i es) ρ = ptst (pvE C (.mut m i es) ρ) := u_val
theorem u_dget {i : Nat} {es : IEs} : pvT C (.dget i es) ρ = ptst (pvE C (.dget i es) ρ) := u_val
theorem u_imm {a : IE} : pvT C (.imm a) ρ = ptst (pvE C (.imm a) ρ) := u_val
/-- iterables -/
theorem y_seq {e : IE} : pvI C (.seq e) ρ = (pvE C e ρ).bind fun x ρ' => match kidsD x with
    | some ds => .ok ds ρ'
    | none => .bad := by first | (rw [pvI]; done) | (rw [pvI]; rfl)
theorem y_str {e : IE} : pvI C (.str e) ρ = (pvE C e ρ).bind fun x ρ' => match x with
    | .at (.str z) => .ok (pstrKids z) ρ'
    | _ => .bad := by first | (rw [pvI]; done) | (rw [pvI]; rfl)
theorem y_rng {es : IEs} : pvI C (.rng es) ρ = (pvOs C es ρ).bind fun os ρ' => if pidxM os = [] then (match (pget ρ' os).bind rngInts with
    | some ns => .ok (ns.map D.int) ρ'
    | none => .bad) else .bad := by first | (rw [pvI]; done) | (rw [pvI]; rfl)
theorem y_enum {e : IE} : pvI C (.enum e) ρ = (pvE C e ρ).bind fun x ρ' => match x with
    | .nd .lst ds => .ok (ds.mapIdx fun k d => .tup [.int (k : Nat), d]) ρ'
    | _ => .bad := by first | (rw [pvI]; done) | (rw [pvI]; rfl)
theorem y_zip {a b : IE} : pvI C (.zip a b) ρ = (pvE C a ρ).bind fun x ρ1 => (pvE C b ρ1).bind fun y ρ2 => match x, y with
    | .nd .lst ds, .nd .lst es => .ok ((ds.zip es).map fun p => .tup [p.1, p.2]) ρ2
    | _, _ => .bad := by first | (rw [pvI]; done) | (rw [pvI]; rfl)
theorem y_rev {e : IE} : pvI C (.rev e) ρ = (pvE C e ρ).bind fun x ρ' => match x with
    | .nd .lst ds => .ok ds.reverse ρ'
    | _ => .bad := by first | (rw [pvI]; done) | (rw [pvI]; rfl)
/-- statements -/
@[simp] theorem w_nil : pvSs C .nil ρ = .ok .nx ρ := by first | (rw [pvSs]; done) | (rw [pvSs]; rfl)
theorem w_cons {s : IS} {ss : ISs} : pvSs C (.cons s ss) ρ = (pvS C s ρ).bind fun f ρ' => match f with | .nx => pvSs C ss ρ' | f => .ok f ρ' := by first | (rw [pvSs]; done) | (rw [pvSs]; rfl)
theorem v_asg {i : Nat} {e : IE} : pvS C (.asg i e) ρ = if i ∈ C.io then .bad else (pvE C e ρ).bind fun x ρ' => if i < ρ'.length then .ok .nx (ρ'.set i (some x)) else .bad := by first | (rw [pvS]; done) | (rw [pvS]; rfl)
theorem v_asgT {is : List Nat} {e : IE} : pvS C (.asgT is e) ρ = (pvE C e ρ).bind fun x ρ' => match x with
    | .nd .tup _ => (ptgt C.io (.many is) x ρ').bind fun _ ρ' => .ok .nx ρ'
    | _ => .bad := by first | (rw [pvS]; done) | (rw [pvS]; rfl)
theorem v_mutAt {i : Nat} {k : IE} {m : MOp} {a : Option MA} : pvS C (.mutAt i k m a) ρ = if (pslot ρ i).isSome then (popd k ρ (pvE C k ρ)).bind (pMA i m a) else .bad := by first | (rw [pvS]; done) | (rw [pvS]; rfl)
theorem v_expr {e : IE} : pvS C (.expr e) ρ = (pvE C e ρ).bind fun _ ρ' => .ok .nx ρ' := by first | (rw [pvS]; done) | (rw [pvS]; rfl)
theorem v_ret {e : IE} : pvS C (.ret e) ρ = (pvE C e ρ).bind fun x ρ' => .ok (.rt x) ρ' := by first | (rw [pvS]; done) | (rw [pvS]; rfl)
@[simp] theorem v_retN : pvS C .retN ρ = .ok (.rt .non) ρ := by first | (rw [pvS]; done) | (rw [pvS]; rfl)
@[simp] theorem v_rais {c : Nat} : pvS C (.rais c) ρ = .exc c ρ := by first | (rw [pvS]; done) | (rw [pvS]; rfl)
theorem v_ifs {c : IE} {a b : ISs} : pvS C (.ifs c a b) ρ = (pvT C c ρ).bind fun t ρ' => if t then pvSs C a ρ' else pvSs C b ρ' := by first | (rw [pvS]; done) | (rw [pvS]; rfl)
@[simp] theorem v_pas : pvS C .pas ρ = .ok .nx ρ := by first | (rw [pvS]; done) | (rw [pvS]; rfl)
@[simp] theorem v_frz {i : Nat} : pvS C (.frz i) ρ = .ok .nx ρ := by first | (rw [pvS]; done) | (rw [pvS]; rfl)
@[simp] theorem v_brk : pvS C .brk ρ = .ok .bk ρ := by first | (rw [pvS]; done) | (rw [pvS]; rfl)
@[simp] theorem v_cnt : pvS C .cnt ρ = .ok .ct ρ := by first | (rw [pvS]; done) | (rw [pvS]; rfl)
def pforB (C : PCtx) (t : Tgt) (b : ISs) (x : D) (ρ : PEnv) : RP PFl := (ptgt C.io t x ρ).bind fun _ ρ => pvSs C b ρ
theorem v_for {t : Tgt} {it : Itr} {b : ISs} {kl : List Nat} : pvS C (.fr t it b kl) ρ = (pvI C it ρ).bind fun items ρ1 => pforL (pforB C t b) (pkillF kl) items ρ1 := by first | (rw [pvS]; done) | (rw [pvS]; rfl)
@[simp] theorem v_whl {c : IE} {b : ISs} {kl : List Nat} : pvS C (.whl c b kl) ρ = pwhlL (pvT C c) (pvSs C b) (pkillF kl) C.fuel ρ := by first | (rw [pvS]; done) | (rw [pvS]; rfl)
theorem v_aug {i : Nat} {o : Op} {e : IE} : pvS C (.aug i o e) ρ = if i ∈ C.io ∨ (!augOk o) = true then .bad else match pslot ρ i with
    | some (.at a) => (popd e ρ (pvE C e ρ)).bind fun oe ρ' => match pget1 ρ' oe with
        | some y => match opSem o [.at a, y] with
          | some (.at (.int r)) => if i < ρ'.length then .ok .nx (ρ'.set i (some (.int r))) else .bad
          | _ => .bad
        | none => .bad
    | _ => .bad := by first | (rw [pvS]; done) | (rw [pvS]; rfl)
theorem v_setIx {i : Nat} {k e : IE} : pvS C (.setIx i k e) ρ = (pvE C e ρ).bind fun y ρ1 => if pcon ρ1 i then (popd k ρ1 (pvE C k ρ1)).bind fun ok ρ2 => match pget1 ρ2 ok, pslot ρ2 i with
    | some kv, some x => match pmut .setIx x [y, kv] with
      | some (_, x') => .ok .nx (ρ2.set i (some x'))
      | none => .bad
    | _, _ => .bad
    else .bad := by first | (rw [pvS]; done) | (rw [pvS]; rfl)
theorem v_augIx {i : Nat} {o : Op} {k e : IE} : pvS C (.augIx i o k e) ρ = if (!augOk o || !plst ρ i) = true then .bad else (popd k ρ (pvE C k ρ)).bind fun ok ρ1 => match pget1 ρ1 ok, pslot ρ1 i with
    | some kv, some x => match paugG x kv with
      | some (n, a) => (popd e ρ1 (pvE C e ρ1)).bind fun oe ρ2 => match pget1 ρ2 oe, pslot ρ2 i with
        | some y, some x2 => match opSem o [.at (.int a), y] with
          | some (.at (.int r)) => match pmut .setIx x2 [.int r, .int n] with
            | some (_, x') => .ok .nx (ρ2.set i (some x'))
            | none => .bad
          | _ => .bad
        | _, _ => .bad
      | none => .bad
    | _, _ => .bad := by first | (rw [pvS]; done) | (rw [pvS]; rfl)
theorem v_try {b h : ISs} {c : Nat} : pvS C (.tr b c h) ρ = match pvSs C b ρ with
    | .exc c' ρ' => if c' = c ∨ c = 0 then pvSs C h ρ' else .bad
    | r => r := by first | (rw [pvS]; done) | (rw [pvS]; rfl)
@[simp] theorem pretF_nx {fd : FD} : pretF fd (.ok .nx ρ) = .ok .non (pouts fd.io fd.np ρ) := id rfl
@[simp] theorem pretF_rt {fd : FD} {x : D} : pretF fd (.ok (.rt x) ρ) = .ok x (pouts fd.io fd.np ρ) := id rfl
@[simp] theorem pretF_exc {fd : FD} {c : Nat} : pretF fd (.exc c ρ) = .exc c := id rfl
@[simp] theorem pouts_nil {np : Nat} : pouts [] np ρ = [] := id rfl
@[simp] theorem patOk_at {b : Bool} {a : At} {outs : PEnv} : patOk b (.ok (.at a) outs) = .ok (.at a) outs := id rfl
@[simp] theorem patOk_exc {b : Bool} {c : Nat} : patOk b (.exc c) = .exc c := id rfl
@[simp] theorem patOk_no {r : CP} : patOk false r = r := by
  cases r with
  | ok d outs => cases d <;> rfl
  | _ => rfl
theorem pvF_at {P : Prg} {S : List Bool} {k f : Nat} {ps : List Nat} {xs : List D} {fd : FD} (h : P.fs[f]? = some fd) (h1 : xs.length = fd.np) (h2 : ps = fd.io) (h3 : fd.np ≤ fd.nN) :
    pvF P S (k + 1) f ps xs = patOk (S.getD f false) (pretF fd (pvSs ⟨pvF P S k, P.glob, fd.io, P.fuel⟩ fd.body (penv0 fd.nN xs))) := by
  conv => lhs; unfold pvF
  rw [h]
  dsimp only
  rw [if_pos ⟨h1, h2, h3⟩]
end
end Px
namespace Px
open PySem L2
section
variable {S : List FS} {C : Ctx} {P : PCtx} {X X' σ σ' σ1 τ : AG} {ρ ρ' : PEnv} {Γ Γ' : Gam} {c d cI : Ab} {i : Nat} {x : Val} {cs : List Ab} {xs : List Val} {ds : List D}
theorem compL_ok {h : AG} {body : Val → Gam → R (Option Val)} {pbody : D → PEnv → RP (Option D)} {kl : List Nat}
    (hb : ∀ x ρ Γ, OkV cI x → Fit h ρ Γ → RR X' (fun y Γ' y' ρ' => y.map (·.d) = y' ∧ (∀ z, y = some z → OkV c z) ∧ Fit h (pkill ρ' kl) (killG Γ' kl)) (body x Γ) (pbody x.d ρ)) :
    ∀ {items : List Val} {ρ : PEnv} {Γ : Gam}, (∀ x ∈ items, OkV cI x) → Fit h ρ Γ → RR X (fun ys Γ' ds ρ' => ys.map (·.d) = ds ∧ (∀ y ∈ ys, OkV c y) ∧ Fit h ρ' Γ') (compL body (fun Γ => killG Γ kl) items Γ) (pcompL pbody (fun ρ => pkill ρ kl) (items.map (·.d)) ρ)
  | [], ρ, Γ, _, F => ⟨rfl, (fun y z => by cases z), F⟩
  | x :: items, ρ, Γ, hi, F => by
    rw [List.map_cons]
    unfold compL pcompL
    have q := hb x ρ Γ (hi x List.mem_cons_self) F
    cases e : pbody x.d ρ with
    | bad => exact RR.bad
    | exc c ρ1 => exact RR.bad
    | ok y' ρ1 =>
      rw [e] at q
      cases e2 : body x Γ with
      | bad => rw [e2] at q; exact q.elim
      | exc _ _ => rw [e2] at q; exact q.elim
      | ok y Γ1 =>
        rw [e2] at q
        obtain ⟨rfl, q2, q3⟩ := q
        have r := compL_ok hb (fun x hx => hi x (List.mem_cons_of_mem _ hx)) q3
        dsimp only
        cases e3 : pcompL pbody (fun ρ => pkill ρ kl) (items.map (·.d)) (pkill ρ1 kl) with
        | bad => exact RR.bad
        | exc _ _ => exact RR.bad
        | ok ds ρ2 =>
          rw [e3] at r
          cases e4 : compL body (fun Γ => killG Γ kl) items (killG Γ1 kl) with
          | bad => rw [e4] at r; exact r.elim
          | exc _ _ => rw [e4] at r; exact r.elim
          | ok ys Γ2 =>
            rw [e4] at r
            obtain ⟨rfl, r2, r3⟩ := r
            cases y with
            | none => exact ⟨rfl, r2, r3⟩
            | some y => exact ⟨rfl, (fun z hz => (List.mem_cons.mp hz).elim (fun hz => hz ▸ q2 y rfl) (r2 z)), r3⟩
/-- a test -/
theorem test_ok {e : IE} (F : Fit σ ρ Γ) (h : tstA (opdA e σ (abE S X e σ)) = some σ1) (ih : ∀ c σ', abE S X e σ = some (c, σ') → RR X (QE c σ') (evE C e Γ) (pvE P e ρ)) :
    RR X (fun b Γ' b' ρ' => b = b' ∧ Fit σ1 ρ' Γ') (evT C e Γ) (pvT P e ρ) := by
  obtain ⟨a, c, h1, h2⟩ := tst_inv h
  unfold evT pvT
  refine (opd_ok F h1 ih).bind fun o Γ1 p ρ1 q => ?_
  obtain ⟨k, k1, k2⟩ := bool_ok q h2
  rw [k1, k2]
  cases k with
  | none => exact RR.bad
  | some b => exact ⟨rfl, q.2⟩
theorem sdf_ok {ck cy : Ab} {xs : List Val} {ds : List D} (h : Vs3 [ck, cy] xs ds) (okx : OkV c x) (hc : c.oc = .t) (hy : cy.low = true) {v' w' : D} (hp : psdf x.d ds = some (v', w')) :
    ∃ r' x', sdfV x xs = some (r', x') ∧ r'.d = v' ∧ OkV ⟨.i, true⟩ r' ∧ x'.d = w' ∧ OkV ⟨.t, c.z⟩ x' := by
  cases h with
  | @cons _ k _ xs ds okk h =>
    cases h with
    | @cons _ y _ xs ds oky h =>
      cases h with
      | nil =>
        cases e : x.d with
        | «at» a => rw [e] at hp; cases hp
        | nd t zs =>
          rw [e] at hp
          cases t <;> first | (cases hp; done) | skip
          rename_i ks
          cases ek : keyOf k.d with
          | none => 
            have hp : (match keyOf k.d with
              | some key => if ks.length = zs.length ∧ zs.length < szLim then (match lookK ks zs key, y.d with
                | some (.at a), .at _ => some (D.at a, D.nd (.dK ks) zs)
                | none, .at a => some (D.at a, D.nd (.dK (putKs ks zs key (.at a)).1) (putKs ks zs key (.at a)).2)
                | _, _ => none) else none
              | none => none) = some (v', w') := by
                cases q : keyOf k.d <;> (simp only [psdf, q] at hp ⊢; exact hp)
            rw [ek] at hp; cases hp
          | some key =>
            have hp : (if ks.length = zs.length ∧ zs.length < szLim then (match lookK ks zs key, y.d with
                | some (.at a), .at _ => some (D.at a, D.nd (.dK ks) zs)
                | none, .at a => some (D.at a, D.nd (.dK (putKs ks zs key (.at a)).1) (putKs ks zs key (.at a)).2)
                | _, _ => none) else none) = some (v', w') := by
              simp only [psdf, ek] at hp; exact hp
            have ok := okx.2.1
            rw [hc] at ok
            have ok : x.ow = if isM x.d then .top else .no := ok
            rw [e] at ok
            have ok : x.ow = .top := ok
            have yno := low_no hy oky
            split at hp
            · rename_i hl
              have ev : sdfV x [k, y] = (match lookK ks zs key, y.d with
                  | some (.at a), .at _ => some (⟨.no, false, .at a⟩, x)
                  | none, .at a => some (⟨.no, false, .at a⟩, ⟨.top, x.fz, .nd (.dK (putKs ks zs key y.d).1) (putKs ks zs key y.d).2⟩)
                  | _, _ => none) := by
                simp only [sdfV, e, ek]
                exact if_pos ⟨ok, yno, hl.1, hl.2⟩
              rw [ev]
              cases eq : lookK ks zs key with
              | none =>
                cases ey : y.d with
                | nd t us => rw [eq, ey] at hp; cases hp
                | «at» a =>
                  rw [eq, ey] at hp
                  cases hp
                  exact ⟨_, _, rfl, rfl, atom_ok, rfl, (fun a e => by cases e), rfl, fun z => (okV_z (x := x) okx z : x.fz = false)⟩
              | some w =>
                cases w with
                | nd t us => rw [eq] at hp; cases hp
                | «at» a =>
                  cases ey : y.d with
                  | nd t us => rw [eq, ey] at hp; cases hp
                  | «at» b =>
                    rw [eq, ey] at hp
                    cases hp
                    refine ⟨_, _, rfl, rfl, atom_ok, e, okx.1, ?_, fun z => okV_z okx z⟩
                    show x.ow = if isM x.d then .top else .no
                    rw [ok, e]; rfl
            · cases hp
end
section
variable {S : List FS} {C : Ctx} {P : PCtx}
mutual
theorem abE_ok (RC : CRel S C P) : ∀ (e : IE) {X σ σ' : AG} {c : Ab} {ρ : PEnv} {Γ : Gam}, Fit σ ρ Γ → abE S X e σ = some (c, σ') → RR X (QE c σ') (evE C e Γ) (pvE P e ρ)
  | .var i, X, σ, σ', c, ρ, Γ, F, h => by
    rw [abE] at h
    obtain ⟨c0, h1, h2⟩ := ex_map h
    cases h2
    obtain ⟨x, q1, q2, q3⟩ := F.2 i c0 h1
    rw [x_var, y_var, q1, q2]
    exact ⟨rfl, lend_ok q3, F.lendI⟩
  | .mv i, X, σ, σ', c, ρ, Γ, F, h => by
    rw [abE] at h
    obtain ⟨c0, h1, h2⟩ := ex_map h
    cases h2
    obtain ⟨x, q1, q2, q3⟩ := F.2 i _ h1
    rw [x_mv, y_mv, q1, q2]
    exact ⟨rfl, q3, F.mv⟩
  | .io i, X, σ, σ', c, ρ, Γ, F, h => by rw [abE] at h; cases h
  | .cst a, X, σ, σ', c, ρ, Γ, F, h => by
    rw [abE] at h; cases h
    rw [x_cst, y_cst]
    exact ⟨rfl, atom_ok, F⟩
  | .glob g, X, σ, σ', c, ρ, Γ, F, h => by
    rw [abE] at h; cases h
    rw [x_glob, y_glob, RC.glob]
    exact ⟨rfl, ⟨fun _ _ => ⟨rfl, rfl⟩, rfl, fun _ => rfl⟩, F⟩
  | .op o es, X, σ, σ', c, ρ, Γ, F, h => by
    rw [abE] at h
    obtain ⟨p, h1, h⟩ := ex_of h
    obtain ⟨cs, h2, h⟩ := ex_of h
    obtain ⟨c0, h3, h4⟩ := ex_map h
    cases h4
    rw [x_op, y_op]
    refine (abOs_ok RC es F h1).bind fun os Γ1 ps ρ1 q => ?_
    obtain ⟨xs, ds, g1, g2, g3, g4, g5⟩ := get_ok q.1 q.2 h2
    rw [if_pos g4, if_pos g5, g1, g2]
    show RR X _ (opt (opVal o xs) Γ1) (popt (opSem o ds) ρ1)
    cases e : opSem o ds with
    | none => exact RR.bad
    | some d =>
      obtain ⟨x, x1, x2, x3⟩ := op_ok g3 h3 e
      rw [x1]
      exact ⟨x2, x3, q.2⟩
  | .and a b, X, σ, σ', c, ρ, Γ, F, h => by
    rw [abE] at h
    obtain ⟨σ1, h1, h⟩ := ex_of h
    obtain ⟨p, h2, h3⟩ := ex_map h
    cases h3
    rw [x_and, y_and]
    refine (test_ok F h1 fun c σ' q => abE_ok RC a F q).bind fun t Γ1 t' ρ1 q => ?_
    obtain ⟨rfl, F1⟩ := q
    cases t with
    | true => exact (abE_ok RC b F1 h2).imp fun x Γ d ρ q => ⟨q.1, okV_le (ab_joinL _ _) q.2.1, q.2.2.joinR⟩
    | false => exact ⟨rfl, okV_le (ab_joinR _ _) (atom_ok (c := ⟨.i, true⟩)), F1.joinL⟩
  | .or a b, X, σ, σ', c, ρ, Γ, F, h => by
    rw [abE] at h
    obtain ⟨σ1, h1, h⟩ := ex_of h
    obtain ⟨p, h2, h3⟩ := ex_map h
    cases h3
    rw [x_or, y_or]
    refine (test_ok F h1 fun c σ' q => abE_ok RC a F q).bind fun t Γ1 t' ρ1 q => ?_
    obtain ⟨rfl, F1⟩ := q
    cases t with
    | false => exact (abE_ok RC b F1 h2).imp fun x Γ d ρ q => ⟨q.1, okV_le (ab_joinL _ _) q.2.1, q.2.2.joinR⟩
    | true => exact ⟨rfl, okV_le (ab_joinR _ _) (atom_ok (c := ⟨.i, true⟩)), F1.joinL⟩
  | .not a, X, σ, σ', c, ρ, Γ, F, h => by
    rw [abE] at h
    obtain ⟨σ1, h1, h3⟩ := ex_map h
    cases h3
    rw [x_not, y_not]
    refine (test_ok F h1 fun c σ' q => abE_ok RC a F q).bind fun t Γ1 t' ρ1 q => ?_
    obtain ⟨rfl, F1⟩ := q
    exact ⟨rfl, atom_ok, F1⟩
  | .ite a b e, X, σ, σ', c, ρ, Γ, F, h => by
    rw [abE] at h
    obtain ⟨σ1, h1, h⟩ := ex_of h
    obtain ⟨p, h2, h⟩ := ex_of h
    obtain ⟨p2, h3, h4⟩ := ex_map h
    cases h4
    rw [x_ite, y_ite]
    refine (test_ok F h1 fun c σ' q => abE_ok RC a F q).bind fun t Γ1 t' ρ1 q => ?_
    obtain ⟨rfl, F1⟩ := q
    cases t with
    | true => exact (abE_ok RC b F1 h2).imp fun x Γ d ρ q => q.jL
    | false => exact (abE_ok RC e F1 h3).imp fun x Γ d ρ q => q.jR
  | .chain o1 o2 a b e, X, σ, σ', c, ρ, Γ, F, h => by
    rw [abE] at h
    obtain ⟨p, h1, h⟩ := ex_of h
    obtain ⟨q, h2, h⟩ := ex_of h
    obtain ⟨x, h3, h⟩ := ex_of h
    obtain ⟨y, h4, h⟩ := ex_of h
    obtain ⟨w1, h5, h⟩ := ex_of h
    obtain ⟨r, h6, h⟩ := ex_of h
    obtain ⟨y2, h7, h⟩ := ex_of h
    obtain ⟨z, h8, h⟩ := ex_of h
    obtain ⟨w, h9, h10⟩ := ex_map h
    cases h10
    rw [x_chain, y_chain]
    refine (opd_ok F h1 fun c σ' q => abE_ok RC a F q).bind fun oa Γ1 pa ρ1 qa => ?_
    refine (opd_ok qa.2 h2 fun c σ' q => abE_ok RC b qa.2 q).bind fun ob Γ2 pb ρ2 qb => ?_
    obtain ⟨xv, x1, x2, x3⟩ := get1_ok qa.1 qb.2 h3
    obtain ⟨yv, y1, y2', y3⟩ := get1_ok qb.1 qb.2 h4
    rw [x1, x2, y1, y2']
    dsimp only
    cases e1 : opSem o1 [xv.d, yv.d] with
    | none => exact RR.bad
    | some d =>
      obtain ⟨v, v1, v2, v3⟩ := op_ok (.cons x3 (.cons y3 .nil)) h5 e1
      rw [v1]
      dsimp only [Option.bind_some]
      rw [boolV_p, v2]
      cases e2 : pbool d with
      | none => exact RR.bad
      | some t =>
        cases t with
        | false => exact ⟨rfl, okV_le (ab_joinR _ _) (atom_ok (c := ⟨.i, true⟩)), qb.2.joinL⟩
        | true =>
          dsimp only
          refine (opd_ok qb.2 h6 fun c σ' q => abE_ok RC e qb.2 q).bind fun oc Γ3 pc ρ3 qc => ?_
          obtain ⟨yw, y4, y5, y6⟩ := get1_ok qb.1 qc.2 h7
          obtain ⟨zv, z1, z2, z3⟩ := get1_ok qc.1 qc.2 h8
          rw [y4, y5, z1, z2]
          dsimp only
          cases e3 : opSem o2 [yw.d, zv.d] with
          | none => exact RR.bad
          | some d3 =>
            obtain ⟨u, u1, u2, u3⟩ := op_ok (.cons y6 (.cons z3 .nil)) h9 e3
            rw [u1]
            exact ⟨u2, okV_le (ab_joinL _ _) u3, qc.2.joinR⟩
  | .tup es, X, σ, σ', c, ρ, Γ, F, h => by
    rw [abE] at h
    obtain ⟨p, h1, h2⟩ := ex_map h
    cases h2
    rw [x_tup, y_tup]
    refine (abEs_ok RC es F h1).bind fun xs Γ1 ds ρ1 q => ?_
    rw [q.1.len.1]
    by_cases hl : ds.length ≤ szLim
    · rw [if_pos hl, if_pos hl]
      exact ⟨(mkT_ok q.1).2, (mkT_ok q.1).1, q.2⟩
    · rw [if_neg hl, if_neg hl]
      exact RR.bad
  | .lst es, X, σ, σ', c, ρ, Γ, F, h => by
    rw [abE] at h
    obtain ⟨p, h1, h2⟩ := ex_map h
    cases h2
    rw [x_lst, y_lst]
    refine (abEs_ok RC es F h1).bind fun xs Γ1 ds ρ1 q => ?_
    rw [q.1.len.1]
    by_cases hl : ds.length ≤ szLim
    · rw [if_pos hl, if_pos hl]
      exact ⟨(mkL_ok q.1).2, (mkL_ok q.1).1, q.2⟩
    · rw [if_neg hl, if_neg hl]
      exact RR.bad
  | .call f es, X, σ, σ', c, ρ, Γ, F, h => by
    rw [abE] at h
    obtain ⟨p, h1, h⟩ := ex_of h
    obtain ⟨s, h2, h⟩ := ex_of h
    split at h
    · rename_i hg
      rw [Bool.and_eq_true] at hg
      cases h
      rw [evE, pvE]
      refine (abOs_ok RC es F h1).bind fun os Γ1 ps ρ1 q => ?_
      exact call_ok (es := es) RC h2 q.1 q.2 hg.1 hg.2
    · cases h
  | .comp e t it cn kl, X, σ, σ', c, ρ, Γ, F, h => by
    rw [abE] at h
    obtain ⟨p, h1, h⟩ := ex_of h
    obtain ⟨r, h2, h3⟩ := ex_map h
    cases h3
    obtain ⟨⟨p', f1, f2⟩, f3⟩ := fixA_ok h2
    obtain ⟨g1, e1, f1⟩ := ex_of f1
    obtain ⟨g2, e2, f1⟩ := ex_of f1
    obtain ⟨q, e3, e4⟩ := ex_map f1
    obtain ⟨rc, rh⟩ := r
    cases e4
    rw [x_comp, y_comp]
    refine (abI_ok RC it F h1).bind fun items Γ1 ds ρ1 qi => ?_
    obtain ⟨rfl, i2, i3⟩ := qi
    rw [List.length_map, RC.io]
    by_cases hl : items.length < szLim ∧ (kl.all fun i => !P.io.contains i) = true
    · rw [if_pos hl, if_pos hl]
      have body := compL_ok (X := X) (X' := topA σ) (cI := p.1) (c := q.1) (h := rh) (kl := kl) (body := compB C e t cn) (pbody := pcompB P e t cn) (fun x ρ Γ ok F => by
        unfold compB pcompB
        refine (tgt_ok RC F ok e1).bind fun _ Γ1 _ ρ1 F1 => ?_
        refine (abCs_ok RC cn F1 e2).bind fun b Γ2 b' ρ2 q2 => ?_
        obtain ⟨rfl, F2⟩ := q2
        cases b with
        | true =>
          refine (abE_ok RC e F2 e3).bind fun y Γ3 d ρ3 q3 => ?_
          obtain ⟨rfl, y2, y3⟩ := q3
          exact ⟨rfl, (fun z hz => by cases hz; exact y2), (Fit.joinR (y3.kill (kl := kl))).le f2⟩
        | false => exact ⟨rfl, (fun z hz => by cases hz), (Fit.joinL (F2.kill (kl := kl))).le f2⟩) i2 (f3 _ _ i3.kill)
      refine body.bind fun ys Γ2 ds ρ2 q2 => ?_
      obtain ⟨rfl, y2, y3⟩ := q2
      exact ⟨(mkL_all y2).2, (mkL_all y2).1, y3⟩
    · rw [if_neg hl, if_neg hl]
      exact RR.bad
  | .mut m i es, X, σ, σ', c, ρ, Γ, F, h => by
    rw [abE] at h
    obtain ⟨c0, h0, h⟩ := ex_of h
    obtain ⟨p, h1, h⟩ := ex_of h
    obtain ⟨c1, h2, h⟩ := ex_of h
    obtain ⟨q, h3, h4⟩ := ex_map h
    cases h4
    rw [x_mut, y_mut, lstAt_ok F h0]
    split
    · refine (abEs_ok RC es F h1).bind fun xs Γ1 ds ρ1 qe => ?_
      obtain ⟨x, x1, x2, x3⟩ := qe.2.2 i c1 h2
      rw [x1, x2]
      dsimp only
      cases e : pmut m x.d ds with
      | none => exact RR.bad
      | some r =>
        obtain ⟨v', w'⟩ := r
        obtain ⟨hn, r', x', m1, m2, m3, m4, m5⟩ := mut_ok qe.1 x3 (r := q.1) (c' := q.2) h3 e
        rw [if_neg hn, m1]
        refine ⟨m2, m3, ?_⟩
        have := qe.2.set (slotG_lt x1) m5
        rw [m4] at this
        exact this
    · exact RR.bad
  | .dget i es, X, σ, σ', c, ρ, Γ, F, h => by
    rw [abE] at h
    obtain ⟨c0, h0, h⟩ := ex_of h
    obtain ⟨p, h1, h⟩ := ex_of h
    obtain ⟨cs, h2, h⟩ := ex_of h
    obtain ⟨c1, h3, h4⟩ := ex_map h
    cases h4
    rw [evE, y_dget, dctAt_ok F h0]
    split
    · refine (abOs_ok RC es F h1).bind fun os Γ1 ps ρ1 q => ?_
      obtain ⟨xs, ds, g1, g2, g3, g4, g5⟩ := get_ok (as := .b i :: p.1) (os := .b i :: os) (ps := .b i :: ps) (.cons (.b i) q.1) q.2 h2
      have g4 : idxM os = [] := g4
      have g5 : pidxM ps = [] := g5
      rw [if_pos g4, if_pos g5, g1, g2, (ops_idx q.1).2.2.2.2.2.2]
      show RR X _ (opt (opVal (if ps.length = 1 then .get1 else .get2) xs) Γ1) (popt (opSem (if ps.length = 1 then .get1 else .get2) ds) ρ1)
      have key : ∀ o : Op, (o = .get1 ∨ o = .get2) → RR X (QE c p.2) (opt (opVal o xs) Γ1) (popt (opSem o ds) ρ1) := fun o ho => by
        cases e : opSem o ds with
        | none => exact RR.bad
        | some d =>
          obtain ⟨x, v1, v2, v3⟩ := op_ok (c := c) g3 (by rcases ho with rfl | rfl <;> exact h3) e
          rw [v1]
          exact ⟨v2, v3, q.2⟩
      split
      · exact key _ (.inl rfl)
      · exact key _ (.inr rfl)
    · exact RR.bad
  | .sdf i es, X, σ, σ', c, ρ, Γ, F, h => by
    rw [abE] at h
    obtain ⟨c0, h0, h⟩ := ex_of h
    obtain ⟨p, h1, h⟩ := ex_of h
    obtain ⟨c1, h2, h⟩ := ex_of h
    rw [evE, y_sdf, dctAt_ok F h0]
    split
    · refine (abEs_ok RC es F h1).bind fun xs Γ1 ds ρ1 qe => ?_
      obtain ⟨x, x1, x2, x3⟩ := qe.2.2 i c1 h2
      rw [x1, x2]
      dsimp only
      cases e : psdf x.d ds with
      | none => exact RR.bad
      | some r =>
        obtain ⟨v', w'⟩ := r
        obtain ⟨pc, pσ⟩ := p
        dsimp only at h
        split at h
        · rename_i ck cy hcs
          split at h
          · rename_i hg
            cases h
            dsimp only at qe
            obtain ⟨r', x', m1, m2, m3, m4, m5⟩ := sdf_ok (ck := ck) (cy := cy) qe.1 x3 hg.1 hg.2 e
            rw [m1]
            refine ⟨m2, m3, ?_⟩
            have := qe.2.set (slotG_lt x1) m5
            rw [m4] at this
            exact this
          · cases h
        · cases h
    · exact RR.bad
  | .dK0, X, σ, σ', c, ρ, Γ, F, h => by
    rw [abE] at h; cases h
    rw [x_dK0, y_dK0]
    exact ⟨rfl, ⟨(fun a e => by cases e), rfl, fun _ => rfl⟩, F⟩
  | .dT0, X, σ, σ', c, ρ, Γ, F, h => by
    rw [abE] at h; cases h
    rw [x_dT0, y_dT0]
    exact ⟨rfl, ⟨(fun a e => by cases e), rfl, fun _ => rfl⟩, F⟩
  | .imm e, X, σ, σ', c, ρ, Γ, F, h => by
    rw [abE] at h
    obtain ⟨p, h1, h2⟩ := ex_map h
    cases h2
    rw [x_imm, y_imm]
    refine (abE_ok RC e F h1).bind fun x Γ1 d ρ1 q => ?_
    obtain ⟨rfl, q2, q3⟩ := q
    split
    · exact ⟨rfl, ⟨fun _ _ => ⟨rfl, rfl⟩, rfl, fun _ => rfl⟩, q3⟩
    · exact RR.bad
  | .lent e, X, σ, σ', c, ρ, Γ, F, h => by
    rw [abE] at h
    obtain ⟨p, h1, h2⟩ := ex_map h
    cases h2
    rw [x_lent, y_lent]
    have := abE_ok RC e F h1
    cases e1 : pvE P e ρ with
    | bad => exact RR.bad
    | exc k ρ1 =>
      rw [e1] at this
      cases e2 : evE C e Γ with
      | bad => rw [e2] at this; exact this.elim
      | ok _ _ => rw [e2] at this; exact this.elim
      | exc k' Γ1 => rw [e2] at this; exact this
    | ok d ρ1 =>
      rw [e1] at this
      cases e2 : evE C e Γ with
      | bad => rw [e2] at this; exact this.elim
      | exc _ _ => rw [e2] at this; exact this.elim
      | ok x Γ1 =>
        rw [e2] at this
        obtain ⟨rfl, q2, q3⟩ := this
        exact ⟨rfl, lend_ok q2, q3⟩
theorem abEs_ok (RC : CRel S C P) : ∀ (es : IEs) {X σ σ' : AG} {cs : List Ab} {ρ : PEnv} {Γ : Gam}, Fit σ ρ Γ → abEs S X es σ = some (cs, σ') → RR X (QEs cs σ') (evEs C es Γ) (pvEs P es ρ)
  | .nil, X, σ, σ', cs, ρ, Γ, F, h => by
    rw [abEs] at h; cases h
    rw [x_esn, y_esn]
    exact ⟨.nil, F⟩
  | .cons e es, X, σ, σ', cs, ρ, Γ, F, h => by
    rw [abEs] at h
    obtain ⟨p, h1, h⟩ := ex_of h
    obtain ⟨q, h2, h3⟩ := ex_map h
    cases h3
    rw [x_esc, y_esc]
    refine (abE_ok RC e F h1).bind fun x Γ1 d ρ1 q1 => ?_
    obtain ⟨rfl, q2, q3⟩ := q1
    refine (abEs_ok RC es q3 h2).bind fun xs Γ2 ds ρ2 r => ?_
    exact ⟨.cons q2 r.1, r.2⟩
theorem abOs_ok (RC : CRel S C P) : ∀ (es : IEs) {X σ σ' : AG} {as : List AOpd} {ρ : PEnv} {Γ : Gam}, Fit σ ρ Γ → abOs S X es σ = some (as, σ') → RR X (QOs as σ') (evOs C es Γ) (pvOs P es ρ)
  | .nil, X, σ, σ', cs, ρ, Γ, F, h => by
    rw [abOs] at h; cases h
    rw [x_osn, y_osn]
    exact ⟨.nil, F⟩
  | .cons e es, X, σ, σ', cs, ρ, Γ, F, h => by
    rw [abOs] at h
    obtain ⟨p, h1, h⟩ := ex_of h
    obtain ⟨q, h2, h3⟩ := ex_map h
    cases h3
    rw [x_osc, y_osc]
    refine (opd_ok F h1 fun c σ' q => abE_ok RC e F q).bind fun x Γ1 d ρ1 q1 => ?_
    refine (abOs_ok RC es q1.2 h2).bind fun xs Γ2 ds ρ2 r => ?_
    exact ⟨.cons q1.1 r.1, r.2⟩
theorem abCs_ok (RC : CRel S C P) : ∀ (es : IEs) {X σ σ' : AG} {ρ : PEnv} {Γ : Gam}, Fit σ ρ Γ → abCs S X es σ = some σ' → RR X (fun b Γ' b' ρ' => b = b' ∧ Fit σ' ρ' Γ') (evCs C es Γ) (pvCs P es ρ)
  | .nil, X, σ, σ', ρ, Γ, F, h => by
    rw [abCs] at h; cases h
    rw [x_csn, y_csn]
    exact ⟨rfl, F⟩
  | .cons e es, X, σ, σ', ρ, Γ, F, h => by
    rw [abCs] at h
    rw [x_csc, y_csc]
    exact test_ok F h fun c σ' q => abE_ok RC e F q
theorem abI_ok (RC : CRel S C P) : ∀ (it : Itr) {X σ σ' : AG} {c : Ab} {ρ : PEnv} {Γ : Gam}, Fit σ ρ Γ → abI S X it σ = some (c, σ') → RR X (QI c σ') (evI C it Γ) (pvI P it ρ)
  | .seq e, X, σ, σ', c, ρ, Γ, F, h => by
    rw [abI] at h
    obtain ⟨p, h1, h2⟩ := ex_map h
    cases h2
    rw [x_seq, y_seq]
    refine (abE_ok RC e F h1).bind fun x Γ1 d ρ1 q => ?_
    obtain ⟨rfl, q2, q3⟩ := q
    cases kidsD x.d with
    | none => exact RR.bad
    | some ds => exact ⟨(childs_okV (nf := false) (fun z => by cases z)).1, (childs_okV fun z => low_lend q2 z).2, q3⟩
  | .str e, X, σ, σ', c, ρ, Γ, F, h => by
    rw [abI] at h
    obtain ⟨p, h1, h2⟩ := ex_map h
    cases h2
    rw [x_str, y_str]
    refine (abE_ok RC e F h1).bind fun x Γ1 d ρ1 q => ?_
    obtain ⟨rfl, q2, q3⟩ := q
    cases ez : x.d with
    | nd t us => exact RR.bad
    | «at» a =>
      cases a <;> first | (exact RR.bad; done) | skip
      refine ⟨?_, fun y hy => ?_, q3⟩
      · unfold strKids pstrKids
        rw [List.map_map]
        rfl
      · obtain ⟨k, _, rfl⟩ := List.mem_map.mp hy
        exact atom_ok
  | .rng es, X, σ, σ', c, ρ, Γ, F, h => by
    rw [abI] at h
    obtain ⟨p, h1, h⟩ := ex_of h
    obtain ⟨cs, h2, h3⟩ := ex_map h
    cases h3
    rw [x_rng, y_rng]
    refine (abOs_ok RC es F h1).bind fun os Γ1 ps ρ1 q => ?_
    obtain ⟨xs, ds, g1, g2, g3, g4, g5⟩ := get_ok q.1 q.2 h2
    rw [if_pos g4, if_pos g5, g1, g2]
    dsimp only [Option.bind_some]
    rw [g3.eq]
    cases rngInts ds with
    | none => exact RR.bad
    | some ns =>
      refine ⟨?_, fun y hy => ?_, q.2⟩
      · rw [List.map_map]; rfl
      · obtain ⟨k, _, rfl⟩ := List.mem_map.mp hy
        exact atom_ok
  | .enum e, X, σ, σ', c, ρ, Γ, F, h => by
    rw [abI] at h
    obtain ⟨p, h1, h2⟩ := ex_map h
    cases h2
    rw [x_enum, y_enum]
    refine (abE_ok RC e F h1).bind fun x Γ1 d ρ1 q => ?_
    obtain ⟨rfl, q2, q3⟩ := q
    cases ez : x.d with
    | «at» a => exact RR.bad
    | nd t us =>
      cases t <;> first | (exact RR.bad; done) | skip
      refine ⟨?_, fun y hy => ?_, q3⟩
      · refine List.ext_getElem? fun j => ?_
        rw [List.getElem?_map, List.getElem?_mapIdx, List.getElem?_mapIdx]
        cases us[j]? <;> rfl
      · obtain ⟨k, hk, rfl⟩ := List.mem_mapIdx.mp hy
        exact ⟨(fun a e => by cases e), rfl, fun z => low_lend q2 z⟩
  | .zip a b, X, σ, σ', c, ρ, Γ, F, h => by
    rw [abI] at h
    obtain ⟨p, h1, h⟩ := ex_of h
    obtain ⟨r, h2, h3⟩ := ex_map h
    cases h3
    rw [x_zip, y_zip]
    refine (abE_ok RC a F h1).bind fun x Γ1 d ρ1 q => ?_
    obtain ⟨rfl, q2, q3⟩ := q
    refine (abE_ok RC b q3 h2).bind fun y Γ2 d2 ρ2 q => ?_
    obtain ⟨rfl, q4, q5⟩ := q
    cases ez : x.d with
    | «at» a => exact RR.bad
    | nd t us =>
      cases t <;> first | (exact RR.bad; done) | skip
      cases ey : y.d with
      | «at» a => exact RR.bad
      | nd t ws =>
        cases t <;> first | (exact RR.bad; done) | skip
        refine ⟨?_, fun w hw => ?_, q5⟩
        · rw [List.map_map]; rfl
        · obtain ⟨k, _, rfl⟩ := List.mem_map.mp hw
          refine ⟨(fun a e => by cases e), rfl, fun z => ?_⟩
          have z : (p.1.low && p.1.z && r.1.low && r.1.z) = true := z
          rw [Bool.and_eq_true, Bool.and_eq_true] at z
          show ((lend x).fz || (lend y).fz) = false
          rw [low_lend q2 z.1.1, low_lend q4 (by rw [z.1.2, z.2]; rfl)]; rfl
  | .rev e, X, σ, σ', c, ρ, Γ, F, h => by
    rw [abI] at h
    obtain ⟨p, h1, h2⟩ := ex_map h
    cases h2
    rw [x_rev, y_rev]
    refine (abE_ok RC e F h1).bind fun x Γ1 d ρ1 q => ?_
    obtain ⟨rfl, q2, q3⟩ := q
    cases ez : x.d with
    | «at» a => exact RR.bad
    | nd t us =>
      cases t <;> first | (exact RR.bad; done) | skip
      exact ⟨(childs_okV (nf := false) (fun z => by cases z)).1, (childs_okV fun z => low_lend q2 z).2, q3⟩
end
end
end Px
namespace Px
open PySem L2
section
variable {S : List FS} {C : Ctx} {P : PCtx} {X X' σ σ' σ1 τ : AG} {ρ ρ' : PEnv} {Γ Γ' : Gam} {c d cI cy : Ab} {i : Nat} {x y k : Val}
def QS (F : FX) (o : AO) : Fl → Gam → PFl → PEnv → Prop
  | .nx, Γ, .nx, ρ => ∃ σ, o.nx = some σ ∧ Fit σ ρ Γ
  | .bk, Γ, .bk, ρ => ∃ σ, o.bk = some σ ∧ Fit σ ρ Γ
  | .ct, Γ, .ct, ρ => ∃ σ, o.ct = some σ ∧ Fit σ ρ Γ
  | .rt x, Γ, .rt d, ρ => x.d = d ∧ OkV F.ret x ∧ ∀ j ∈ F.io, ∃ y, slotG Γ j = some y ∧ pslot ρ j = some y.d ∧ OkV F.ioc y
  | _, _, _, _ => False
theorem okR_io {F : FX} (h : F.okR c σ = true) (Ft : Fit σ ρ Γ) : c.le F.ret = true ∧ ∀ j ∈ F.io, ∃ y, slotG Γ j = some y ∧ pslot ρ j = some y.d ∧ OkV F.ioc y := by
  unfold FX.okR at h
  rw [Bool.and_eq_true] at h
  refine ⟨h.1, fun j hj => ?_⟩
  have := List.all_eq_true.mp h.2 j hj
  cases e : slA σ j with
  | none => rw [e] at this; cases this
  | some c0 =>
    rw [e] at this
    obtain ⟨y, y1, y2, y3⟩ := Ft.2 j c0 e
    exact ⟨y, y1, y2, okV_le this y3⟩
theorem top_of (hc : c.oc = .t) (ok : OkV c x) (hm : isM x.d = true) : x.ow = .top := by
  have ok := ok.2.1
  rw [hc] at ok
  have ok : x.ow = if isM x.d then .top else .no := ok
  rw [ok, if_pos hm]
theorem putD_ok {κ : Type} [DecidableEq κ] {ks : List κ} {ds : List D} {ok : Option κ} {mk : List κ → NT} (hm : ∀ ks, isM (.nd (mk ks) []) = true) (hx : x.ow = .top) (hy : y.ow = .no) (zx : c.z = true → x.fz = false) (zy : cy.z = true → y.fz = false) {v' w' : D} (hp : pputD ks ds ok y.d mk = some (v', w')) :
    ∃ r' x', putD x y ks ds ok mk = some (r', x') ∧ x'.d = w' ∧ OkV ⟨.t, c.z && cy.z⟩ x' := by
  unfold pputD at hp
  unfold putD
  cases ok with
  | none => cases hp
  | some k =>
    dsimp only at hp ⊢
    split at hp
    · rename_i hl
      cases hp
      rw [if_pos ⟨hx, hy, hl.1, hl.2⟩]
      refine ⟨_, _, rfl, rfl, (fun a e => by cases e), ?_, fun z => ?_⟩
      · show Ow.top = if isM _ then Ow.top else Ow.no
        have : isM (D.nd (mk (putKs ks ds k y.d).1) (putKs ks ds k y.d).2) = true := by
          have := hm (putKs ks ds k y.d).1
          cases e : mk (putKs ks ds k y.d).1 <;> rw [e] at this <;> first | rfl | cases this
        rw [this]; rfl
      · have z : (c.z && cy.z) = true := z
        rw [Bool.and_eq_true] at z
        show (x.fz || y.fz) = false
        rw [zx z.1, zy z.2]; rfl
    · cases hp
theorem setIx_ok (okx : OkV c x) (hc : c.oc = .t) (oky : OkV cy y) (hy : cy.low = true) {v' w' : D} (hp : pmut .setIx x.d [y.d, k.d] = some (v', w')) :
    x.ow ≠ .no ∧ ∃ r' x', mutV .setIx x [y, k] = some (r', x') ∧ x'.d = w' ∧ OkV ⟨.t, c.z && cy.z⟩ x' := by
  have yno := low_no hy oky
  cases e : x.d with
  | «at» a => rw [e] at hp; cases hp
  | nd t zs =>
    rw [e] at hp
    cases t with
    | tup => cases hp
    | ktup => cases hp
    | lst =>
      have hx := top_of hc okx (by rw [e]; rfl)
      refine ⟨by rw [hx]; decide, ?_⟩
      cases ek : k.d with
      | nd t us => rw [ek] at hp; cases hp
      | «at» a =>
        rw [ek] at hp
        cases a <;> first | (cases hp; done) | skip
        rename_i n
        have hp : (ixN zs.length n).map (fun j => (D.non, D.lst (zs.set j y.d))) = some (v', w') := hp
        cases ej : ixN zs.length n with
        | none => rw [ej] at hp; cases hp
        | some j =>
          rw [ej] at hp
          cases hp
          refine ⟨⟨.no, false, .non⟩, ⟨joinOw x.ow y.ow, x.fz || y.fz, .lst (zs.set j y.d)⟩, ?_, rfl, (fun a e => by cases e), ?_, fun z => ?_⟩
          · show (match x.d, k.d with
              | .nd .lst ds, .at (.int i) => (ixN ds.length i).map fun j => ((⟨.no, false, .non⟩ : Val), (⟨joinOw x.ow y.ow, x.fz || y.fz, .lst (ds.set j y.d)⟩ : Val))
              | .nd (.dK ks) ds, k => putD x y ks ds (keyOf k) .dK
              | .nd (.dT ks) ds, .nd .tup es => putD x y ks ds (keysOf es) .dT
              | _, _ => none) = _
            rw [e, ek]
            show (ixN zs.length n).map _ = _
            rw [ej]; rfl
          · show joinOw x.ow y.ow = Ow.top
            rw [hx, yno]; rfl
          · have z : (c.z && cy.z) = true := z
            rw [Bool.and_eq_true] at z
            show (x.fz || y.fz) = false
            rw [okV_z okx z.1, okV_z oky z.2]; rfl
    | dK ks =>
      have hx := top_of hc okx (by rw [e]; rfl)
      refine ⟨by rw [hx]; decide, ?_⟩
      have hp : pputD ks zs (keyOf k.d) y.d .dK = some (v', w') := by
        cases ek : k.d with
        | nd t us => rw [ek] at hp; exact hp
        | «at» a => rw [ek] at hp; cases a <;> exact hp
      obtain ⟨r', x', q1, q2, q3⟩ := putD_ok (c := c) (cy := cy) (fun _ => rfl) hx yno (okV_z okx) (okV_z oky) hp
      refine ⟨r', x', ?_, q2, q3⟩
      show (match x.d, k.d with
              | .nd .lst ds, .at (.int i) => (ixN ds.length i).map fun j => ((⟨.no, false, .non⟩ : Val), (⟨joinOw x.ow y.ow, x.fz || y.fz, .lst (ds.set j y.d)⟩ : Val))
              | .nd (.dK ks) ds, k => putD x y ks ds (keyOf k) .dK
              | .nd (.dT ks) ds, .nd .tup es => putD x y ks ds (keysOf es) .dT
              | _, _ => none) = _
      rw [e]
      cases ek : k.d with
      | nd t us => rw [ek] at q1; exact q1
      | «at» a => rw [ek] at q1; cases a <;> exact q1
    | dT ks =>
      have hx := top_of hc okx (by rw [e]; rfl)
      refine ⟨by rw [hx]; decide, ?_⟩
      cases ek : k.d with
      | «at» a => rw [ek] at hp; cases hp
      | nd t us =>
        rw [ek] at hp
        cases t <;> first | (cases hp; done) | skip
        have hp : pputD ks zs (keysOf us) y.d .dT = some (v', w') := hp
        obtain ⟨r', x', q1, q2, q3⟩ := putD_ok (c := c) (cy := cy) (fun _ => rfl) hx yno (okV_z okx) (okV_z oky) hp
        refine ⟨r', x', ?_, q2, q3⟩
        show (match x.d, k.d with
              | .nd .lst ds, .at (.int i) => (ixN ds.length i).map fun j => ((⟨.no, false, .non⟩ : Val), (⟨joinOw x.ow y.ow, x.fz || y.fz, .lst (ds.set j y.d)⟩ : Val))
              | .nd (.dK ks) ds, k => putD x y ks ds (keyOf k) .dK
              | .nd (.dT ks) ds, .nd .tup es => putD x y ks ds (keysOf es) .dT
              | _, _ => none) = _
        rw [e, ek]
        exact q1
theorem augG_ok (okx : OkV c x) (hc : c.oc = .t) : augG x k = paugG x.d k.d := by
  unfold augG paugG
  cases e : x.d with
  | «at» a => rfl
  | nd t zs =>
    cases t <;> first | rfl | skip
    have hx := top_of hc okx (by rw [e]; rfl)
    cases ek : k.d with
    | nd t us => rfl
    | «at» a =>
      cases a <;> first | rfl | skip
      rename_i n
      dsimp only
      cases atI zs n with
      | none => rfl
      | some w =>
        cases w with
        | nd t us => rfl
        | «at» a =>
          cases a <;> first | rfl | skip
          dsimp only
          rw [hx, if_neg (by decide)]
theorem joinO_L {a b : Option AG} {r x : AG} (h : joinO a b = some r) (ha : a = some x) (F : Fit x ρ Γ) : Fit r ρ Γ := by
  subst ha
  cases b with
  | none => cases h; exact F
  | some y => cases h; exact F.joinL
theorem joinO_R {a b : Option AG} {r x : AG} (h : joinO a b = some r) (hb : b = some x) (F : Fit x ρ Γ) : Fit r ρ Γ := by
  subst hb
  cases a with
  | none => cases h; exact F
  | some y => cases h; exact F.joinR
theorem joinO_some {a b : Option AG} (h : a.isSome = true ∨ b.isSome = true) : ∃ r, joinO a b = some r := by
  cases a <;> cases b <;> first | exact ⟨_, rfl⟩ | simp at h
theorem QS.jL {F : FX} {o o' : AO} {f : Fl} {p : PFl} (h : QS F o f Γ p ρ) : QS F (o.join o') f Γ p ρ := by
  cases f <;> cases p <;> first | exact h.elim | skip
  · obtain ⟨σ, e, h⟩ := h
    obtain ⟨r, hr⟩ := joinO_some (a := o.nx) (b := o'.nx) (.inl (by rw [e]; rfl))
    exact ⟨r, hr, joinO_L hr e h⟩
  · obtain ⟨σ, e, h⟩ := h
    obtain ⟨r, hr⟩ := joinO_some (a := o.bk) (b := o'.bk) (.inl (by rw [e]; rfl))
    exact ⟨r, hr, joinO_L hr e h⟩
  · obtain ⟨σ, e, h⟩ := h
    obtain ⟨r, hr⟩ := joinO_some (a := o.ct) (b := o'.ct) (.inl (by rw [e]; rfl))
    exact ⟨r, hr, joinO_L hr e h⟩
  · exact h
theorem QS.jR {F : FX} {o o' : AO} {f : Fl} {p : PFl} (h : QS F o f Γ p ρ) : QS F (o'.join o) f Γ p ρ := by
  cases f <;> cases p <;> first | exact h.elim | skip
  · obtain ⟨σ, e, h⟩ := h
    obtain ⟨r, hr⟩ := joinO_some (a := o'.nx) (b := o.nx) (.inr (by rw [e]; rfl))
    exact ⟨r, hr, joinO_R hr e h⟩
  · obtain ⟨σ, e, h⟩ := h
    obtain ⟨r, hr⟩ := joinO_some (a := o'.bk) (b := o.bk) (.inr (by rw [e]; rfl))
    exact ⟨r, hr, joinO_R hr e h⟩
  · obtain ⟨σ, e, h⟩ := h
    obtain ⟨r, hr⟩ := joinO_some (a := o'.ct) (b := o.ct) (.inr (by rw [e]; rfl))
    exact ⟨r, hr, joinO_R hr e h⟩
  · exact h
/-- what a loop's turn leaves for the next one -/
theorem next_ok {a b : Option AG} {kl : List Nat} {h : AG} (hl : agLe ((joinO (killO kl a) (killO kl b)).getD h) h = true) {s : AG} (hs : a = some s ∨ b = some s) (F : Fit s ρ Γ) : Fit h (pkill ρ kl) (killG Γ kl) := by
  have hs' : killO kl a = some (killA s kl) ∨ killO kl b = some (killA s kl) := hs.imp (fun e => by rw [e]; rfl) (fun e => by rw [e]; rfl)
  obtain ⟨r, hr⟩ := joinO_some (a := killO kl a) (b := killO kl b) (hs'.imp (fun e => by rw [e]; rfl) (fun e => by rw [e]; rfl))
  rw [hr] at hl
  refine Fit.le ?_ hl
  rcases hs' with e | e
  · exact joinO_L hr e F.kill
  · exact joinO_R hr e F.kill
theorem for_ok {F : FX} {o : AO} {h out : AG} {kl : List Nat} {body : Val → Gam → R Fl} {pbody : D → PEnv → RP PFl}
    (hb : ∀ x ρ Γ, OkV cI x → Fit h ρ Γ → RR X (QS F o) (body x Γ) (pbody x.d ρ)) (ho : joinO (some (killA h kl)) (killO kl o.bk) = some out) (hl : agLe ((joinO (killO kl o.nx) (killO kl o.ct)).getD h) h = true) :
    ∀ {items : List Val} {ρ : PEnv} {Γ : Gam}, (∀ x ∈ items, OkV cI x) → Fit h ρ Γ → RR X (QS F ⟨some out, none, none⟩) (forL body (fun Γ => killG Γ kl) items Γ) (pforL pbody (fun ρ => pkill ρ kl) (items.map (·.d)) ρ)
  | [], ρ, Γ, _, Ft => ⟨out, rfl, joinO_L ho rfl Ft.kill⟩
  | x :: items, ρ, Γ, hi, Ft => by
    rw [List.map_cons]
    unfold forL pforL
    have q := hb x ρ Γ (hi x List.mem_cons_self) Ft
    have ih := fun {ρ Γ} => for_ok (items := items) (ρ := ρ) (Γ := Γ) hb ho hl (fun x hx => hi x (List.mem_cons_of_mem _ hx))
    cases e : pbody x.d ρ with
    | bad => exact RR.bad
    | exc n ρ1 =>
      rw [e] at q
      cases e2 : body x Γ with
      | bad => rw [e2] at q; exact q.elim
      | ok _ _ => rw [e2] at q; exact q.elim
      | exc m Γ1 => rw [e2] at q; exact q
    | ok p ρ1 =>
      rw [e] at q
      cases e2 : body x Γ with
      | bad => rw [e2] at q; exact q.elim
      | exc _ _ => rw [e2] at q; exact q.elim
      | ok f Γ1 =>
        rw [e2] at q
        have q : QS F o f Γ1 p ρ1 := q
        cases f <;> cases p <;> first | exact q.elim | skip
        · obtain ⟨s, es, q⟩ := q
          exact ih (next_ok hl (.inl es) q)
        · obtain ⟨s, es, q⟩ := q
          exact ⟨out, rfl, joinO_R ho (by rw [es]; rfl) q.kill⟩
        · obtain ⟨s, es, q⟩ := q
          exact ih (next_ok hl (.inr es) q)
        · exact q
theorem whl_ok {F : FX} {o : AO} {h h1 out : AG} {kl : List Nat} {test : Gam → R Bool} {ptest : PEnv → RP Bool} {body : Gam → R Fl} {pbody : PEnv → RP PFl}
    (ht : ∀ ρ Γ, Fit h ρ Γ → RR X (fun b Γ' b' ρ' => b = b' ∧ Fit h1 ρ' Γ') (test Γ) (ptest ρ))
    (hb : ∀ ρ Γ, Fit h1 ρ Γ → RR X (QS F o) (body Γ) (pbody ρ)) (ho : joinO (some (killA h1 kl)) (killO kl o.bk) = some out) (hl : agLe ((joinO (killO kl o.nx) (killO kl o.ct)).getD h) h = true) :
    ∀ {n : Nat} {ρ : PEnv} {Γ : Gam}, Fit h ρ Γ → RR X (QS F ⟨some out, none, none⟩) (whlL test body (fun Γ => killG Γ kl) n Γ) (pwhlL ptest pbody (fun ρ => pkill ρ kl) n ρ)
  | 0, ρ, Γ, _ => RR.bad
  | n + 1, ρ, Γ, Ft => by
    unfold whlL pwhlL
    have q := ht ρ Γ Ft
    have ih := fun {ρ Γ} => whl_ok (n := n) (ρ := ρ) (Γ := Γ) ht hb ho hl
    cases e : ptest ρ with
    | bad => exact RR.bad
    | exc n ρ1 =>
      rw [e] at q
      cases e2 : test Γ with
      | bad => rw [e2] at q; exact q.elim
      | ok _ _ => rw [e2] at q; exact q.elim
      | exc m Γ1 => rw [e2] at q; exact q
    | ok t ρ1 =>
      rw [e] at q
      cases e2 : test Γ with
      | bad => rw [e2] at q; exact q.elim
      | exc _ _ => rw [e2] at q; exact q.elim
      | ok t' Γ1 =>
        rw [e2] at q
        obtain ⟨rfl, F1⟩ := q
        cases t' with
        | false => exact ⟨out, rfl, joinO_L ho rfl F1.kill⟩
        | true =>
          dsimp only
          have q := hb ρ1 Γ1 F1
          cases e : pbody ρ1 with
          | bad => exact RR.bad
          | exc n ρ1 =>
            rw [e] at q
            cases e2 : body Γ1 with
            | bad => rw [e2] at q; exact q.elim
            | ok _ _ => rw [e2] at q; exact q.elim
            | exc m Γ1 => rw [e2] at q; exact q
          | ok p ρ1 =>
            rw [e] at q
            cases e2 : body Γ1 with
            | bad => rw [e2] at q; exact q.elim
            | exc _ _ => rw [e2] at q; exact q.elim
            | ok f Γ1 =>
              rw [e2] at q
              have q : QS F o f Γ1 p ρ1 := q
              cases f <;> cases p <;> first | exact q.elim | skip
              · obtain ⟨s, es, q⟩ := q
                exact ih (next_ok hl (.inl es) q)
              · obtain ⟨s, es, q⟩ := q
                exact ⟨out, rfl, joinO_R ho (by rw [es]; rfl) q.kill⟩
              · obtain ⟨s, es, q⟩ := q
                exact ih (next_ok hl (.inr es) q)
              · exact q
end
section
variable {S : List FS} {C : Ctx} {P : PCtx} {F : FX}
mutual
theorem abS_ok (RC : CRel S C P) : ∀ (s : IS) {X σ : AG} {o : AO} {ρ : PEnv} {Γ : Gam}, Fit σ ρ Γ → abS S F X s σ = some o → RR X (QS F o) (evS C s Γ) (pvS P s ρ)
  | .asg i e, X, σ, o, ρ, Γ, Ft, h => by
    rw [abS] at h
    obtain ⟨p, h1, h2⟩ := ex_map h
    cases h2
    rw [s_asg, v_asg, RC.io]
    split
    · exact RR.bad
    · refine (abE_ok RC e Ft h1).bind fun x Γ1 d ρ1 q => ?_
      obtain ⟨rfl, q2, q3⟩ := q
      rw [q3.1]
      by_cases hi : i < Γ1.length
      · rw [if_pos hi, if_pos hi]
        exact ⟨_, rfl, q3.set hi q2⟩
      · rw [if_neg hi, if_neg hi]
        exact RR.bad
  | .asgT is e, X, σ, o, ρ, Γ, Ft, h => by
    rw [abS] at h
    obtain ⟨p, h1, h⟩ := ex_of h
    obtain ⟨s, h2, h3⟩ := ex_map h
    cases h3
    rw [s_asgT, v_asgT]
    refine (abE_ok RC e Ft h1).bind fun x Γ1 d ρ1 q => ?_
    obtain ⟨rfl, q2, q3⟩ := q
    cases ez : x.d with
    | «at» a => exact RR.bad
    | nd t us =>
      cases t <;> first | (exact RR.bad; done) | skip
      dsimp only
      have r := tgt_ok (X := X) RC q3 (x := lend x) (c := ⟨.n, p.1.low && p.1.z⟩) ⟨lend_at q2.1, rfl, fun z => low_lend q2 z⟩ h2
      have ed : (lend x).d = .nd .tup us := ez
      rw [ed] at r
      exact r.bind fun _ Γ2 _ ρ2 q => ⟨_, rfl, q⟩
  | .par _ _ _ _, X, σ, o, ρ, Γ, Ft, h => by rw [abS] at h; cases h
  | .aug i op e, X, σ, o, ρ, Γ, Ft, h => by
    rw [abS] at h
    obtain ⟨c0, h0, h⟩ := ex_of h
    obtain ⟨s, h1, h2⟩ := ex_map h
    cases h2
    obtain ⟨a, c, h1, h3⟩ := tst_inv h1
    obtain ⟨x, x1, x2, x3⟩ := Ft.2 i c0 h0
    rw [s_aug, v_aug, RC.io, x1, x2]
    by_cases hc : i ∈ P.io ∨ (!augOk op) = true
    · rw [if_pos hc, if_pos hc]
      exact RR.bad
    · rw [if_neg hc, if_neg hc]
      dsimp only
      cases ex : x.d with
      | nd t us => exact RR.bad
      | «at» a0 =>
        dsimp only
        refine (opd_ok Ft h1 fun c σ' q => abE_ok RC e Ft q).bind fun oe Γ1 pe ρ1 q => ?_
        obtain ⟨y, y1, y2, y3⟩ := get1_ok q.1 q.2 h3
        rw [y1, y2]
        dsimp only
        cases es : opSem op [.at a0, y.d] with
        | none => exact RR.bad
        | some w =>
          cases w with
          | nd t us => exact RR.bad
          | «at» b =>
            cases b <;> first | (exact RR.bad; done) | skip
            rename_i r
            dsimp only
            rw [q.2.1]
            by_cases hi : i < Γ1.length
            · rw [if_pos hi, if_pos hi]
              exact ⟨_, rfl, q.2.set (x := ⟨.no, false, .int r⟩) hi atom_ok⟩
            · rw [if_neg hi, if_neg hi]
              exact RR.bad
  | .setIx i k e, X, σ, o, ρ, Γ, Ft, h => by
    rw [abS] at h
    obtain ⟨p, h1, h⟩ := ex_of h
    obtain ⟨c0, h0, h⟩ := ex_of h
    obtain ⟨q, h2, h⟩ := ex_of h
    obtain ⟨ck, h3, h⟩ := ex_of h
    obtain ⟨c, h4, h⟩ := ex_of h
    split at h
    · rename_i hg
      cases h
      rw [s_setIx, v_setIx]
      refine (abE_ok RC e Ft h1).bind fun y Γ1 d ρ1 q1 => ?_
      obtain ⟨rfl, q2, q3⟩ := q1
      rw [conAt_ok q3 h0]
      split
      · refine (opd_ok q3 h2 fun c σ' q => abE_ok RC k q3 q).bind fun ok Γ2 pk ρ2 q4 => ?_
        obtain ⟨kv, k1, k2, k3⟩ := get1_ok q4.1 q4.2 h3
        obtain ⟨x, x1, x2, x3⟩ := q4.2.2 i c h4
        rw [k1, k2, x1, x2]
        dsimp only
        cases em : pmut .setIx x.d [y.d, kv.d] with
        | none => exact RR.bad
        | some r =>
          obtain ⟨v', w'⟩ := r
          obtain ⟨hn, r', x', m1, m2, m3⟩ := setIx_ok x3 hg.1 q2 hg.2 em
          rw [if_neg hn, m1]
          dsimp only
          have := q4.2.set (slotG_lt x1) m3
          rw [m2] at this
          exact ⟨_, rfl, this⟩
      · exact RR.bad
    · cases h
  | .augIx i op k e, X, σ, o, ρ, Γ, Ft, h => by
    rw [abS] at h
    obtain ⟨c0, h0, h⟩ := ex_of h
    obtain ⟨p, h1, h⟩ := ex_of h
    obtain ⟨ck, h2, h⟩ := ex_of h
    obtain ⟨c1, h3, h⟩ := ex_of h
    obtain ⟨q, h4, h⟩ := ex_of h
    obtain ⟨ce, h5, h⟩ := ex_of h
    obtain ⟨c, h6, h⟩ := ex_of h
    split at h
    · rename_i hg
      cases h
      rw [evS, v_augIx, lstAt_ok Ft h0]
      by_cases hc : (!augOk op || !plst ρ i) = true
      · rw [if_pos hc, if_pos hc]
        exact RR.bad
      · rw [if_neg hc, if_neg hc]
        refine (opd_ok Ft h1 fun c σ' q => abE_ok RC k Ft q).bind fun ok Γ1 pk ρ1 q1 => ?_
        obtain ⟨kv, k1, k2, k3⟩ := get1_ok q1.1 q1.2 h2
        obtain ⟨x, x1, x2, x3⟩ := q1.2.2 i c1 h3
        rw [k1, k2, x1, x2]
        dsimp only
        rw [augG_ok x3 hg.1]
        cases eg : paugG x.d kv.d with
        | none => exact RR.bad
        | some na =>
          obtain ⟨n, a⟩ := na
          dsimp only
          refine (opd_ok q1.2 h4 fun c σ' q => abE_ok RC e q1.2 q).bind fun oe Γ2 pe ρ2 q2 => ?_
          obtain ⟨y, y1, y2, y3⟩ := get1_ok q2.1 q2.2 h5
          obtain ⟨z, z1, z2, z3⟩ := q2.2.2 i c h6
          rw [y1, y2, z1, z2]
          dsimp only
          have hz : z.ow ≠ .no ∨ isM z.d = false := by
            cases hm : isM z.d with
            | false => exact .inr rfl
            | true => exact .inl (by rw [top_of hg.2 z3 hm]; decide)
          cases es : opSem op [.at (.int a), y.d] with
          | none => exact RR.bad
          | some w =>
            cases w with
            | nd t us => exact RR.bad
            | «at» b =>
              cases b <;> first | (exact RR.bad; done) | skip
              rename_i r
              dsimp only
              cases em : pmut .setIx z.d [D.int r, D.int n] with
              | none => exact RR.bad
              | some r2 =>
                obtain ⟨v', w'⟩ := r2
                obtain ⟨hn, r', x', m1, m2, m3⟩ := setIx_ok (y := ⟨.no, false, .int r⟩) (k := ⟨.no, false, .int n⟩) (cy := ⟨.i, true⟩) z3 hg.2 atom_ok rfl em
                rw [if_neg hn, m1]
                dsimp only
                have := q2.2.set (slotG_lt z1) m3
                rw [m2] at this
                refine ⟨_, rfl, ?_⟩
                have e0 : (c.z && Ab.z ⟨.i, true⟩) = c.z := Bool.and_true _
                rw [e0] at this
                exact this
    · cases h
  | .mutAt i k m a, X, σ, o, ρ, Γ, Ft, h => by
    rw [abS] at h
    obtain ⟨c0, h0, h⟩ := ex_of h
    obtain ⟨q, h2, h⟩ := ex_of h
    obtain ⟨ck, h3, h⟩ := ex_of h
    obtain ⟨c, h4, h⟩ := ex_of h
    split at h
    · rename_i hg
      cases h
      rw [Bool.and_eq_true] at hg
      rw [evS, v_mutAt]
      obtain ⟨z, z1, z2, z3⟩ := Ft.2 i c0 h0
      rw [z1, z2]
      show RR X _ (if true = true then _ else _) (if true = true then _ else _)
      rw [if_pos rfl, if_pos rfl]
      refine (opd_ok Ft h2 fun c σ' q => abE_ok RC k Ft q).bind fun ok Γ1 pk ρ1 q1 => ?_
      obtain ⟨kv, k1, k2, k3⟩ := get1_ok q1.1 q1.2 h3
      obtain ⟨x, x1, x2, x3⟩ := q1.2.2 i c h4
      unfold fMA pMA
      rw [k1, k2, x1, x2]
      have ea : aosG Γ1 a = paos ρ1 a := by
        cases a with
        | none => rfl
        | some ao =>
          cases ao with
          | cst at_ => rfl
          | var j =>
            have hj : (slA q.2 j).isSome = true := hg.2
            cases ej : slA q.2 j with
            | none => rw [ej] at hj; cases hj
            | some cj =>
              obtain ⟨y, y1, y2, y3⟩ := q1.2.2 j cj ej
              show (aoG Γ1 (.var j)).map some = (pao ρ1 (.var j)).map some
              unfold aoG pao
              dsimp only
              rw [y1, y2]
              obtain ⟨yo, yf, yd⟩ := y
              cases yd <;> rfl
      rw [ea]
      cases paos ρ1 a with
      | none => exact RR.bad
      | some y =>
        dsimp only
        have hf := x3.2.2 hg.1
        unfold mutAtV
        rw [hf]
        rw [if_neg (show ¬ false = true by decide)]
        cases em : mutAtD m x.d kv.d y with
        | none => exact RR.bad
        | some d =>
          have mk : isM d = isM x.d ∧ (∃ t ds, d = .nd t ds) ∧ ∃ t ds, x.d = .nd t ds := by
            unfold mutAtD at em
            split at em
            · rename_i ds n e1 e2
              cases ej : ixN ds.length n with
              | none => rw [ej] at em; cases em
              | some j =>
                rw [ej, Option.bind_some] at em
                split at em
                · rename_i cs _
                  cases ec : mutC m cs y with
                  | none => rw [ec] at em; cases em
                  | some cs' => rw [ec] at em; cases em; rw [e1]; exact ⟨rfl, ⟨_, _, rfl⟩, ⟨_, _, rfl⟩⟩
                · cases em
            · rename_i ds n e1 e2
              cases ej : ixN ds.length n with
              | none => rw [ej] at em; cases em
              | some j =>
                rw [ej, Option.bind_some] at em
                split at em
                · rename_i cs _
                  cases ec : mutC m cs y with
                  | none => rw [ec] at em; cases em
                  | some cs' => rw [ec] at em; cases em; rw [e1]; exact ⟨rfl, ⟨_, _, rfl⟩, ⟨_, _, rfl⟩⟩
                · cases em
            · cases em
          obtain ⟨m1, ⟨t1, ds1, rfl⟩, t2, ds2, e2⟩ := mk
          have ok : OkV c ⟨x.ow, false, .nd t1 ds1⟩ := by
            refine ⟨(fun a e => by cases e), ?_, fun _ => rfl⟩
            have h2 := x3.2.1
            cases hc : c.oc <;> rw [hc] at h2
            · obtain ⟨a, e⟩ := h2; rw [e2] at e; cases e
            · exact h2
            · show x.ow = if isM (.nd t1 ds1) then .top else .no
              rw [m1]; exact h2
            · exact h2
            · show isM (.nd t1 ds1) = true → x.ow ≠ .no
              rw [m1]; exact h2
            · trivial
          exact ⟨_, rfl, q1.2.set (x := ⟨x.ow, false, .nd t1 ds1⟩) (slotG_lt x1) ok⟩
    · cases h
  | .expr e, X, σ, o, ρ, Γ, Ft, h => by
    rw [abS] at h
    obtain ⟨p, h1, h2⟩ := ex_map h
    cases h2
    rw [s_expr, v_expr]
    exact (abE_ok RC e Ft h1).bind fun x Γ1 d ρ1 q => ⟨_, rfl, q.2.2⟩
  | .ifs c a b, X, σ, o, ρ, Γ, Ft, h => by
    rw [abS] at h
    obtain ⟨s1, h1, h⟩ := ex_of h
    obtain ⟨p, h2, h⟩ := ex_of h
    obtain ⟨q, h3, h4⟩ := ex_map h
    cases h4
    rw [s_ifs, v_ifs]
    refine (test_ok Ft h1 fun c' σ' q => abE_ok RC c Ft q).bind fun t Γ1 t' ρ1 q => ?_
    obtain ⟨rfl, F1⟩ := q
    cases t with
    | true => exact (abSs_ok RC a F1 h2).imp fun f Γ p ρ q => q.jL
    | false => exact (abSs_ok RC b F1 h3).imp fun f Γ p ρ q => q.jR
  | .whl c b kl, X, σ, o, ρ, Γ, Ft, h => by
    rw [abS] at h
    obtain ⟨p, h1, h2⟩ := ex_map h
    cases h2
    obtain ⟨⟨p', f1, f2⟩, f3⟩ := fixA_ok h1
    obtain ⟨g1, e1, f1⟩ := ex_of f1
    obtain ⟨o1, e2, f1⟩ := ex_of f1
    obtain ⟨out, e3, e4⟩ := ex_map f1
    obtain ⟨rc, rh⟩ := p
    cases e4
    rw [s_whl, v_whl, RC.fuel]
    exact whl_ok (fun ρ Γ Ft => test_ok Ft e1 fun c' σ' q => abE_ok RC c Ft q) (fun ρ Γ Ft => abSs_ok RC b Ft e2) e3 f2 (f3 _ _ Ft)
  | .fr t it b kl, X, σ, o, ρ, Γ, Ft, h => by
    rw [abS] at h
    obtain ⟨p0, h0, h⟩ := ex_of h
    obtain ⟨p, h1, h2⟩ := ex_map h
    cases h2
    obtain ⟨⟨p', f1, f2⟩, f3⟩ := fixA_ok h1
    obtain ⟨g1, e1, f1⟩ := ex_of f1
    obtain ⟨o1, e2, f1⟩ := ex_of f1
    obtain ⟨out, e3, e4⟩ := ex_map f1
    obtain ⟨rc, rh⟩ := p
    cases e4
    rw [s_for, v_for]
    refine (abI_ok RC it Ft h0).bind fun items Γ1 ds ρ1 qi => ?_
    obtain ⟨rfl, i2, i3⟩ := qi
    refine for_ok (body := forB C t b) (pbody := pforB P t b) (fun x ρ Γ ok Ft => ?_) e3 f2 i2 (f3 _ _ i3)
    unfold forB pforB
    exact (tgt_ok RC Ft ok e1).bind fun _ Γ1 _ ρ1 F1 => abSs_ok RC b F1 e2
  | .ret e, X, σ, o, ρ, Γ, Ft, h => by
    rw [abS] at h
    obtain ⟨p, h1, h⟩ := ex_of h
    split at h
    · rename_i hg
      cases h
      rw [s_ret, v_ret]
      refine (abE_ok RC e Ft h1).bind fun x Γ1 d ρ1 q => ?_
      obtain ⟨rfl, q2, q3⟩ := q
      obtain ⟨r1, r2⟩ := okR_io hg q3
      exact ⟨rfl, okV_le r1 q2, r2⟩
    · cases h
  | .retN, X, σ, o, ρ, Γ, Ft, h => by
    rw [abS] at h
    split at h
    · rename_i hg
      cases h
      rw [s_retN, v_retN]
      obtain ⟨r1, r2⟩ := okR_io hg Ft
      exact ⟨rfl, okV_le r1 (atom_ok (c := ⟨.i, true⟩)), r2⟩
    · cases h
  | .rais n, X, σ, o, ρ, Γ, Ft, h => by
    rw [abS] at h
    split at h
    · rename_i hg
      cases h
      rw [s_rais, v_rais]
      exact ⟨rfl, Ft.le hg⟩
    · cases h
  | .tr b n hd, X, σ, o, ρ, Γ, Ft, h => by
    rw [abS] at h
    obtain ⟨p, h1, h⟩ := ex_of h
    obtain ⟨q, h2, h3⟩ := ex_map h
    cases h3
    rw [s_try, v_try]
    have r := abSs_ok RC b Ft h1
    cases e : pvSs P b ρ with
    | bad => exact RR.bad
    | exc m ρ1 =>
      rw [e] at r
      cases e2 : evSs C b Γ with
      | bad => rw [e2] at r; exact r.elim
      | ok _ _ => rw [e2] at r; exact r.elim
      | exc m' Γ1 =>
        rw [e2] at r
        obtain ⟨rfl, F1⟩ := r
        dsimp only
        split
        · exact (abSs_ok RC hd F1 h2).imp fun f Γ p ρ q => q.jR
        · exact RR.bad
    | ok f ρ1 =>
      rw [e] at r
      cases e2 : evSs C b Γ with
      | bad => rw [e2] at r; exact r.elim
      | exc _ _ => rw [e2] at r; exact r.elim
      | ok f' Γ1 =>
        rw [e2] at r
        exact QS.jL r
  | .brk, X, σ, o, ρ, Γ, Ft, h => by
    rw [abS] at h; cases h
    rw [s_brk, v_brk]
    exact ⟨_, rfl, Ft⟩
  | .cnt, X, σ, o, ρ, Γ, Ft, h => by
    rw [abS] at h; cases h
    rw [s_cnt, v_cnt]
    exact ⟨_, rfl, Ft⟩
  | .pas, X, σ, o, ρ, Γ, Ft, h => by
    rw [abS] at h; cases h
    rw [s_pas, v_pas]
    exact ⟨_, rfl, Ft⟩
  | .frz i, X, σ, o, ρ, Γ, Ft, h => by
    rw [abS] at h; cases h
    rw [evS, v_frz]
    exact ⟨_, rfl, Ft.lendI⟩
theorem abSs_ok (RC : CRel S C P) : ∀ (ss : ISs) {X σ : AG} {o : AO} {ρ : PEnv} {Γ : Gam}, Fit σ ρ Γ → abSs S F X ss σ = some o → RR X (QS F o) (evSs C ss Γ) (pvSs P ss ρ)
  | .nil, X, σ, o, ρ, Γ, Ft, h => by
    rw [abSs] at h; cases h
    rw [x_nil, w_nil]
    exact ⟨_, rfl, Ft⟩
  | .cons s ss, X, σ, o, ρ, Γ, Ft, h => by
    rw [abSs] at h
    obtain ⟨p, h1, h⟩ := ex_of h
    rw [x_cons, w_cons]
    refine (abS_ok RC s Ft h1).bind fun f Γ1 pf ρ1 q => ?_
    have q : QS F p f Γ1 pf ρ1 := q
    cases hp : p.nx with
    | none =>
      rw [hp] at h
      cases h
      cases f <;> cases pf <;> first | exact q.elim | skip
      · obtain ⟨s, es, _⟩ := q; rw [hp] at es; cases es
      · exact q
      · exact q
      · exact q
    | some s1 =>
      rw [hp] at h
      obtain ⟨r, h2, h3⟩ := ex_map h
      cases h3
      cases f <;> cases pf <;> first | exact q.elim | skip
      · obtain ⟨s, es, Ft1⟩ := q
        rw [hp] at es; cases es
        dsimp only
        refine (abSs_ok RC ss Ft1 h2).imp fun f Γ pf ρ q => ?_
        have q : QS F r f Γ pf ρ := q
        cases f <;> cases pf <;> first | exact q.elim | skip
        · exact q
        · obtain ⟨σ, e, h⟩ := q
          obtain ⟨r2, hr⟩ := joinO_some (a := p.bk) (b := r.bk) (.inr (by rw [e]; rfl))
          exact ⟨r2, hr, joinO_R hr e h⟩
        · obtain ⟨σ, e, h⟩ := q
          obtain ⟨r2, hr⟩ := joinO_some (a := p.ct) (b := r.ct) (.inr (by rw [e]; rfl))
          exact ⟨r2, hr, joinO_R hr e h⟩
        · exact q
      · obtain ⟨σ, e, h⟩ := q
        obtain ⟨r2, hr⟩ := joinO_some (a := p.bk) (b := r.bk) (.inl (by rw [e]; rfl))
        exact ⟨r2, hr, joinO_L hr e h⟩
      · obtain ⟨σ, e, h⟩ := q
        obtain ⟨r2, hr⟩ := joinO_some (a := p.ct) (b := r.ct) (.inl (by rw [e]; rfl))
        exact ⟨r2, hr, joinO_L hr e h⟩
      · exact q
end
end
end Px
namespace Px
open PySem L2
theorem getD_map_none {α : Type} {n j : Nat} {f : Nat → Option α} (h : j < n) : ((List.range n).map f).getD j none = f j := by
  rw [List.getD_eq_getElem?_getD, List.getElem?_map, List.getElem?_range h]
  rfl
section
variable {S : List FS} {C : Ctx} {Q : PCtx} {s : FS} {fd : FD}
theorem outs_ok {io : List Nat} {np : Nat} {Γ : Gam} {ρ : PEnv} (hio : ∀ j ∈ io, j < np) (h : ∀ j ∈ io, ∃ y, slotG Γ j = some y ∧ pslot ρ j = some y.d ∧ OkV s.ioc y) : OutsR s io (outG io np Γ) (pouts io np ρ) := by
  intro j hj
  obtain ⟨y, y1, y2, y3⟩ := h j hj
  refine ⟨y, ?_, ?_, y3⟩
  · have : outG io np Γ = (List.range np).map fun j => if j ∈ io then slotG Γ j else none := by
      unfold outG
      cases io with
      | nil => cases hj
      | cons a io => rfl
    rw [this, getD_map_none (hio j hj), if_pos hj, y1]
  · have : pouts io np ρ = (List.range np).map fun j => if j ∈ io then pslot ρ j else none := by
      unfold pouts
      cases io with
      | nil => cases hj
      | cons a io => rfl
    rw [this, getD_map_none (hio j hj), if_pos hj, y2]
theorem ret_ok {x : Val} {d : D} {o : Gam} {o' : PEnv} (h1 : x.d = d) (h2 : OkV s.ret x) (h3 : OutsR s fd.io o o') : CRR s fd.io (.ok x o) (patOk s.atom (.ok d o')) := by
  subst h1
  unfold patOk
  cases e : x.d with
  | «at» a =>
    refine ⟨e, ?_, h3⟩
    unfold FS.r
    split
    · refine ⟨h2.1, ⟨a, e⟩, fun _ => (h2.1 a e).2⟩
    · exact h2
  | nd t us =>
    dsimp only
    split
    · exact trivial
    · rename_i hn
      refine ⟨e, ?_, h3⟩
      unfold FS.r
      rw [if_neg hn]
      exact h2
theorem abF_ok (RC : CRel S C Q) (hC : Q.io = fd.io) (h : abF S s fd = true) {xs : List Val} {ds : List D} (A : ArgsR s fd.io xs ds) (hl : ds.length = fd.np) (hn : fd.np ≤ fd.nN) :
    CRR s fd.io (retF fd (evSs C fd.body (gam0 fd.nN xs))) (patOk s.atom (pretF fd (pvSs Q fd.body (penv0 fd.nN ds)))) := by
  unfold abF at h
  have hl' : xs.length = fd.np := by rw [← hl, ← A.1, List.length_map]
  split at h
  · rename_i o ho
    rw [Bool.and_eq_true, Bool.and_eq_true, Bool.and_eq_true] at h
    obtain ⟨⟨⟨h1, h2⟩, h3⟩, h4⟩ := h
    have hio : ∀ j ∈ fd.io, j < fd.np := fun j hj => of_decide_eq_true (List.all_eq_true.mp h4 j hj)
    have Ft : Fit ((List.range fd.nN).map fun j => if j < fd.np then (if j ∈ fd.io then some s.ioc else some ⟨.n, false⟩) else none) (penv0 fd.nN ds) (gam0 fd.nN xs) := by
      refine ⟨by unfold penv0 gam0; simp [hl, hl'], fun j c hj => ?_⟩
      unfold slA at hj
      rw [List.getElem?_map] at hj
      by_cases hjn : j < fd.nN
      · rw [List.getElem?_range hjn] at hj
        have hj : (if j < fd.np then (if j ∈ fd.io then some s.ioc else some ⟨.n, false⟩) else none) = some c := hj
        split at hj
        · rename_i hjp
          have e1 : xs[j]? = some xs[j] := List.getElem?_eq_getElem (by omega)
          have q := A.2 j _ e1
          refine ⟨xs[j], ?_, ?_, ?_⟩
          · rw [slotG_some]
            unfold gam0
            rw [List.getElem?_append_left (by rw [List.length_map]; omega), List.getElem?_map, e1]; rfl
          · unfold pslot penv0
            rw [List.getElem?_append_left (by rw [List.length_map]; omega), List.getElem?_map, ← A.1, List.getElem?_map, e1]; rfl
          · split at hj
            · rename_i hm
              cases hj
              rw [if_pos hm] at q
              exact q
            · rename_i hm
              cases hj
              rw [if_neg hm] at q
              exact q
        · cases hj
      · rw [List.getElem?_eq_none (by rw [List.length_range]; omega)] at hj
        cases hj
    have r := abSs_ok (F := ⟨s.ret, s.ioc, fd.io⟩) RC fd.body Ft ho
    cases e : pvSs Q fd.body (penv0 fd.nN ds) with
    | bad => exact (by cases retF fd (evSs C fd.body (gam0 fd.nN xs)) <;> exact trivial)
    | exc m ρ1 =>
      rw [e] at r
      cases e2 : evSs C fd.body (gam0 fd.nN xs) with
      | bad => rw [e2] at r; exact r.elim
      | ok _ _ => rw [e2] at r; exact r.elim
      | exc m' Γ1 =>
        rw [e2] at r
        exact r.1
    | ok f ρ1 =>
      rw [e] at r
      cases e2 : evSs C fd.body (gam0 fd.nN xs) with
      | bad => rw [e2] at r; exact r.elim
      | exc _ _ => rw [e2] at r; exact r.elim
      | ok f' Γ1 =>
        rw [e2] at r
        have r : QS ⟨s.ret, s.ioc, fd.io⟩ o f' Γ1 f ρ1 := r
        cases f' <;> cases f <;> first | exact r.elim | skip
        · obtain ⟨σ, es, q⟩ := r
          rw [es] at h1
          obtain ⟨r1, r2⟩ := okR_io h1 q
          exact ret_ok (x := ⟨.no, false, .non⟩) rfl (okV_le r1 (atom_ok (c := ⟨.i, true⟩))) (outs_ok hio r2)
        · obtain ⟨σ, es, q⟩ := r
          rw [es] at h2; cases h2
        · obtain ⟨σ, es, q⟩ := r
          rw [es] at h3; cases h3
        · exact ret_ok r.1 r.2.1 (outs_ok hio r.2.2)
  · cases h
theorem abP_ok {P : Prg} (h : abP S P.fs = true) : ∀ (k f : Nat) (s : FS), S[f]? = some s → ∀ ps xs ds, ArgsR s ps xs ds → CRR s ps (evF P k f ps xs) (pvF P (S.map (·.atom)) k f ps ds)
  | 0, f, s, hs, ps, xs, ds, A => by
    have : pvF P (S.map (·.atom)) 0 f ps ds = .bad := by unfold pvF; rfl
    rw [this]
    cases evF P 0 f ps xs <;> exact trivial
  | k + 1, f, s, hs, ps, xs, ds, A => by
    unfold abP at h
    rw [Bool.and_eq_true] at h
    have hl := of_decide_eq_true h.1
    have hf : f < P.fs.length := by
      have := (List.getElem?_eq_some_iff.mp hs).1
      omega
    have ef : P.fs[f]? = some P.fs[f] := List.getElem?_eq_getElem hf
    have hz : (s, P.fs[f]) ∈ S.zip P.fs := by
      refine List.mem_of_getElem? (i := f) ?_
      rw [List.getElem?_zip_eq_some]
      exact ⟨hs, ef⟩
    have hF : abF S s P.fs[f] = true := List.all_eq_true.mp h.2 _ hz
    have ea : (S.map (·.atom)).getD f false = s.atom := by
      rw [List.getD_eq_getElem?_getD, List.getElem?_map, hs]; rfl
    have hxl : xs.length = ds.length := by rw [← A.1, List.length_map]
    unfold evF pvF
    rw [ef]
    dsimp only
    rw [hxl]
    by_cases hc : ds.length = P.fs[f].np ∧ ps = P.fs[f].io ∧ P.fs[f].np ≤ P.fs[f].nN
    · rw [if_pos hc, if_pos hc, ea]
      obtain ⟨c1, c2, c3⟩ := hc
      subst c2
      exact abF_ok (C := ⟨evF P k, P.glob, P.fs[f].io, P.fuel⟩) (Q := ⟨pvF P (S.map (·.atom)) k, P.glob, P.fs[f].io, P.fuel⟩) ⟨rfl, rfl, rfl, fun f s hs ps xs ds A => abP_ok (by unfold abP; rw [Bool.and_eq_true]; exact h) k f s hs ps xs ds A⟩ rfl hF A c1 c3
    · rw [if_neg hc, if_neg hc]
      exact trivial
/-- a law, run by data alone -/
theorem law_pv {P : Prg} (h : abP S P.fs = true) {k f : Nat} (hf : f < S.length) {t : NT} {us : List D} {outs : PEnv} (hp : pvF P (S.map (·.atom)) k f [] [.nd t us] = .ok (.bl true) outs) :
    ∃ outs, evF P k f [] [⟨.no, true, .nd t us⟩] = .ok ⟨.no, false, .bl true⟩ outs := by
  have A : ArgsR S[f] [] [⟨.no, true, .nd t us⟩] [.nd t us] := ⟨rfl, fun j x hj => by
    rw [if_neg (by simp)]
    cases j with
    | zero => cases hj; exact ⟨(fun a e => by cases e), rfl, fun z => by cases z⟩
    | succ j => cases hj⟩
  have r := abP_ok h k f _ (List.getElem?_eq_getElem hf) _ _ _ A
  rw [hp] at r
  cases e : evF P k f [] [⟨.no, true, .nd t us⟩] with
  | bad => rw [e] at r; exact r.elim
  | exc _ => rw [e] at r; exact r.elim
  | ok x o =>
    rw [e] at r
    obtain ⟨r1, r2, _⟩ := r
    obtain ⟨q1, q2⟩ := r2.1 _ r1
    refine ⟨o, ?_⟩
    cases x
    simp only at r1 q1 q2
    subst r1 q1 q2
    rfl
end
end Px
namespace Px
open PySem L2

/-! ### a run by simp: what comes next stands behind a name -/
def obind {α β : Type} (o : Option α) (f : α → Option β) : Option β := o.bind f
@[simp] theorem obind_some {α β : Type} {a : α} {f : α → Option β} : obind (some a) f = f a := id rfl
@[simp] theorem obind_none {α β : Type} {f : α → Option β} : obind none f = none := id rfl
def fV : D → PEnv → RP POpd := fun x ρ => .ok (.v x) ρ
def fOs1 (C : PCtx) (es : IEs) : POpd → PEnv → RP (List POpd) := fun x ρ1 => (pvOs C es ρ1).bind fun xs ρ2 => .ok (x :: xs) ρ2
def fOs2 (x : POpd) : List POpd → PEnv → RP (List POpd) := fun xs ρ2 => .ok (x :: xs) ρ2
def fEs1 (C : PCtx) (es : IEs) : D → PEnv → RP (List D) := fun x ρ1 => (pvEs C es ρ1).bind fun xs ρ2 => .ok (x :: xs) ρ2
def fEs2 (x : D) : List D → PEnv → RP (List D) := fun xs ρ2 => .ok (x :: xs) ρ2
def fOp (o : Op) : List POpd → PEnv → RP D := fun os ρ' => if pidxM os = [] then popt (obind (pget ρ' os) (opSem o)) ρ' else .bad
def fAnd (C : PCtx) (b : IE) : Bool → PEnv → RP D := fun t ρ' => if t then pvE C b ρ' else .ok (.bl false) ρ'
def fOr (C : PCtx) (b : IE) : Bool → PEnv → RP D := fun t ρ' => if t then .ok (.bl true) ρ' else pvE C b ρ'
def fIte (C : PCtx) (a b : IE) : Bool → PEnv → RP D := fun t ρ' => if t then pvE C a ρ' else pvE C b ρ'
def fNot : Bool → PEnv → RP D := fun t ρ' => .ok (.bl (!t)) ρ'
def fNotT : Bool → PEnv → RP Bool := fun t ρ' => .ok (!t) ρ'
def fTst : D → PEnv → RP Bool := fun x ρ => match pbool x with | some b => .ok b ρ | none => .bad
def fAndT (C : PCtx) (b : IE) : Bool → PEnv → RP Bool := fun t ρ' => if t then ptst (pvE C b ρ') else .ok false ρ'
def fOrT (C : PCtx) (b : IE) : Bool → PEnv → RP Bool := fun t ρ' => if t then .ok true ρ' else ptst (pvE C b ρ')
def fCh3 (o2 : Op) (ob : POpd) : POpd → PEnv → RP D := fun oc ρ3 => match pget1 ρ3 ob, pget1 ρ3 oc with
        | some y, some z => popt (opSem o2 [y, z]) ρ3
        | _, _ => .bad
def fCh2 (C : PCtx) (o1 o2 : Op) (c : IE) (oa : POpd) : POpd → PEnv → RP D := fun ob ρ2 => match pget1 ρ2 oa, pget1 ρ2 ob with
    | some x, some y => match obind (opSem o1 [x, y]) pbool with
      | some false => .ok (.bl false) ρ2
      | some true => (popd c ρ2 (pvE C c ρ2)).bind (fCh3 o2 ob)
      | none => .bad
    | _, _ => .bad
def fCh1 (C : PCtx) (o1 o2 : Op) (b c : IE) : POpd → PEnv → RP D := fun oa ρ1 => (popd b ρ1 (pvE C b ρ1)).bind (fCh2 C o1 o2 c oa)
def fTup : List D → PEnv → RP D := fun xs ρ' => if xs.length ≤ szLim then .ok (.tup xs) ρ' else .bad
def fLst : List D → PEnv → RP D := fun xs ρ' => if xs.length ≤ szLim then .ok (.lst xs) ρ' else .bad
def fCall (C : PCtx) (f : Nat) : List POpd → PEnv → RP D := fun os ρ' => match parg ρ' os with
    | none => .bad
    | some xs => if (pidxM os).Nodup ∧ ∀ i ∈ pidxM os, i ∉ pidxB os then pcallR ρ' os (C.call f (pposM 0 os) xs) else .bad
def fCm2 : List D → PEnv → RP D := fun ys ρ2 => .ok (.lst ys) ρ2
def fCm1 (C : PCtx) (e : IE) (t : Tgt) (c : IEs) (kl : List Nat) : List D → PEnv → RP D := fun items ρ1 => if items.length < szLim ∧ kl.all (fun i => !C.io.contains i) = true then (pcompL (pcompB C e t c) (pkillF kl) items (pkill ρ1 kl)).bind fCm2 else .bad
def fMut (m : MOp) (i : Nat) : List D → PEnv → RP D := fun ys ρ' => match pslot ρ' i with
    | some x => match pmut m x ys with
      | some (r, x') => .ok r (ρ'.set i (some x'))
      | none => .bad
    | none => .bad
def fDget (i : Nat) : List POpd → PEnv → RP D := fun os ρ' => if pidxM os = [] then popt (obind (pget ρ' (.b i :: os)) (opSem (if os.length = 1 then .get1 else .get2))) ρ' else .bad
def fSdf (i : Nat) : List D → PEnv → RP D := fun ys ρ' => match pslot ρ' i with
    | some x => match psdf x ys with
      | some (r, x') => .ok r (ρ'.set i (some x'))
      | none => .bad
    | none => .bad
def fImm : D → PEnv → RP D := fun x ρ' => if imm x then .ok x ρ' else .bad
def fSeq : D → PEnv → RP (List D) := fun x ρ' => match kidsD x with
    | some ds => .ok ds ρ'
    | none => .bad
def fStr : D → PEnv → RP (List D) := fun x ρ' => match x with
    | .at (.str z) => .ok (pstrKids z) ρ'
    | _ => .bad
def rngD (ds : List D) : Option (List D) := (rngInts ds).map fun ns => ns.map D.int
def fRng : List POpd → PEnv → RP (List D) := fun os ρ' => if pidxM os = [] then popt (obind (pget ρ' os) rngD) ρ' else .bad
def fEnum : D → PEnv → RP (List D) := fun x ρ' => match x with
    | .nd .lst ds => .ok (ds.mapIdx fun k d => .tup [.int (k : Nat), d]) ρ'
    | _ => .bad
def fZip2 (x : D) : D → PEnv → RP (List D) := fun y ρ2 => match x, y with
    | .nd .lst ds, .nd .lst es => .ok ((ds.zip es).map fun p => .tup [p.1, p.2]) ρ2
    | _, _ => .bad
def fZip1 (C : PCtx) (b : IE) : D → PEnv → RP (List D) := fun x ρ1 => (pvE C b ρ1).bind (fZip2 x)
def fRev : D → PEnv → RP (List D) := fun x ρ' => match x with
    | .nd .lst ds => .ok ds.reverse ρ'
    | _ => .bad
def fNx (C : PCtx) (ss : ISs) : PFl → PEnv → RP PFl := fun f ρ' => match f with | .nx => pvSs C ss ρ' | f => .ok f ρ'
def fAsg (i : Nat) : D → PEnv → RP PFl := fun x ρ' => if i < ρ'.length then .ok .nx (ρ'.set i (some x)) else .bad
def fAT2 : Unit → PEnv → RP PFl := fun _ ρ' => .ok .nx ρ'
def fAT1 (C : PCtx) (is : List Nat) : D → PEnv → RP PFl := fun x ρ' => match x with
    | .nd .tup _ => (ptgt C.io (.many is) x ρ').bind fAT2
    | _ => .bad
def fExp : D → PEnv → RP PFl := fun _ ρ' => .ok .nx ρ'
def fRet : D → PEnv → RP PFl := fun x ρ' => .ok (.rt x) ρ'
def fIfs (C : PCtx) (a b : ISs) : Bool → PEnv → RP PFl := fun t ρ' => if t then pvSs C a ρ' else pvSs C b ρ'
def fFor (C : PCtx) (t : Tgt) (b : ISs) (kl : List Nat) : List D → PEnv → RP PFl := fun items ρ1 => pforL (pforB C t b) (pkillF kl) items ρ1
def fBd (C : PCtx) (b : ISs) : Unit → PEnv → RP PFl := fun _ ρ => pvSs C b ρ
def fCB3 : D → PEnv → RP (Option D) := fun y ρ => .ok (some y) ρ
def fCB2 (C : PCtx) (e : IE) : Bool → PEnv → RP (Option D) := fun b ρ => if b then (pvE C e ρ).bind fCB3 else .ok none ρ
def fCB1 (C : PCtx) (e : IE) (c : IEs) : Unit → PEnv → RP (Option D) := fun _ ρ => (pvCs C c ρ).bind (fCB2 C e)
def fAug (i : Nat) (o : Op) (a : At) : POpd → PEnv → RP PFl := fun oe ρ' => match pget1 ρ' oe with
        | some y => match opSem o [.at a, y] with
          | some (.at (.int r)) => if i < ρ'.length then .ok .nx (ρ'.set i (some (.int r))) else .bad
          | _ => .bad
        | none => .bad
def fSI2 (i : Nat) (y : D) : POpd → PEnv → RP PFl := fun ok ρ2 => match pget1 ρ2 ok, pslot ρ2 i with
    | some kv, some x => match pmut .setIx x [y, kv] with
      | some (_, x') => .ok .nx (ρ2.set i (some x'))
      | none => .bad
    | _, _ => .bad
def fSI1 (C : PCtx) (i : Nat) (k : IE) : D → PEnv → RP PFl := fun y ρ1 => if pcon ρ1 i then (popd k ρ1 (pvE C k ρ1)).bind (fSI2 i y) else .bad
def fAI2 (i : Nat) (o : Op) (n a : Int) : POpd → PEnv → RP PFl := fun oe ρ2 => match pget1 ρ2 oe, pslot ρ2 i with
        | some y, some x2 => match opSem o [.at (.int a), y] with
          | some (.at (.int r)) => match pmut .setIx x2 [.int r, .int n] with
            | some (_, x') => .ok .nx (ρ2.set i (some x'))
            | none => .bad
          | _ => .bad
        | _, _ => .bad
def fAI1 (C : PCtx) (i : Nat) (o : Op) (e : IE) : POpd → PEnv → RP PFl := fun ok ρ1 => match pget1 ρ1 ok, pslot ρ1 i with
    | some kv, some x => match paugG x kv with
      | some (n, a) => (popd e ρ1 (pvE C e ρ1)).bind (fAI2 i o n a)
      | none => .bad
    | _, _ => .bad
section
variable {C : PCtx} {ρ : PEnv}
@[simp] theorem fV_ {x : D} : fV x ρ = .ok (.v x) ρ := id rfl
@[simp] theorem fOs1_ {es : IEs} {x : POpd} : fOs1 C es x ρ = (pvOs C es ρ).bind (fOs2 x) := id rfl
@[simp] theorem fOs2_ {x : POpd} {xs : List POpd} : fOs2 x xs ρ = .ok (x :: xs) ρ := id rfl
@[simp] theorem fEs1_ {es : IEs} {x : D} : fEs1 C es x ρ = (pvEs C es ρ).bind (fEs2 x) := id rfl
@[simp] theorem fEs2_ {x : D} {xs : List D} : fEs2 x xs ρ = .ok (x :: xs) ρ := id rfl
@[simp] theorem fOp_ {o : Op} {os : List POpd} : fOp o os ρ = if pidxM os = [] then popt (obind (pget ρ os) (opSem o)) ρ else .bad := id rfl
@[simp] theorem fAnd_ {b : IE} {t : Bool} : fAnd C b t ρ = if t then pvE C b ρ else .ok (.bl false) ρ := id rfl
@[simp] theorem fOr_ {b : IE} {t : Bool} : fOr C b t ρ = if t then .ok (.bl true) ρ else pvE C b ρ := id rfl
@[simp] theorem fIte_ {a b : IE} {t : Bool} : fIte C a b t ρ = if t then pvE C a ρ else pvE C b ρ := id rfl
@[simp] theorem fNot_ {t : Bool} : fNot t ρ = .ok (.bl (!t)) ρ := id rfl
@[simp] theorem fNotT_ {t : Bool} : fNotT t ρ = .ok (!t) ρ := id rfl
@[simp] theorem fTst_ {x : D} : fTst x ρ = match pbool x with | some b => .ok b ρ | none => .bad := id rfl
@[simp] theorem fAndT_ {b : IE} {t : Bool} : fAndT C b t ρ = if t then ptst (pvE C b ρ) else .ok false ρ := id rfl
@[simp] theorem fOrT_ {b : IE} {t : Bool} : fOrT C b t ρ = if t then .ok true ρ else ptst (pvE C b ρ) := id rfl
@[simp] theorem fCh1_ {o1 o2 : Op} {b c : IE} {oa : POpd} : fCh1 C o1 o2 b c oa ρ = (popd b ρ (pvE C b ρ)).bind (fCh2 C o1 o2 c oa) := id rfl
@[simp] theorem fCh2_ {o1 o2 : Op} {c : IE} {oa ob : POpd} : fCh2 C o1 o2 c oa ob ρ = match pget1 ρ oa, pget1 ρ ob with
    | some x, some y => match obind (opSem o1 [x, y]) pbool with
      | some false => .ok (.bl false) ρ
      | some true => (popd c ρ (pvE C c ρ)).bind (fCh3 o2 ob)
      | none => .bad
    | _, _ => .bad := id rfl
@[simp] theorem fCh3_ {o2 : Op} {ob oc : POpd} : fCh3 o2 ob oc ρ = match pget1 ρ ob, pget1 ρ oc with
        | some y, some z => popt (opSem o2 [y, z]) ρ
        | _, _ => .bad := id rfl
@[simp] theorem fTup_ {xs : List D} (h : xs.length ≤ 16777216) : fTup xs ρ = .ok (.tup xs) ρ := if_pos h
@[simp] theorem fLst_ {xs : List D} (h : xs.length ≤ 16777216) : fLst xs ρ = .ok (.lst xs) ρ := if_pos h
@[simp] theorem fCall_ {f : Nat} {os : List POpd} : fCall C f os ρ = match parg ρ os with
    | none => .bad
    | some xs => if (pidxM os).Nodup ∧ ∀ i ∈ pidxM os, i ∉ pidxB os then pcallR ρ os (C.call f (pposM 0 os) xs) else .bad := rfl
theorem fCm1_ {e : IE} {t : Tgt} {c : IEs} {kl : List Nat} {items : List D} : fCm1 C e t c kl items ρ = if items.length < szLim ∧ kl.all (fun i => !C.io.contains i) = true then (pcompL (pcompB C e t c) (pkillF kl) items (pkill ρ kl)).bind fCm2 else .bad := id rfl
@[simp] theorem fCm1_c {e : IE} {t : Tgt} {c : IEs} {kl : List Nat} {items : List D} (h : items.length < 16777216) (h2 : kl.all (fun i => !C.io.contains i) = true) : fCm1 C e t c kl items ρ = (pcompL (pcompB C e t c) (pkillF kl) items (pkill ρ kl)).bind fCm2 := if_pos ⟨h, h2⟩
@[simp] theorem fCm2_ {ys : List D} : fCm2 ys ρ = .ok (.lst ys) ρ := id rfl
@[simp] theorem fMut_ {m : MOp} {i : Nat} {ys : List D} : fMut m i ys ρ = match pslot ρ i with
    | some x => match pmut m x ys with
      | some (r, x') => .ok r (ρ.set i (some x'))
      | none => .bad
    | none => .bad := id rfl
@[simp] theorem fDget_ {i : Nat} {os : List POpd} : fDget i os ρ = if pidxM os = [] then popt (obind (pget ρ (.b i :: os)) (opSem (if os.length = 1 then .get1 else .get2))) ρ else .bad := id rfl
@[simp] theorem fSdf_ {i : Nat} {ys : List D} : fSdf i ys ρ = match pslot ρ i with
    | some x => match psdf x ys with
      | some (r, x') => .ok r (ρ.set i (some x'))
      | none => .bad
    | none => .bad := id rfl
@[simp] theorem fImm_ {x : D} : fImm x ρ = if imm x then .ok x ρ else .bad := id rfl
@[simp] theorem fSeq_ {x : D} : fSeq x ρ = match kidsD x with
    | some ds => .ok ds ρ
    | none => .bad := id rfl
@[simp] theorem fStr_ {z : Str} : fStr (.at (.str z)) ρ = .ok (pstrKids z) ρ := id rfl
@[simp] theorem fRng_ {os : List POpd} : fRng os ρ = if pidxM os = [] then popt (obind (pget ρ os) rngD) ρ else .bad := id rfl
@[simp] theorem fEnum_ {ds : List D} : fEnum (.nd .lst ds) ρ = .ok (ds.mapIdx fun k d => .tup [.int (k : Nat), d]) ρ := id rfl
@[simp] theorem fZip1_ {b : IE} {x : D} : fZip1 C b x ρ = (pvE C b ρ).bind (fZip2 x) := id rfl
@[simp] theorem fZip2_ {ds es : List D} : fZip2 (.nd .lst ds) (.nd .lst es) ρ = .ok ((ds.zip es).map fun p => .tup [p.1, p.2]) ρ := id rfl
@[simp] theorem fRev_ {ds : List D} : fRev (.nd .lst ds) ρ = .ok ds.reverse ρ := id rfl
@[simp] theorem fNx_nx {ss : ISs} : fNx C ss .nx ρ = pvSs C ss ρ := id rfl
@[simp] theorem fNx_rt {ss : ISs} {x : D} : fNx C ss (.rt x) ρ = .ok (.rt x) ρ := id rfl
@[simp] theorem fNx_bk {ss : ISs} : fNx C ss .bk ρ = .ok .bk ρ := id rfl
@[simp] theorem fNx_ct {ss : ISs} : fNx C ss .ct ρ = .ok .ct ρ := id rfl
@[simp] theorem fAsg_ {i : Nat} {x : D} : fAsg i x ρ = if i < ρ.length then .ok .nx (ρ.set i (some x)) else .bad := id rfl
@[simp] theorem fAT1_ {is : List Nat} {xs : List D} : fAT1 C is (.nd .tup xs) ρ = (ptgt C.io (.many is) (.nd .tup xs) ρ).bind fAT2 := id rfl
@[simp] theorem fAT2_ {u : Unit} : fAT2 u ρ = .ok .nx ρ := id rfl
@[simp] theorem fExp_ {x : D} : fExp x ρ = .ok .nx ρ := id rfl
@[simp] theorem fRet_ {x : D} : fRet x ρ = .ok (.rt x) ρ := id rfl
@[simp] theorem fIfs_ {a b : ISs} {t : Bool} : fIfs C a b t ρ = if t then pvSs C a ρ else pvSs C b ρ := id rfl
@[simp] theorem fFor_ {t : Tgt} {b : ISs} {kl : List Nat} {items : List D} : fFor C t b kl items ρ = pforL (pforB C t b) (pkillF kl) items ρ := id rfl
@[simp] theorem fBd_ {b : ISs} {u : Unit} : fBd C b u ρ = pvSs C b ρ := id rfl
@[simp] theorem fCB1_ {e : IE} {c : IEs} {u : Unit} : fCB1 C e c u ρ = (pvCs C c ρ).bind (fCB2 C e) := id rfl
@[simp] theorem fCB2_ {e : IE} {b : Bool} : fCB2 C e b ρ = if b then (pvE C e ρ).bind fCB3 else .ok none ρ := id rfl
@[simp] theorem fCB3_ {y : D} : fCB3 y ρ = .ok (some y) ρ := id rfl
@[simp] theorem fAug_ {i : Nat} {o : Op} {a : At} {oe : POpd} : fAug i o a oe ρ = match pget1 ρ oe with
        | some y => match opSem o [.at a, y] with
          | some (.at (.int r)) => if i < ρ.length then .ok .nx (ρ.set i (some (.int r))) else .bad
          | _ => .bad
        | none => .bad := id rfl
@[simp] theorem fSI1_ {i : Nat} {k : IE} {y : D} : fSI1 C i k y ρ = if pcon ρ i then (popd k ρ (pvE C k ρ)).bind (fSI2 i y) else .bad := id rfl
@[simp] theorem fSI2_ {i : Nat} {y : D} {ok : POpd} : fSI2 i y ok ρ = match pget1 ρ ok, pslot ρ i with
    | some kv, some x => match pmut .setIx x [y, kv] with
      | some (_, x') => .ok .nx (ρ.set i (some x'))
      | none => .bad
    | _, _ => .bad := id rfl
@[simp] theorem fAI1_ {i : Nat} {o : Op} {e : IE} {ok : POpd} : fAI1 C i o e ok ρ = match pget1 ρ ok, pslot ρ i with
    | some kv, some x => match paugG x kv with
      | some (n, a) => (popd e ρ (pvE C e ρ)).bind (fAI2 i o n a)
      | none => .bad
    | _, _ => .bad := id rfl
@[simp] theorem fAI2_ {i : Nat} {o : Op} {n a : Int} {oe : POpd} : fAI2 i o n a oe ρ = match pget1 ρ oe, pslot ρ i with
        | some y, some x2 => match opSem o [.at (.int a), y] with
          | some (.at (.int r)) => match pmut .setIx x2 [.int r, .int n] with
            | some (_, x') => .ok .nx (ρ.set i (some x'))
            | none => .bad
          | _ => .bad
        | _, _ => .bad := id rfl
@[simp] theorem plst_d {i : Nat} : plst ρ i = match pslot ρ i with | some (.nd .lst _) => true | _ => false := id rfl
@[simp] theorem pcon_d {i : Nat} : pcon ρ i = match pslot ρ i with | some (.nd .lst _) => true | some (.nd (.dK _) _) => true | some (.nd (.dT _) _) => true | _ => false := id rfl
@[simp] theorem pdct_d {i : Nat} : pdct ρ i = match pslot ρ i with | some (.nd (.dK _) _) => true | some (.nd (.dT _) _) => true | _ => false := id rfl
/-! the run's rules -/
@[simp] theorem R_op {o : Op} {es : IEs} : pvE C (.op o es) ρ = (pvOs C es ρ).bind (fOp o) := y_op
@[simp] theorem R_and {a b : IE} : pvE C (.and a b) ρ = (pvT C a ρ).bind (fAnd C b) := y_and
@[simp] theorem R_or {a b : IE} : pvE C (.or a b) ρ = (pvT C a ρ).bind (fOr C b) := y_or
@[simp] theorem R_not {a : IE} : pvE C (.not a) ρ = (pvT C a ρ).bind fNot := y_not
@[simp] theorem R_ite {c a b : IE} : pvE C (.ite c a b) ρ = (pvT C c ρ).bind (fIte C a b) := y_ite
@[simp] theorem R_chain {o1 o2 : Op} {a b c : IE} : pvE C (.chain o1 o2 a b c) ρ = (popd a ρ (pvE C a ρ)).bind (fCh1 C o1 o2 b c) := y_chain
@[simp] theorem R_tup {es : IEs} : pvE C (.tup es) ρ = (pvEs C es ρ).bind fTup := y_tup
@[simp] theorem R_lst {es : IEs} : pvE C (.lst es) ρ = (pvEs C es ρ).bind fLst := y_lst
@[simp] theorem R_call {f : Nat} {es : IEs} : pvE C (.call f es) ρ = (pvOs C es ρ).bind (fCall C f) := y_call
@[simp] theorem R_comp {e : IE} {t : Tgt} {it : Itr} {c : IEs} {kl : List Nat} : pvE C (.comp e t it c kl) ρ = (pvI C it ρ).bind (fCm1 C e t c kl) := y_comp
@[simp] theorem R_mut {m : MOp} {i : Nat} {es : IEs} : pvE C (.mut m i es) ρ = if plst ρ i then (pvEs C es ρ).bind (fMut m i) else .bad := y_mut
@[simp] theorem R_dget {i : Nat} {es : IEs} : pvE C (.dget i es) ρ = if pdct ρ i then (pvOs C es ρ).bind (fDget i) else .bad := y_dget
@[simp] theorem R_sdf {i : Nat} {es : IEs} : pvE C (.sdf i es) ρ = if pdct ρ i then (pvEs C es ρ).bind (fSdf i) else .bad := y_sdf
@[simp] theorem R_imm {e : IE} : pvE C (.imm e) ρ = (pvE C e ρ).bind fImm := y_imm
@[simp] theorem R_esc {e : IE} {es : IEs} : pvEs C (.cons e es) ρ = (pvE C e ρ).bind (fEs1 C es) := y_esc
@[simp] theorem R_osc {e : IE} {es : IEs} : pvOs C (.cons e es) ρ = (popd e ρ (pvE C e ρ)).bind (fOs1 C es) := y_osc
@[simp] theorem Z_mv {i : Nat} {r : RP D} : popd (.mv i) ρ r = r.bind fV := id rfl
@[simp] theorem Z_cst {a : At} {r : RP D} : popd (.cst a) ρ r = r.bind fV := id rfl
@[simp] theorem Z_glob {a : Nat} {r : RP D} : popd (.glob a) ρ r = r.bind fV := id rfl
@[simp] theorem Z_op {o : Op} {es : IEs} {r : RP D} : popd (.op o es) ρ r = r.bind fV := id rfl
@[simp] theorem Z_and {a b : IE} {r : RP D} : popd (.and a b) ρ r = r.bind fV := id rfl
@[simp] theorem Z_or {a b : IE} {r : RP D} : popd (.or a b) ρ r = r.bind fV := id rfl
@[simp] theorem Z_not {a : IE} {r : RP D} : popd (.not a) ρ r = r.bind fV := id rfl
@[simp] theorem Z_ite {a b c : IE} {r : RP D} : popd (.ite a b c) ρ r = r.bind fV := id rfl
@[simp] theorem Z_chain {o1 o2 : Op} {a b c : IE} {r : RP D} : popd (.chain o1 o2 a b c) ρ r = r.bind fV := id rfl
@[simp] theorem Z_tup {es : IEs} {r : RP D} : popd (.tup es) ρ r = r.bind fV := id rfl
@[simp] theorem Z_lst {es : IEs} {r : RP D} : popd (.lst es) ρ r = r.bind fV := id rfl
@[simp] theorem Z_call {f : Nat} {es : IEs} {r : RP D} : popd (.call f es) ρ r = r.bind fV := id rfl
@[simp] theorem Z_comp {e : IE} {t : Tgt} {it : Itr} {c : IEs} {kl : List Nat} {r : RP D} : popd (.comp e t it c kl) ρ r = r.bind fV := id rfl
@[simp] theorem Z_mut {m : MOp} {i : Nat} {es : IEs} {r : RP D} : popd (.mut m i es) ρ r = r.bind fV := id rfl
@[simp] theorem Z_dget {i : Nat} {es : IEs} {r : RP D} : popd (.dget i es) ρ r = r.bind fV := id rfl
@[simp] theorem Z_sdf {i : Nat} {es : IEs} {r : RP D} : popd (.sdf i es) ρ r = r.bind fV := id rfl
@[simp] theorem Z_dK0 {r : RP D} : popd .dK0 ρ r = r.bind fV := id rfl
@[simp] theorem Z_dT0 {r : RP D} : popd .dT0 ρ r = r.bind fV := id rfl
@[simp] theorem Z_imm {a : IE} {r : RP D} : popd (.imm a) ρ r = r.bind fV := id rfl
@[simp] theorem Z_lent {a : IE} {r : RP D} : popd (.lent a) ρ r = r.bind fV := id rfl
@[simp] theorem T_not {a : IE} : pvT C (.not a) ρ = (pvT C a ρ).bind fNotT := u_not
@[simp] theorem T_and {a b : IE} : pvT C (.and a b) ρ = (pvT C a ρ).bind (fAndT C b) := u_and
@[simp] theorem T_or {a b : IE} : pvT C (.or a b) ρ = (pvT C a ρ).bind (fOrT C b) := u_or
@[simp] theorem T_op {o : Op} {es : IEs} : pvT C (.op o es) ρ = ptst (pvE C (.op o es) ρ) := u_op
@[simp] theorem T_chain {o1 o2 : Op} {a b c : IE} : pvT C (.chain o1 o2 a b c) ρ = ptst (pvE C (.chain o1 o2 a b c) ρ) := u_chain
@[simp] theorem T_call {f : Nat} {es : IEs} : pvT C (.call f es) ρ = ptst (pvE C (.call f es) ρ) := u_call
@[simp] theorem T_ite {c a b : IE} : pvT C (.ite c a b) ρ = ptst (pvE C (.ite c a b) ρ) := u_ite
@[simp] theorem T_mut {m : MOp} {i : Nat} {es : IEs} : pvT C (.mut m i es) ρ = ptst (pvE C (.mut m i es) ρ) := u_mut
@[simp] theorem T_dget {i : Nat} {es : IEs} : pvT C (.dget i es) ρ = ptst (pvE C (.dget i es) ρ) := u_dget
@[simp] theorem T_imm {a : IE} : pvT C (.imm a) ρ = ptst (pvE C (.imm a) ρ) := u_imm
@[simp] theorem T_tst {α : Type} {a : RP α} {f : α → PEnv → RP D} : ptst (a.bind f) = a.bind fun x ρ => ptst (f x ρ) := ptst_bind
@[simp] theorem I_seq {e : IE} : pvI C (.seq e) ρ = (pvE C e ρ).bind fSeq := y_seq
@[simp] theorem I_str {e : IE} : pvI C (.str e) ρ = (pvE C e ρ).bind fStr := y_str
@[simp] theorem I_rng {es : IEs} : pvI C (.rng es) ρ = (pvOs C es ρ).bind fRng := by
  rw [y_rng]
  refine congrArg (RP.bind (pvOs C es ρ)) (funext fun os => funext fun ρ' => ?_)
  unfold fRng
  split
  · cases pget ρ' os with
    | none => rfl
    | some ds =>
      show (match rngInts ds with | some ns => _ | none => _) = popt ((rngInts ds).map _) ρ'
      cases rngInts ds <;> rfl
  · rfl
@[simp] theorem I_enum {e : IE} : pvI C (.enum e) ρ = (pvE C e ρ).bind fEnum := y_enum
@[simp] theorem I_zip {a b : IE} : pvI C (.zip a b) ρ = (pvE C a ρ).bind (fZip1 C b) := y_zip
@[simp] theorem I_rev {e : IE} : pvI C (.rev e) ρ = (pvE C e ρ).bind fRev := y_rev
@[simp] theorem S_cons {s : IS} {ss : ISs} : pvSs C (.cons s ss) ρ = (pvS C s ρ).bind (fNx C ss) := w_cons
@[simp] theorem S_asg {i : Nat} {e : IE} : pvS C (.asg i e) ρ = if i ∈ C.io then .bad else (pvE C e ρ).bind (fAsg i) := v_asg
@[simp] theorem S_asgT {is : List Nat} {e : IE} : pvS C (.asgT is e) ρ = (pvE C e ρ).bind (fAT1 C is) := v_asgT
@[simp] theorem S_mutAt {i : Nat} {k : IE} {m : MOp} {a : Option MA} : pvS C (.mutAt i k m a) ρ = if (pslot ρ i).isSome then (popd k ρ (pvE C k ρ)).bind (pMA i m a) else .bad := v_mutAt
@[simp] theorem S_expr {e : IE} : pvS C (.expr e) ρ = (pvE C e ρ).bind fExp := v_expr
@[simp] theorem S_ret {e : IE} : pvS C (.ret e) ρ = (pvE C e ρ).bind fRet := v_ret
@[simp] theorem S_ifs {c : IE} {a b : ISs} : pvS C (.ifs c a b) ρ = (pvT C c ρ).bind (fIfs C a b) := v_ifs
@[simp] theorem S_for {t : Tgt} {it : Itr} {b : ISs} {kl : List Nat} : pvS C (.fr t it b kl) ρ = (pvI C it ρ).bind (fFor C t b kl) := v_for
@[simp] theorem S_aug {i : Nat} {o : Op} {e : IE} : pvS C (.aug i o e) ρ = if i ∈ C.io ∨ (!augOk o) = true then .bad else match pslot ρ i with
    | some (.at a) => (popd e ρ (pvE C e ρ)).bind (fAug i o a)
    | _ => .bad := v_aug
@[simp] theorem S_setIx {i : Nat} {k e : IE} : pvS C (.setIx i k e) ρ = (pvE C e ρ).bind (fSI1 C i k) := v_setIx
@[simp] theorem S_augIx {i : Nat} {o : Op} {k e : IE} : pvS C (.augIx i o k e) ρ = if (!augOk o || !plst ρ i) = true then .bad else (popd k ρ (pvE C k ρ)).bind (fAI1 C i o e) := v_augIx
/-- a try: what its suites come to -/
def tryR (C : PCtx) (c : Nat) (h : ISs) (r : RP PFl) : RP PFl := match r with
    | .exc c' ρ' => if c' = c ∨ c = 0 then pvSs C h ρ' else .bad
    | r => r
@[simp] theorem tryR_ok {c : Nat} {h : ISs} {f : PFl} : tryR C c h (.ok f ρ) = .ok f ρ := id rfl
@[simp] theorem tryR_exc {c c' : Nat} {h : ISs} : tryR C c h (.exc c' ρ) = if c' = c ∨ c = 0 then pvSs C h ρ else .bad := id rfl
@[simp] theorem S_try {b h : ISs} {c : Nat} : pvS C (.tr b c h) ρ = tryR C c h (pvSs C b ρ) := by rw [v_try]; unfold tryR; rfl
@[simp] theorem S_forB {t : Tgt} {b : ISs} {x : D} : pforB C t b x ρ = (ptgt C.io t x ρ).bind (fBd C b) := id rfl
@[simp] theorem S_compB {e : IE} {t : Tgt} {c : IEs} {x : D} : pcompB C e t c x ρ = (ptgt C.io t x ρ).bind (fCB1 C e c) := id rfl
end
end Px
namespace Px
open PySem L2

/-! ### plain functions: what a def comes to, with typed values -/
inductive M (α : Type) where
  | bad | exc (c : Nat) | ok (a : α)
section
variable {α β γ τ S : Type}
def M.bind (m : M α) (f : α → M β) : M β := match m with
  | .bad => .bad
  | .exc c => .exc c
  | .ok a => f a
def M.opt : Option α → M α
  | some a => .ok a
  | none => .bad
def M.lt (v : α) (k : α → M β) : M β := k v
def M.grd (b : Bool) (m : M α) : M α := if b then m else .bad
def M.tryc (m : M α) (c : Nat) (h : M β) (k : α → M β) : M β := match m with
  | .bad => .bad
  | .exc c' => if c' = c ∨ c = 0 then h else .bad
  | .ok a => k a
/-- how a loop's body ends -/
inductive Stp (S α : Type) where
  | go (s : S) | stop (s : S) | ret (a : α)
/-- how a loop ends -/
inductive Lp (S α : Type) where
  | fin (s : S) | ret (a : α)
def M.lp (r : M (Lp S α)) (k : S → M β) (h : α → M β) : M β := match r with
  | .bad => .bad
  | .exc c => .exc c
  | .ok (.fin s) => k s
  | .ok (.ret a) => h a
def foldM (f : τ → S → M S) : List τ → S → M S
  | [], s => .ok s
  | x :: xs, s => (f x s).bind fun s => foldM f xs s
def foldR (f : τ → S → M (Stp S α)) : List τ → S → M (Lp S α)
  | [], s => .ok (.fin s)
  | x :: xs, s => match f x s with
    | .bad => .bad
    | .exc c => .exc c
    | .ok (.go s) => foldR f xs s
    | .ok (.stop s) => .ok (.fin s)
    | .ok (.ret a) => .ok (.ret a)
def whlR (t : S → M Bool) (f : S → M (Stp S α)) : Nat → S → M (Lp S α)
  | 0, _ => .bad
  | n + 1, s => match t s with
    | .bad => .bad
    | .exc c => .exc c
    | .ok false => .ok (.fin s)
    | .ok true => match f s with
      | .bad => .bad
      | .exc c => .exc c
      | .ok (.go s) => whlR t f n s
      | .ok (.stop s) => .ok (.fin s)
      | .ok (.ret a) => .ok (.ret a)
def mapMM (f : τ → M β) : List τ → M (List β)
  | [] => .ok []
  | x :: xs => (f x).bind fun y => (mapMM f xs).bind fun ys => .ok (y :: ys)
def filMM (f : τ → M (Option β)) : List τ → M (List β)
  | [] => .ok []
  | x :: xs => (f x).bind fun y => (filMM f xs).bind fun ys => .ok (match y with | some y => y :: ys | none => ys)
/-! typed values as data -/
class Enc (α : Type) where
  enc : α → D
open Enc
structure Tup (α : Type) where
  l : List α
  deriving DecidableEq
structure T1 (α : Type) where
  a : α
  deriving DecidableEq
structure T2 (α β : Type) where
  a : α
  b : β
  deriving DecidableEq
structure T3 (α β γ : Type) where
  a : α
  b : β
  c : γ
  deriving DecidableEq
structure T4 (α β γ δ : Type) where
  a : α
  b : β
  c : γ
  d : δ
  deriving DecidableEq
structure T5 (α β γ δ ε : Type) where
  a : α
  b : β
  c : γ
  d : δ
  e : ε
  deriving DecidableEq
structure Dct (κ ν : Type) where
  l : List (κ × ν)
  deriving DecidableEq
instance : Enc Int := ⟨fun i => .at (.int i)⟩
instance : Enc Bool := ⟨fun b => .at (.bl b)⟩
instance : Enc Str := ⟨fun x => .at (.str x)⟩
instance : Enc Unit := ⟨fun _ => .at .non⟩
instance : Enc D := ⟨fun d => d⟩
instance [Enc α] : Enc (List α) := ⟨fun xs => .nd .lst (xs.map enc)⟩
instance [Enc α] : Enc (Tup α) := ⟨fun xs => .nd .tup (xs.l.map enc)⟩
instance [Enc α] : Enc (T1 α) := ⟨fun x => .nd .tup [enc x.a]⟩
instance [Enc α] [Enc β] : Enc (T2 α β) := ⟨fun x => .nd .tup [enc x.a, enc x.b]⟩
instance [Enc α] [Enc β] [Enc γ] : Enc (T3 α β γ) := ⟨fun x => .nd .tup [enc x.a, enc x.b, enc x.c]⟩
instance {δ : Type} [Enc α] [Enc β] [Enc γ] [Enc δ] : Enc (T4 α β γ δ) := ⟨fun x => .nd .tup [enc x.a, enc x.b, enc x.c, enc x.d]⟩
instance {δ ε : Type} [Enc α] [Enc β] [Enc γ] [Enc δ] [Enc ε] : Enc (T5 α β γ δ ε) := ⟨fun x => .nd .tup [enc x.a, enc x.b, enc x.c, enc x.d, enc x.e]⟩
class EncK (κ : Type) extends Enc κ where
  nt : List κ → NT
instance : EncK Int := ⟨fun ks => .dK (ks.map .inl)⟩
instance : EncK Str := ⟨fun ks => .dK (ks.map .inr)⟩
instance : EncK (T2 Int Int) := ⟨fun ks => .dT (ks.map fun p => [.inl p.a, .inl p.b])⟩
instance : EncK (T3 Int Int Int) := ⟨fun ks => .dT (ks.map fun p => [.inl p.a, .inl p.b, .inl p.c])⟩
instance {κ ν : Type} [EncK κ] [Enc ν] : Enc (Dct κ ν) := ⟨fun d => .nd (EncK.nt (d.l.map (·.1))) (d.l.map fun p => enc p.2)⟩
/-! what is known of a state -/
def Sub : PEnv → PEnv → Prop
  | [], [] => True
  | some v :: σ, x :: ρ => x = some v ∧ Sub σ ρ
  | none :: σ, _ :: ρ => Sub σ ρ
  | _, _ => False
theorem Sub.len : ∀ {σ ρ : PEnv}, Sub σ ρ → σ.length = ρ.length
  | [], [], _ => rfl
  | some v :: σ, x :: ρ, h => by rw [List.length_cons, List.length_cons, Sub.len h.2]
  | none :: σ, _ :: ρ, h => by
    have h : Sub σ ρ := h
    rw [List.length_cons, List.length_cons, Sub.len h]
  | [], _ :: _, h => h.elim
  | some _ :: _, [], h => h.elim
  | none :: _, [], h => h.elim
theorem Sub.refl : ∀ {σ : PEnv}, Sub σ σ
  | [] => trivial
  | some v :: σ => ⟨rfl, Sub.refl⟩
  | none :: σ => (Sub.refl : Sub σ σ)
theorem Sub.slot : ∀ {σ ρ : PEnv} {i : Nat} {v : D}, Sub σ ρ → pslot σ i = some v → pslot ρ i = some v
  | [], [], i, v, _, e => e
  | some w :: σ, x :: ρ, 0, v, h, e => by rw [pslot_zero] at e ⊢; rw [h.1, e]
  | none :: σ, x :: ρ, 0, v, h, e => by rw [pslot_zero] at e; cases e
  | some w :: σ, x :: ρ, i + 1, v, h, e => Sub.slot (σ := σ) (ρ := ρ) (i := i) h.2 e
  | none :: σ, x :: ρ, i + 1, v, h, e => by
    have h : Sub σ ρ := h
    exact Sub.slot (i := i) h e
  | [], _ :: _, _, _, h, _ => h.elim
  | some _ :: _, [], _, _, h, _ => h.elim
  | none :: _, [], _, _, h, _ => h.elim
theorem Sub.of : ∀ {σ ρ : PEnv}, σ.length = ρ.length → (∀ i v, pslot σ i = some v → pslot ρ i = some v) → Sub σ ρ
  | [], [], _, _ => trivial
  | some v :: σ, x :: ρ, hl, h => ⟨h 0 v rfl, Sub.of (by simpa using hl) fun i v => h (i + 1) v⟩
  | none :: σ, x :: ρ, hl, h => show Sub σ ρ from Sub.of (by simpa using hl) fun i v => h (i + 1) v
  | [], _ :: _, h, _ => by simp at h
  | some _ :: _, [], h, _ => by simp at h
  | none :: _, [], h, _ => by simp at h
theorem Sub.trans {σ τ ρ : PEnv} (h : Sub σ τ) (h2 : Sub τ ρ) : Sub σ ρ := Sub.of (h.len.trans h2.len) fun i v e => h2.slot (h.slot e)
theorem Sub.set {σ ρ : PEnv} {i : Nat} {x : Option D} (h : Sub σ ρ) : Sub (σ.set i x) (ρ.set i x) := by
  refine Sub.of (by simp [h.len]) fun j v e => ?_
  unfold pslot at e ⊢
  rw [List.getElem?_set] at e ⊢
  by_cases hij : i = j
  · rw [if_pos hij] at e ⊢
    by_cases hl : i < σ.length
    · rw [if_pos hl] at e; rw [if_pos (h.len ▸ hl)]; exact e
    · rw [if_neg hl] at e; cases e
  · rw [if_neg hij] at e ⊢
    exact h.slot e
theorem Sub.kill1 {σ ρ : PEnv} {i : Nat} (h : Sub σ ρ) (hn : pslot σ i = none) : Sub σ (ρ.set i none) := by
  refine Sub.of (by simp [h.len]) fun j v e => ?_
  have := h.slot e
  unfold pslot at this ⊢
  rw [List.getElem?_set]
  by_cases hij : i = j
  · subst hij; rw [hn] at e; cases e
  · rw [if_neg hij]; exact this
def noneAt (σ : PEnv) (kl : List Nat) : Bool := kl.all fun i => (pslot σ i).isNone
theorem Sub.kill : ∀ {kl : List Nat} {σ ρ : PEnv}, Sub σ ρ → noneAt σ kl = true → Sub σ (pkill ρ kl)
  | [], _, _, h, _ => h
  | i :: kl, σ, ρ, h, hn => by
    have hn : ((pslot σ i).isNone && noneAt σ kl) = true := hn
    rw [Bool.and_eq_true] at hn
    show Sub σ (pkill (ρ.set i none) kl)
    exact Sub.kill (kl := kl) (h.kill1 (by simpa using hn.1)) hn.2
end
end Px
namespace Px
open PySem L2 Enc

/-! ### judgements: an expression comes to a typed value -/
section
variable {α β γ δ τ ι S : Type}
def RG (f : α → γ) (σ : PEnv) (m : M α) (r : RP γ) : Prop := match m with
  | .bad => True
  | .exc c => ∃ ρ', r = .exc c ρ' ∧ Sub σ ρ'
  | .ok a => ∃ ρ', r = .ok (f a) ρ' ∧ Sub σ ρ'
theorem RG.bind {f : α → γ} {g : β → δ} {σ : PEnv} {m : M α} {r : RP γ} {k : α → M β} {h : γ → PEnv → RP δ} (h1 : RG f σ m r) (h2 : ∀ a ρ', Sub σ ρ' → RG g σ (k a) (h (f a) ρ')) : RG g σ (m.bind k) (r.bind h) := by
  cases m with
  | bad => trivial
  | exc c => obtain ⟨ρ', e, s⟩ := h1; rw [e]; exact ⟨ρ', rfl, s⟩
  | ok a => obtain ⟨ρ', e, s⟩ := h1; rw [e]; exact h2 a ρ' s
variable [Enc α] [Enc β] [Enc γ] [Enc τ]
def PE (C : PCtx) (σ : PEnv) (e : IE) (v : α) : Prop := ∀ ρ, Sub σ ρ → pvE C e ρ = .ok (enc v) ρ
def ME (C : PCtx) (σ : PEnv) (e : IE) (m : M α) : Prop := ∀ ρ, Sub σ ρ → RG (enc : α → D) σ m (pvE C e ρ)
def PT (C : PCtx) (σ : PEnv) (e : IE) (b : Bool) : Prop := ∀ ρ, Sub σ ρ → pvT C e ρ = .ok b ρ
def MT (C : PCtx) (σ : PEnv) (e : IE) (m : M Bool) : Prop := ∀ ρ, Sub σ ρ → RG id σ m (pvT C e ρ)
def PI (C : PCtx) (σ : PEnv) (it : Itr) (xs : List α) : Prop := ∀ ρ, Sub σ ρ → pvI C it ρ = .ok (xs.map enc) ρ
def MI (C : PCtx) (σ : PEnv) (it : Itr) (m : M (List α)) : Prop := ∀ ρ, Sub σ ρ → RG (fun xs : List α => xs.map enc) σ m (pvI C it ρ)
/-- an operand that stands for d in every state that has what σ has -/
def GO (σ : PEnv) (o : POpd) (d : D) : Prop := ∀ ρ, Sub σ ρ → pget1 ρ o = some d
inductive GOs (σ : PEnv) : List POpd → List D → Prop
  | nil : GOs σ [] []
  | cons {o : POpd} {d : D} {os : List POpd} {ds : List D} : GO σ o d → GOs σ os ds → GOs σ (o :: os) (d :: ds)
def PO (C : PCtx) (σ : PEnv) (es : IEs) (ds : List D) : Prop := ∀ ρ, Sub σ ρ → ∃ os, pvOs C es ρ = .ok os ρ ∧ GOs σ os ds
def MO (C : PCtx) (σ : PEnv) (es : IEs) (m : M ι) (vals : ι → List D) : Prop := ∀ ρ, Sub σ ρ → match m with
  | .bad => True
  | .exc c => ∃ ρ', pvOs C es ρ = .exc c ρ' ∧ Sub σ ρ'
  | .ok g => ∃ os ρ', pvOs C es ρ = .ok os ρ' ∧ Sub σ ρ' ∧ GOs σ os (vals g)
def PV (C : PCtx) (σ : PEnv) (es : IEs) (ds : List D) : Prop := ∀ ρ, Sub σ ρ → pvEs C es ρ = .ok ds ρ
def MV (C : PCtx) (σ : PEnv) (es : IEs) (m : M ι) (vals : ι → List D) : Prop := ∀ ρ, Sub σ ρ → RG vals σ m (pvEs C es ρ)
variable {C : PCtx} {σ ρ : PEnv} {e a b c : IE} {es : IEs} {it : Itr}
theorem GOs.get : ∀ {os : List POpd} {ds : List D}, GOs σ os ds → Sub σ ρ → pget ρ os = some ds ∧ parg ρ os = some ds ∧ pidxM os = [] ∧ (∀ j, pposM j os = []) ∧ os.length = ds.length
  | _, _, .nil, _ => ⟨rfl, rfl, rfl, fun _ => rfl, rfl⟩
  | _, _, .cons (o := o) (d := d) (os := os) (ds := ds) h hs, s => by
    obtain ⟨h1, h2, h3, h4, h5⟩ := hs.get s
    have g := h ρ s
    cases o with
    | v x =>
      have g : some x = some d := g
      cases g
      exact ⟨by show (pget ρ os).map _ = _; rw [h1]; rfl, by show (parg ρ os).map _ = _; rw [h2]; rfl, h3, fun j => h4 (j + 1), by simp [h5]⟩
    | b i =>
      have g : pslot ρ i = some d := g
      exact ⟨by show (pslot ρ i).bind _ = _; rw [g]; show (pget ρ os).map _ = _; rw [h1]; rfl, by show (pslot ρ i).bind _ = _; rw [g]; show (parg ρ os).map _ = _; rw [h2]; rfl, h3, fun j => h4 (j + 1), by simp [h5]⟩
    | m i => cases g
/-- an expression that comes to d everywhere: its operand -/
theorem opd_of {d : D} (h : ∀ ρ, Sub σ ρ → pvE C e ρ = .ok d ρ) (s : Sub σ ρ) : ∃ o, popd e ρ (pvE C e ρ) = .ok o ρ ∧ GO σ o d := by
  have gen : ∃ o, ((pvE C e ρ).bind fun x ρ' => .ok (.v x) ρ') = .ok o ρ ∧ GO σ o d := ⟨.v d, by rw [h ρ s]; rfl, fun _ _ => rfl⟩
  cases e with
  | var i =>
    have key : ∀ ρ, Sub σ ρ → pslot ρ i = some d := fun ρ s => by
      have := h ρ s
      rw [y_var] at this
      cases q : pslot ρ i with
      | none => rw [q] at this; cases this
      | some x => rw [q] at this; cases this; rfl
    refine ⟨.b i, ?_, fun ρ s => key ρ s⟩
    rw [z_var, key ρ s]; rfl
  | io i => have := h ρ s; rw [y_io] at this; cases this
  | _ => exact gen
def OG (σ : PEnv) (m : M α) (r : RP POpd) : Prop := match m with
  | .bad => True
  | .exc c => ∃ ρ', r = .exc c ρ' ∧ Sub σ ρ'
  | .ok v => ∃ o ρ', r = .ok o ρ' ∧ Sub σ ρ' ∧ GO σ o (enc v)
theorem mopd_of {m : M α} (h : ME C σ e m) (s : Sub σ ρ) : OG σ m (popd e ρ (pvE C e ρ)) := by
  have gen : OG σ m ((pvE C e ρ).bind fun x ρ' => (.ok (.v x) ρ' : RP POpd)) := by
    have := h ρ s
    cases m with
    | bad => trivial
    | exc c => obtain ⟨ρ', e1, e2⟩ := this; exact ⟨ρ', by rw [e1]; rfl, e2⟩
    | ok v => obtain ⟨ρ', e1, e2⟩ := this; exact ⟨.v (enc v), ρ', by rw [e1]; rfl, e2, fun _ _ => rfl⟩
  cases e with
  | var i =>
    cases m with
    | bad => trivial
    | exc c =>
      obtain ⟨ρ', e1, e2⟩ := h ρ s
      rw [y_var] at e1
      cases q : pslot ρ i <;> rw [q] at e1 <;> cases e1
    | ok v =>
      have key : ∀ ρ, Sub σ ρ → pslot ρ i = some (enc v) := fun ρ s => by
        obtain ⟨ρ', e1, e2⟩ := h ρ s
        rw [y_var] at e1
        cases q : pslot ρ i with
        | none => rw [q] at e1; cases e1
        | some x => rw [q] at e1; cases e1; rfl
      refine ⟨.b i, ρ, ?_, s, fun ρ s => key ρ s⟩
      rw [z_var, key ρ s]; rfl
  | io i =>
    cases m with
    | bad => trivial
    | exc c => obtain ⟨ρ', e1, e2⟩ := h ρ s; rw [y_io] at e1; cases e1
    | ok v => obtain ⟨ρ', e1, e2⟩ := h ρ s; rw [y_io] at e1; cases e1
  | _ => exact gen
/-! operands -/
theorem po_nil : PO C σ .nil [] := fun ρ s => ⟨[], y_osn, .nil⟩
theorem po_cons {v : α} {ds : List D} (h : PE C σ e v) (hs : PO C σ es ds) : PO C σ (.cons e es) (enc v :: ds) := fun ρ s => by
  obtain ⟨o, e1, g⟩ := opd_of h s
  obtain ⟨os, e2, g2⟩ := hs ρ s
  exact ⟨o :: os, by rw [y_osc, e1, pb_ok, e2]; rfl, .cons g g2⟩
theorem mo_P {ds : List D} (h : PO C σ es ds) : MO C σ es (.ok ()) (fun _ => ds) := fun ρ s => by
  obtain ⟨os, e2, g2⟩ := h ρ s
  exact ⟨os, ρ, e2, s, g2⟩
theorem mo_PM {v : α} {m : M ι} {vals : ι → List D} (h : PE C σ e v) (hs : MO C σ es m vals) : MO C σ (.cons e es) m (fun g => enc v :: vals g) := fun ρ s => by
  obtain ⟨o, e1, g⟩ := opd_of h s
  have h2 := hs ρ s
  cases m with
  | bad => trivial
  | exc c => obtain ⟨ρ', e2, s2⟩ := h2; exact ⟨ρ', by rw [y_osc, e1, pb_ok, e2]; rfl, s2⟩
  | ok x => obtain ⟨os, ρ', e2, s2, g2⟩ := h2; exact ⟨o :: os, ρ', by rw [y_osc, e1, pb_ok, e2]; rfl, s2, .cons g g2⟩
theorem mo_M {m : M α} {ds : List D} (h : ME C σ e m) (hs : PO C σ es ds) : MO C σ (.cons e es) m (fun v => enc v :: ds) := fun ρ s => by
  have h1 := mopd_of h s
  cases m with
  | bad => trivial
  | exc c => obtain ⟨ρ', e1, s1⟩ := h1; exact ⟨ρ', by rw [y_osc, e1]; rfl, s1⟩
  | ok v =>
    obtain ⟨o, ρ', e1, s1, g⟩ := h1
    obtain ⟨os, e2, g2⟩ := hs ρ' s1
    exact ⟨o :: os, ρ', by rw [y_osc, e1, pb_ok, e2]; rfl, s1, .cons g g2⟩
theorem mo_MM {m : M α} {m2 : M ι} {vals : ι → List D} (h : ME C σ e m) (hs : MO C σ es m2 vals) : MO C σ (.cons e es) (m.bind fun v => m2.bind fun g => .ok (v, g)) (fun p => enc p.1 :: vals p.2) := fun ρ s => by
  have h1 := mopd_of h s
  cases m with
  | bad => trivial
  | exc c => obtain ⟨ρ', e1, s1⟩ := h1; exact ⟨ρ', by rw [y_osc, e1]; rfl, s1⟩
  | ok v =>
    obtain ⟨o, ρ', e1, s1, g⟩ := h1
    have h2 := hs ρ' s1
    cases m2 with
    | bad => trivial
    | exc c => obtain ⟨ρ2, e2, s2⟩ := h2; exact ⟨ρ2, by rw [y_osc, e1, pb_ok, e2]; rfl, s2⟩
    | ok x => obtain ⟨os, ρ2, e2, s2, g2⟩ := h2; exact ⟨o :: os, ρ2, by rw [y_osc, e1, pb_ok, e2]; rfl, s2, .cons g g2⟩
/-! values -/
theorem pv_nil : PV C σ .nil [] := fun ρ s => y_esn
theorem pv_cons {v : α} {ds : List D} (h : PE C σ e v) (hs : PV C σ es ds) : PV C σ (.cons e es) (enc v :: ds) := fun ρ s => by rw [y_esc, h ρ s, pb_ok, hs ρ s]; rfl
theorem mv_PM {v : α} {m : M ι} {vals : ι → List D} (h : PE C σ e v) (hs : MV C σ es m vals) : MV C σ (.cons e es) m (fun g => enc v :: vals g) := fun ρ s => by
  have h2 := hs ρ s
  cases m with
  | bad => trivial
  | exc c => obtain ⟨ρ', e2, s2⟩ := h2; exact ⟨ρ', by rw [y_esc, h ρ s, pb_ok, e2]; rfl, s2⟩
  | ok x => obtain ⟨ρ', e2, s2⟩ := h2; exact ⟨ρ', by rw [y_esc, h ρ s, pb_ok, e2]; rfl, s2⟩
theorem mv_M {m : M α} {ds : List D} (h : ME C σ e m) (hs : PV C σ es ds) : MV C σ (.cons e es) m (fun v => enc v :: ds) := fun ρ s => by
  have h1 := h ρ s
  cases m with
  | bad => trivial
  | exc c => obtain ⟨ρ', e1, s1⟩ := h1; exact ⟨ρ', by rw [y_esc, e1]; rfl, s1⟩
  | ok v => obtain ⟨ρ', e1, s1⟩ := h1; exact ⟨ρ', by rw [y_esc, e1, pb_ok, hs ρ' s1]; rfl, s1⟩
theorem mv_MM {m : M α} {m2 : M ι} {vals : ι → List D} (h : ME C σ e m) (hs : MV C σ es m2 vals) : MV C σ (.cons e es) (m.bind fun v => m2.bind fun g => .ok (v, g)) (fun p => enc p.1 :: vals p.2) := fun ρ s => by
  have h1 := h ρ s
  cases m with
  | bad => trivial
  | exc c => obtain ⟨ρ', e1, s1⟩ := h1; exact ⟨ρ', by rw [y_esc, e1]; rfl, s1⟩
  | ok v =>
    obtain ⟨ρ', e1, s1⟩ := h1
    have h2 := hs ρ' s1
    cases m2 with
    | bad => trivial
    | exc c => obtain ⟨ρ2, e2, s2⟩ := h2; exact ⟨ρ2, by rw [y_esc, e1, pb_ok, e2]; rfl, s2⟩
    | ok x => obtain ⟨ρ2, e2, s2⟩ := h2; exact ⟨ρ2, by rw [y_esc, e1, pb_ok, e2]; rfl, s2⟩
/-! expressions -/
theorem pe_var {i : Nat} {v : α} (h : pslot σ i = some (enc v)) : PE C σ (.var i) v := fun ρ s => by rw [y_var, s.slot h]
theorem pe_mv {i : Nat} {v : α} (h : pslot σ i = some (enc v)) : PE C σ (.mv i) v := fun ρ s => by rw [y_mv, s.slot h]
theorem pe_cst {t : At} {v : α} (h : (D.at t) = enc v) : PE C σ (.cst t) v := fun ρ s => by rw [y_cst, h]
theorem pe_glob {g : Nat} {v : α} (h : C.glob g = enc v) : PE C σ (.glob g) v := fun ρ s => by rw [y_glob, h]
theorem pe_as {v : α} {w : β} (h : PE C σ e v) (q : enc v = enc w) : PE C σ e w := fun ρ s => by rw [h ρ s, q]
theorem me_as {m : M α} {w : α → β} (h : ME C σ e m) (q : ∀ v, enc v = enc (w v)) : ME C σ e (m.bind fun v => .ok (w v)) := fun ρ s => by
  have h1 := h ρ s
  cases m with
  | bad => trivial
  | exc c => exact h1
  | ok v => obtain ⟨ρ', e1, s1⟩ := h1; exact ⟨ρ', by rw [e1, q], s1⟩
/-- a value read as another type where it is of it -/
theorem me_dec {d : α} {m : M β} (h : PE C σ e d) (q : ∀ v, m = .ok v → enc d = enc v) (hx : ∀ c, m ≠ .exc c) : ME C σ e m := fun ρ s => by
  cases m with
  | bad => trivial
  | exc c => exact absurd rfl (hx c)
  | ok v => exact ⟨ρ, by rw [h ρ s, q v rfl], s⟩
theorem me_decM {m1 : M α} {k : α → M β} (h : ME C σ e m1) (q : ∀ d v, k d = .ok v → enc d = enc v) (hx : ∀ d c, k d ≠ .exc c) : ME C σ e (m1.bind k) := fun ρ s => by
  have h1 := h ρ s
  cases m1 with
  | bad => trivial
  | exc c => exact h1
  | ok d =>
    obtain ⟨ρ', e1, s1⟩ := h1
    show RG enc σ (k d) _
    cases e2 : k d with
    | bad => trivial
    | exc c => exact absurd e2 (hx d c)
    | ok v => exact ⟨ρ', by rw [e1, q d v e2], s1⟩
theorem me_of {v : α} (h : PE C σ e v) : ME C σ e (.ok v) := fun ρ s => ⟨ρ, h ρ s, s⟩
def OpR (o : Op) (ds : List D) (m : M α) : Prop := match m with
  | .ok v => opSem o ds = some (enc v)
  | .exc _ => False
  | .bad => True
theorem pe_op {o : Op} {ds : List D} {v : α} (h : PO C σ es ds) (q : opSem o ds = some (enc v)) : PE C σ (.op o es) v := fun ρ s => by
  obtain ⟨os, e1, g⟩ := h ρ s
  obtain ⟨h1, h2, h3, _⟩ := g.get s
  rw [y_op, e1, pb_ok, if_pos h3, h1]
  show popt (opSem o ds) ρ = _
  rw [q]; rfl
theorem me_op {o : Op} {ds : List D} {m : M α} (h : PO C σ es ds) (q : OpR o ds m) : ME C σ (.op o es) m := fun ρ s => by
  cases m with
  | bad => trivial
  | exc c => exact q.elim
  | ok v => exact ⟨ρ, pe_op h q ρ s, s⟩
theorem me_opM {o : Op} {m : M ι} {vals : ι → List D} {k : ι → M α} (h : MO C σ es m vals) (q : ∀ g, OpR o (vals g) (k g)) : ME C σ (.op o es) (m.bind k) := fun ρ s => by
  have h1 := h ρ s
  cases m with
  | bad => trivial
  | exc c => obtain ⟨ρ', e1, s1⟩ := h1; exact ⟨ρ', by rw [y_op, e1]; rfl, s1⟩
  | ok x =>
    obtain ⟨os, ρ', e1, s1, g⟩ := h1
    show RG enc σ (k x) _
    have q := q x
    cases e2 : k x with
    | bad => trivial
    | exc c => rw [e2] at q; exact q.elim
    | ok v =>
      rw [e2] at q
      have q : opSem o (vals x) = some (enc v) := q
      obtain ⟨h1, h2, h3, _⟩ := g.get s1
      refine ⟨ρ', ?_, s1⟩
      rw [y_op, e1, pb_ok, if_pos h3, h1]
      show popt (opSem o (vals x)) ρ' = _
      rw [q]; rfl
/-! tests -/
theorem pt_of {x : Bool} (h : PE C σ e x) : PT C σ e x := fun ρ s => by
  obtain ⟨o, e1, g⟩ := opd_of h s
  rw [y_T, e1, pb_ok, g ρ s]; rfl
theorem mt_of {m : M Bool} (h : ME C σ e m) : MT C σ e m := fun ρ s => by
  have h1 := mopd_of h s
  cases m with
  | bad => trivial
  | exc c => obtain ⟨ρ', e1, s1⟩ := h1; exact ⟨ρ', by rw [y_T, e1]; rfl, s1⟩
  | ok v => obtain ⟨o, ρ', e1, s1, g⟩ := h1; exact ⟨ρ', by rw [y_T, e1, pb_ok, g ρ' s1]; rfl, s1⟩
theorem pe_not {x : Bool} (h : PE C σ a x) : PE C σ (.not a) (!x) := fun ρ s => by rw [y_not, pt_of h ρ s]; rfl
theorem me_not {m : M Bool} (h : ME C σ a m) : ME C σ (.not a) (m.bind fun x => .ok (!x)) := fun ρ s => by
  rw [y_not]
  exact (mt_of h ρ s).bind fun x ρ' s' => ⟨ρ', rfl, s'⟩
theorem pe_and {x y : Bool} (h : PE C σ a x) (h2 : PE C σ b y) : PE C σ (.and a b) (x && y) := fun ρ s => by
  rw [y_and, pt_of h ρ s, pb_ok]
  cases x
  · rfl
  · exact h2 ρ s
theorem me_and {x : Bool} {m : M Bool} (h : PE C σ a x) (h2 : ME C σ b m) : ME C σ (.and a b) (if x then m else .ok false) := fun ρ s => by
  rw [y_and, pt_of h ρ s, pb_ok]
  cases x
  · exact ⟨ρ, rfl, s⟩
  · exact h2 ρ s
theorem me_andM {m1 m2 : M Bool} (h : ME C σ a m1) (h2 : ME C σ b m2) : ME C σ (.and a b) (m1.bind fun x => if x then m2 else .ok false) := fun ρ s => by
  rw [y_and]
  refine (mt_of h ρ s).bind fun x ρ' s' => ?_
  cases x
  · exact ⟨ρ', rfl, s'⟩
  · exact h2 ρ' s'
theorem pe_or {x y : Bool} (h : PE C σ a x) (h2 : PE C σ b y) : PE C σ (.or a b) (x || y) := fun ρ s => by
  rw [y_or, pt_of h ρ s, pb_ok]
  cases x
  · exact h2 ρ s
  · rfl
theorem me_or {x : Bool} {m : M Bool} (h : PE C σ a x) (h2 : ME C σ b m) : ME C σ (.or a b) (if x then .ok true else m) := fun ρ s => by
  rw [y_or, pt_of h ρ s, pb_ok]
  cases x
  · exact h2 ρ s
  · exact ⟨ρ, rfl, s⟩
theorem me_orM {m1 m2 : M Bool} (h : ME C σ a m1) (h2 : ME C σ b m2) : ME C σ (.or a b) (m1.bind fun x => if x then .ok true else m2) := fun ρ s => by
  rw [y_or]
  refine (mt_of h ρ s).bind fun x ρ' s' => ?_
  cases x
  · exact h2 ρ' s'
  · exact ⟨ρ', rfl, s'⟩
theorem pe_ite {x : Bool} {u v : α} (h : PE C σ c x) (h1 : PE C σ a u) (h2 : PE C σ b v) : PE C σ (.ite c a b) (if x then u else v) := fun ρ s => by
  rw [y_ite, pt_of h ρ s, pb_ok]
  cases x
  · exact h2 ρ s
  · exact h1 ρ s
theorem me_ite {x : Bool} {u v : M α} (h : PE C σ c x) (h1 : ME C σ a u) (h2 : ME C σ b v) : ME C σ (.ite c a b) (if x then u else v) := fun ρ s => by
  rw [y_ite, pt_of h ρ s, pb_ok]
  cases x
  · exact h2 ρ s
  · exact h1 ρ s
theorem me_iteM {m : M Bool} {u v : M α} (h : ME C σ c m) (h1 : ME C σ a u) (h2 : ME C σ b v) : ME C σ (.ite c a b) (m.bind fun x => if x then u else v) := fun ρ s => by
  rw [y_ite]
  refine (mt_of h ρ s).bind fun x ρ' s' => ?_
  cases x
  · exact h2 ρ' s'
  · exact h1 ρ' s'
theorem pe_chain {o1 o2 : Op} {u : α} {v : β} {w : γ} {x y : Bool} (h1 : PE C σ a u) (h2 : PE C σ b v) (h3 : PE C σ c w) (q1 : opSem o1 [enc u, enc v] = some (.at (.bl x))) (q2 : opSem o2 [enc v, enc w] = some (.at (.bl y))) : PE C σ (.chain o1 o2 a b c) (x && y) := fun ρ s => by
  obtain ⟨oa, e1, g1⟩ := opd_of h1 s
  obtain ⟨ob, e2, g2⟩ := opd_of h2 s
  obtain ⟨oc, e3, g3⟩ := opd_of h3 s
  rw [y_chain, e1, pb_ok, e2, pb_ok, g1 ρ s, g2 ρ s]
  dsimp only
  rw [q1]
  cases x
  · rfl
  · show (popd c ρ (pvE C c ρ)).bind _ = _
    rw [e3, pb_ok, g2 ρ s, g3 ρ s]
    dsimp only
    rw [q2]; rfl
theorem me_chain {o1 o2 : Op} {u : M α} {v : M β} {w : M γ} {x : α → β → Bool} {y : β → γ → Bool} (h1 : ME C σ a u) (h2 : ME C σ b v) (h3 : ME C σ c w) (q1 : ∀ u v, opSem o1 [enc u, enc v] = some (.at (.bl (x u v)))) (q2 : ∀ v w, opSem o2 [enc v, enc w] = some (.at (.bl (y v w)))) :
    ME C σ (.chain o1 o2 a b c) (u.bind fun u => v.bind fun v => if x u v then w.bind fun w => .ok (y v w) else .ok false) := fun ρ s => by
  have k1 := mopd_of h1 s
  cases u with
  | bad => trivial
  | exc c => obtain ⟨ρ', e1, s1⟩ := k1; exact ⟨ρ', by rw [y_chain, e1]; rfl, s1⟩
  | ok u =>
    obtain ⟨oa, ρ1, e1, s1, g1⟩ := k1
    have k2 := mopd_of h2 s1
    cases v with
    | bad => trivial
    | exc c => obtain ⟨ρ', e2, s2⟩ := k2; exact ⟨ρ', by rw [y_chain, e1, pb_ok, e2]; rfl, s2⟩
    | ok v =>
      obtain ⟨ob, ρ2, e2, s2, g2⟩ := k2
      show RG enc σ (if x u v then _ else _) _
      rw [y_chain, e1, pb_ok, e2, pb_ok, g1 ρ2 s2, g2 ρ2 s2]
      dsimp only
      rw [q1]
      cases x u v with
      | false => exact ⟨ρ2, rfl, s2⟩
      | true =>
        have k3 := mopd_of h3 s2
        cases w with
        | bad => trivial
        | exc c => obtain ⟨ρ', e3, s3⟩ := k3; exact ⟨ρ', by show (popd _ ρ2 _).bind _ = _; rw [e3]; rfl, s3⟩
        | ok w =>
          obtain ⟨oc, ρ3, e3, s3, g3⟩ := k3
          refine ⟨ρ3, ?_, s3⟩
          show (popd c ρ2 (pvE C c ρ2)).bind _ = _
          rw [e3, pb_ok, g2 ρ3 s3, g3 ρ3 s3]
          dsimp only
          rw [q2]; rfl
/-! displays -/
theorem pe_tup {ds : List D} {v : α} (h : PV C σ es ds) (q : (decide (ds.length ≤ 1000)) = true) (q2 : D.nd .tup ds = enc v) : PE C σ (.tup es) v := fun ρ s => by
  have q := of_decide_eq_true q
  rw [y_tup, h ρ s, pb_ok, if_pos (by show _ ≤ 16777216; omega), ← q2]
theorem me_tup {m : M ι} {vals : ι → List D} {w : ι → α} (h : MV C σ es m vals) (q : ∀ g, decide ((vals g).length ≤ 1000) = true) (q2 : ∀ g, D.nd .tup (vals g) = enc (w g)) : ME C σ (.tup es) (m.bind fun g => .ok (w g)) := fun ρ s => by
  rw [y_tup]
  refine (h ρ s).bind fun g ρ' s' => ?_
  have q := of_decide_eq_true (q g)
  rw [if_pos (by show _ ≤ 16777216; omega)]
  exact ⟨ρ', by rw [← q2], s'⟩
theorem pe_lst {ds : List D} {v : α} (h : PV C σ es ds) (q : (decide (ds.length ≤ 1000)) = true) (q2 : D.nd .lst ds = enc v) : PE C σ (.lst es) v := fun ρ s => by
  have q := of_decide_eq_true q
  rw [y_lst, h ρ s, pb_ok, if_pos (by show _ ≤ 16777216; omega), ← q2]
theorem me_lst {m : M ι} {vals : ι → List D} {w : ι → α} (h : MV C σ es m vals) (q : ∀ g, decide ((vals g).length ≤ 1000) = true) (q2 : ∀ g, D.nd .lst (vals g) = enc (w g)) : ME C σ (.lst es) (m.bind fun g => .ok (w g)) := fun ρ s => by
  rw [y_lst]
  refine (h ρ s).bind fun g ρ' s' => ?_
  have q := of_decide_eq_true (q g)
  rw [if_pos (by show _ ≤ 16777216; omega)]
  exact ⟨ρ', by rw [← q2], s'⟩
theorem pe_dK0 {v : α} (q : D.nd (.dK []) [] = enc v) : PE C σ .dK0 v := fun ρ s => by rw [y_dK0, q]
theorem pe_dT0 {v : α} (q : D.nd (.dT []) [] = enc v) : PE C σ .dT0 v := fun ρ s => by rw [y_dT0, q]
theorem pe_imm {v : α} (h : PE C σ e v) (q : imm (enc v) = true) : PE C σ (.imm e) v := fun ρ s => by rw [y_imm, h ρ s, pb_ok, if_pos q]
def immM (v : α) : M α := if imm (enc v) then .ok v else .bad
theorem me_imm {m : M α} (h : ME C σ e m) : ME C σ (.imm e) (m.bind immM) := fun ρ s => by
  rw [y_imm]
  refine (h ρ s).bind fun v ρ' s' => ?_
  unfold immM
  split
  · exact ⟨ρ', rfl, s'⟩
  · trivial
theorem pe_lent {v : α} (h : PE C σ e v) : PE C σ (.lent e) v := fun ρ s => by rw [y_lent, h ρ s]
theorem me_lent {m : M α} (h : ME C σ e m) : ME C σ (.lent e) m := fun ρ s => by rw [y_lent]; exact h ρ s
/-! calls -/
def CS0 (m : M α) (r : CP) : Prop := match m with
  | .bad => True
  | .exc c => r = .exc c
  | .ok a => r = .ok (enc a) []
structure CS (m : M α) (r : CP) : Prop where
  h : CS0 m r
theorem me_call {f : Nat} {ds : List D} {m : M α} (h : PO C σ es ds) (q : CS m (C.call f [] ds)) : ME C σ (.call f es) m := fun ρ s => by
  obtain ⟨os, e1, g⟩ := h ρ s
  obtain ⟨h1, h2, h3, h4, _⟩ := g.get s
  have e : pvE C (.call f es) ρ = pcallR ρ os (C.call f [] ds) := by
    rw [y_call, e1, pb_ok, h2]
    dsimp only
    rw [h3, if_pos ⟨List.nodup_nil, fun i z => by cases z⟩, h4]
  rw [e]
  cases m with
  | bad => trivial
  | exc c => have q : C.call f [] ds = .exc c := q.h; rw [q]; exact ⟨ρ, rfl, s⟩
  | ok v =>
    have q : C.call f [] ds = .ok (enc v) [] := q.h
    rw [q]
    refine ⟨ρ, ?_, s⟩
    show RP.ok _ (if pidxM os = [] then ρ else _) = _
    rw [if_pos h3]
theorem me_callM {f : Nat} {m1 : M ι} {vals : ι → List D} {k : ι → M α} (h : MO C σ es m1 vals) (q : ∀ g, CS (k g) (C.call f [] (vals g))) : ME C σ (.call f es) (m1.bind k) := fun ρ s => by
  have h1 := h ρ s
  cases m1 with
  | bad => trivial
  | exc c => obtain ⟨ρ', e1, s1⟩ := h1; exact ⟨ρ', by rw [y_call, e1]; rfl, s1⟩
  | ok x =>
    obtain ⟨os, ρ', e1, s1, g⟩ := h1
    obtain ⟨h1, h2, h3, h4, _⟩ := g.get s1
    have e : pvE C (.call f es) ρ = pcallR ρ' os (C.call f [] (vals x)) := by
      rw [y_call, e1, pb_ok, h2]
      dsimp only
      rw [h3, if_pos ⟨List.nodup_nil, fun i z => by cases z⟩, h4]
    rw [e]
    have q := q x
    show RG enc σ (k x) _
    cases e2 : k x with
    | bad => trivial
    | exc c => rw [e2] at q; have q : C.call f [] (vals x) = .exc c := q.h; rw [q]; exact ⟨ρ', rfl, s1⟩
    | ok v =>
      rw [e2] at q
      have q : C.call f [] (vals x) = .ok (enc v) [] := q.h
      rw [q]
      refine ⟨ρ', ?_, s1⟩
      show RP.ok _ (if pidxM os = [] then ρ' else _) = _
      rw [if_pos h3]
/-! iterables -/
theorem im_of {xs : List α} (h : PI C σ it xs) : MI C σ it (.ok xs) := fun ρ s => ⟨ρ, h ρ s, s⟩
theorem it_seq {v : α} {xs : List β} (h : PE C σ e v) (q : kidsD (enc v) = some (xs.map enc)) : PI C σ (.seq e) xs := fun ρ s => by rw [y_seq, h ρ s, pb_ok, q]
theorem im_seq {m : M α} {w : α → List β} (h : ME C σ e m) (q : ∀ v, kidsD (enc v) = some ((w v).map enc)) : MI C σ (.seq e) (m.bind fun v => .ok (w v)) := fun ρ s => by
  rw [y_seq]
  refine (h ρ s).bind fun v ρ' s' => ?_
  rw [q]
  exact ⟨ρ', rfl, s'⟩
def kidsM (d : D) : M (List D) := M.opt (kidsD d)
theorem im_seqD {m : M D} (h : ME C σ e m) : MI C σ (.seq e) (m.bind kidsM) := fun ρ s => by
  rw [y_seq]
  refine (h ρ s).bind fun v ρ' s' => ?_
  show RG _ _ (M.opt (kidsD v)) (match kidsD v with | some ds => _ | none => _)
  cases kidsD v with
  | none => trivial
  | some ds => exact ⟨ρ', by show RP.ok ds ρ' = RP.ok (ds.map fun d => d) ρ'; rw [List.map_id'], s'⟩
def chrs (z : Str) : List Str := z.cps.toList.map fun c => ⟨#[c]⟩
theorem im_str {m : M Str} (h : ME C σ e m) : MI C σ (.str e) (m.bind fun z => .ok (chrs z)) := fun ρ s => by
  rw [y_str]
  refine (h ρ s).bind fun v ρ' s' => ?_
  refine ⟨ρ', ?_, s'⟩
  show RP.ok (pstrKids v) ρ' = RP.ok ((chrs v).map enc) ρ'
  unfold pstrKids chrs
  rw [List.map_map]; rfl
@[irreducible] def rngM (ns : List Int) : M (List Int) := M.opt (rngInts (ns.map D.int))
theorem im_rng {ds : List D} {ns : List Int} (h : PO C σ es ds) (q : ds = ns.map D.int) : MI C σ (.rng es) (rngM ns) := fun ρ s => by
  obtain ⟨os, e1, g⟩ := h ρ s
  obtain ⟨h1, h2, h3, _⟩ := g.get s
  rw [y_rng, e1, pb_ok, if_pos h3, h1, q]
  unfold rngM
  show RG _ _ (M.opt (rngInts (ns.map D.int))) (match rngInts (ns.map D.int) with | some ns => _ | none => _)
  cases rngInts (ns.map D.int) with
  | none => trivial
  | some ms => exact ⟨ρ, rfl, s⟩
theorem im_rngM {m : M ι} {vals : ι → List D} {ns : ι → List Int} (h : MO C σ es m vals) (q : ∀ g, vals g = (ns g).map D.int) : MI C σ (.rng es) (m.bind fun g => rngM (ns g)) := fun ρ s => by
  have h1 := h ρ s
  cases m with
  | bad => trivial
  | exc c => obtain ⟨ρ', e1, s1⟩ := h1; exact ⟨ρ', by rw [y_rng, e1]; rfl, s1⟩
  | ok x =>
    obtain ⟨os, ρ', e1, s1, g⟩ := h1
    obtain ⟨h1, h2, h3, _⟩ := g.get s1
    rw [y_rng, e1, pb_ok, if_pos h3, h1, q]
    show RG _ _ (rngM (ns x)) _
    unfold rngM
    show RG _ _ (M.opt (rngInts ((ns x).map D.int))) (match rngInts ((ns x).map D.int) with | some ns => _ | none => _)
    cases rngInts ((ns x).map D.int) with
    | none => trivial
    | some ms => exact ⟨ρ', rfl, s1⟩
def enumL (xs : List α) : List (T2 Int α) := xs.mapIdx fun k x => ⟨(k : Int), x⟩
theorem im_enum {m : M (List α)} (h : ME C σ e m) : MI C σ (.enum e) (m.bind fun xs => .ok (enumL xs)) := fun ρ s => by
  rw [y_enum]
  refine (h ρ s).bind fun v ρ' s' => ⟨ρ', ?_, s'⟩
  show RP.ok ((v.map enc).mapIdx fun k d => D.tup [.int (k : Nat), d]) ρ' = RP.ok ((v.mapIdx fun k x => (⟨(k : Int), x⟩ : T2 Int α)).map enc) ρ'
  congr 1
  apply List.ext_getElem <;> simp [Enc.enc]
def zipL (xs : List α) (ys : List β) : List (T2 α β) := (xs.zip ys).map fun p => ⟨p.1, p.2⟩
theorem im_zip {m1 : M (List α)} {m2 : M (List β)} (h1 : ME C σ a m1) (h2 : ME C σ b m2) : MI C σ (.zip a b) (m1.bind fun xs => m2.bind fun ys => .ok (zipL xs ys)) := fun ρ s => by
  rw [y_zip]
  refine (h1 ρ s).bind fun v ρ' s' => (h2 ρ' s').bind fun w ρ2 s2 => ⟨ρ2, ?_, s2⟩
  show RP.ok (((v.map enc).zip (w.map enc)).map fun p => D.tup [p.1, p.2]) ρ2 = RP.ok (((v.zip w).map fun p => (⟨p.1, p.2⟩ : T2 α β)).map enc) ρ2
  congr 1
  rw [List.zip_map, List.map_map, List.map_map]
  rfl
theorem im_rev {m : M (List α)} (h : ME C σ e m) : MI C σ (.rev e) (m.bind fun xs => .ok xs.reverse) := fun ρ s => by
  rw [y_rev]
  refine (h ρ s).bind fun v ρ' s' => ⟨ρ', ?_, s'⟩
  show RP.ok (v.map enc).reverse ρ' = RP.ok (v.reverse.map enc) ρ'
  rw [List.map_reverse]
/-! targets -/
def okI (io : List Nat) (σ : PEnv) (i : Nat) : Bool := !io.contains i && decide (i < σ.length)
theorem okI_1 {io : List Nat} {i : Nat} (h : okI io σ i = true) (s : Sub σ ρ) : i ∉ io ∧ i < ρ.length := by
  unfold okI at h
  rw [Bool.and_eq_true, Bool.not_eq_true'] at h
  refine ⟨fun z => ?_, s.len ▸ of_decide_eq_true h.2⟩
  have h := h.1
  rw [List.contains_iff_mem.mpr z] at h
  cases h
def TG (C : PCtx) (σ : PEnv) (t : Tgt) (x : α) (σ' : PEnv) : Prop := ∀ ρ, Sub σ ρ → ∃ ρ', ptgt C.io t (enc x) ρ = .ok () ρ' ∧ Sub σ' ρ'
theorem tg_one {i : Nat} {x : α} (h : okI C.io σ i = true) : TG C σ (.one i) x (σ.set i (some (enc x))) := fun ρ s => by
  obtain ⟨h1, h2⟩ := okI_1 h s
  exact ⟨ρ.set i (some (enc x)), by rw [ptgt_one, if_neg h1, if_pos h2], s.set⟩
theorem tg_two {i j : Nat} {x : T2 α β} (h : okI C.io σ i = true) (h2 : okI C.io σ j = true) : TG C σ (.many [i, j]) x ((σ.set i (some (enc x.a))).set j (some (enc x.b))) := fun ρ s => by
  obtain ⟨h1, h3⟩ := okI_1 h s
  obtain ⟨h4, h5⟩ := okI_1 h2 s
  refine ⟨(ρ.set i (some (enc x.a))).set j (some (enc x.b)), ?_, s.set.set⟩
  show ptgt C.io (.many [i, j]) (.nd .tup [enc x.a, enc x.b]) ρ = _
  rw [ptgt_tup, if_pos (by simp), ptgo_cons, if_neg h1, if_pos h3, ptgo_cons, if_neg h4, if_pos (by rw [List.length_set]; exact h5), ptgo_nil]
theorem tg_three {i j k : Nat} {x : T3 α β γ} (h : okI C.io σ i = true) (h2 : okI C.io σ j = true) (hk : okI C.io σ k = true) : TG C σ (.many [i, j, k]) x (((σ.set i (some (enc x.a))).set j (some (enc x.b))).set k (some (enc x.c))) := fun ρ s => by
  obtain ⟨h1, h3⟩ := okI_1 h s
  obtain ⟨h4, h5⟩ := okI_1 h2 s
  obtain ⟨h6, h7⟩ := okI_1 hk s
  refine ⟨((ρ.set i (some (enc x.a))).set j (some (enc x.b))).set k (some (enc x.c)), ?_, s.set.set.set⟩
  show ptgt C.io (.many [i, j, k]) (.nd .tup [enc x.a, enc x.b, enc x.c]) ρ = _
  rw [ptgt_tup, if_pos (by simp), ptgo_cons, if_neg h1, if_pos h3, ptgo_cons, if_neg h4, if_pos (by rw [List.length_set]; exact h5), ptgo_cons, if_neg h6, if_pos (by rw [List.length_set, List.length_set]; exact h7), ptgo_nil]
/-! comprehensions -/
def compM (f : τ → M β) (xs : List τ) : M (List β) := if xs.length < szLim then mapMM f xs else .bad
def compF (f : τ → M (Option β)) (xs : List τ) : M (List β) := if xs.length < szLim then filMM f xs else .bad
def compP (f : τ → β) (xs : List τ) : M (List β) := if xs.length < szLim then .ok (xs.map f) else .bad
def compPF (p : τ → Bool) (f : τ → β) (xs : List τ) : M (List β) := if xs.length < szLim then .ok ((xs.filter p).map f) else .bad
def klOk (io : List Nat) (σ : PEnv) (kl : List Nat) : Bool := kl.all (fun i => !io.contains i) && noneAt σ kl
theorem fil_ok {body : D → PEnv → RP (Option D)} {kl : List Nat} {f : τ → M (Option β)} (hk : noneAt σ kl = true)
    (hb : ∀ x ρ, Sub σ ρ → match f x with
      | .bad => True
      | .exc _ => False
      | .ok y => ∃ ρ', body (enc x) ρ = .ok (y.map enc) ρ' ∧ Sub σ ρ') :
    ∀ {xs : List τ} {ρ : PEnv}, Sub σ ρ → match filMM f xs with
      | .bad => True
      | .exc _ => False
      | .ok ys => ∃ ρ', pcompL body (pkillF kl) (xs.map enc) ρ = .ok (ys.map enc) ρ' ∧ Sub σ ρ'
  | [], ρ, s => ⟨ρ, rfl, s⟩
  | x :: xs, ρ, s => by
    have q := hb x ρ s
    rw [List.map_cons]
    unfold filMM pcompL
    cases e : f x with
    | bad => trivial
    | exc c => rw [e] at q; exact q.elim
    | ok y =>
      rw [e] at q
      obtain ⟨ρ1, e1, s1⟩ := q
      rw [e1]
      dsimp only [M.bind]
      have r := fil_ok (xs := xs) hk hb (s1.kill hk)
      cases e2 : filMM f xs with
      | bad => trivial
      | exc c => rw [e2] at r; exact r.elim
      | ok ys =>
        rw [e2] at r
        obtain ⟨ρ2, e3, s3⟩ := r
        have e3 : pcompL body (pkillF kl) (xs.map enc) (pkillF kl ρ1) = _ := e3
        rw [e3]
        refine ⟨ρ2, ?_, s3⟩
        cases y <;> rfl
theorem map_ok {f : τ → M β} : ∀ {xs : List τ}, mapMM f xs = filMM (fun x => (f x).bind fun y => .ok (some y)) xs
  | [] => rfl
  | x :: xs => by
    unfold mapMM filMM
    rw [map_ok (xs := xs)]
    cases f x <;> rfl
theorem mapP_ok {f : τ → β} : ∀ {xs : List τ}, (M.ok (xs.map f)) = filMM (fun x => .ok (some (f x))) xs
  | [] => rfl
  | x :: xs => by
    unfold filMM
    rw [← mapP_ok (xs := xs)]
    rfl
theorem filP_ok {p : τ → Bool} {f : τ → β} : ∀ {xs : List τ}, (M.ok ((xs.filter p).map f)) = filMM (fun x => .ok (if p x then some (f x) else none)) xs
  | [] => rfl
  | x :: xs => by
    unfold filMM
    rw [← filP_ok (xs := xs), List.filter_cons]
    cases p x <;> rfl
/-- what a comprehension's body does with an item -/
def BF (C : PCtx) (σ : PEnv) (e : IE) (t : Tgt) (c : IEs) (x : τ) (m : M (Option β)) : Prop := ∀ ρ, Sub σ ρ → match m with
      | .bad => True
      | .exc _ => False
      | .ok y => ∃ ρ', pcompB C e t c (enc x) ρ = .ok (y.map enc) ρ' ∧ Sub σ ρ'
theorem me_compF {t : Tgt} {cs : IEs} {kl : List Nat} {mi : M (List τ)} {f : τ → M (Option β)} (hI : MI C σ it mi) (hk : klOk C.io σ kl = true) (hb : ∀ x, BF C σ e t cs x (f x)) : ME C σ (.comp e t it cs kl) (mi.bind (compF f)) := fun ρ s => by
  unfold klOk at hk
  rw [Bool.and_eq_true] at hk
  rw [y_comp]
  refine (hI ρ s).bind fun xs ρ' s' => ?_
  unfold compF
  rw [List.length_map]
  by_cases hl : xs.length < szLim
  · rw [if_pos hl, if_pos ⟨hl, hk.1⟩]
    have r := fil_ok (xs := xs) hk.2 (fun x ρ s => hb x ρ s) (s'.kill hk.2)
    cases e2 : filMM f xs with
    | bad => trivial
    | exc c => rw [e2] at r; exact r.elim
    | ok ys =>
      rw [e2] at r
      obtain ⟨ρ2, e3, s3⟩ := r
      rw [e3]
      exact ⟨ρ2, rfl, s3⟩
  · rw [if_neg hl]
    trivial
def nx (m : M β) : M (Option β) := match m with
  | .ok y => .ok (some y)
  | _ => .bad
theorem bf_M {t : Tgt} {x : τ} {σ' : PEnv} {m : M β} (ht : TG C σ t x σ') (hw : Sub σ σ') (h : ME C σ' e m) : BF C σ e t .nil x (nx m) := fun ρ s => by
  obtain ⟨ρ1, e1, s1⟩ := ht ρ s
  have q := h ρ1 s1
  cases m with
  | bad => trivial
  | exc c => trivial
  | ok y =>
    obtain ⟨ρ2, e2, s2⟩ := q
    refine ⟨ρ2, ?_, hw.trans s2⟩
    show (ptgt C.io t (enc x) ρ).bind _ = _
    rw [e1, pb_ok, y_csn, pb_ok, if_pos rfl, e2]; rfl
def cnd (mc : M Bool) (m : M β) : M (Option β) := match mc with
  | .ok true => nx m
  | .ok false => .ok none
  | _ => .bad
theorem bf_C {t : Tgt} {x : τ} {σ' : PEnv} {mc : M Bool} {m : M β} {cd : IE} (ht : TG C σ t x σ') (hw : Sub σ σ') (hc : ME C σ' cd mc) (h : ME C σ' e m) : BF C σ e t (.cons cd .nil) x (cnd mc m) := fun ρ s => by
  obtain ⟨ρ1, e1, s1⟩ := ht ρ s
  have q := mt_of hc ρ1 s1
  cases mc with
  | bad => trivial
  | exc c => trivial
  | ok b =>
    obtain ⟨ρ2, e2, s2⟩ := q
    cases b with
    | false =>
      refine ⟨ρ2, ?_, hw.trans s2⟩
      show (ptgt C.io t (enc x) ρ).bind _ = _
      rw [e1, pb_ok, y_csc, e2]; rfl
    | true =>
      have q := h ρ2 s2
      cases m with
      | bad => trivial
      | exc c => trivial
      | ok y =>
        obtain ⟨ρ3, e3, s3⟩ := q
        refine ⟨ρ3, ?_, hw.trans s3⟩
        show (ptgt C.io t (enc x) ρ).bind _ = _
        rw [e1, pb_ok, y_csc, e2, pb_ok]
        show (if true = true then _ else _) = _
        rw [if_pos rfl, e3]; rfl
end
end Px
namespace Px
open PySem L2 Enc

/-! ### judgements: a block comes to a typed value -/
section
variable {α β γ δ τ ι S : Type}
def pvKs (C : PCtx) : List ISs → PEnv → RP PFl
  | [], ρ => .ok .nx ρ
  | ss :: stk, ρ => (pvSs C ss ρ).bind fun f ρ' => match f with
    | .nx => pvKs C stk ρ'
    | f => .ok f ρ'
/-- what is done behind a statement -/
def fK (C : PCtx) (stk : List ISs) : PFl → PEnv → RP PFl := fun f ρ' => match f with
    | .nx => pvKs C stk ρ'
    | f => .ok f ρ'
theorem pvKs_cons {C : PCtx} {s : IS} {ss : ISs} {stk : List ISs} {ρ : PEnv} : pvKs C (.cons s ss :: stk) ρ = (pvS C s ρ).bind (fK C (ss :: stk)) := by
  show (pvSs C (.cons s ss) ρ).bind (fK C stk) = _
  rw [S_cons, pb_assoc]
  congr 1
  funext f ρ'
  cases f <;> rfl
theorem pvKs_nil {C : PCtx} {stk : List ISs} {ρ : PEnv} : pvKs C (.nil :: stk) ρ = pvKs C stk ρ := by
  show (pvSs C .nil ρ).bind (fK C stk) = _
  rw [w_nil]; rfl
theorem pvKs_app {C : PCtx} {ss : ISs} {stk : List ISs} {ρ : PEnv} : pvKs C (ss :: stk) ρ = (pvSs C ss ρ).bind (fK C stk) := rfl
theorem pvKs_one {C : PCtx} {ss : ISs} {ρ : PEnv} : pvKs C [ss] ρ = pvSs C ss ρ := by
  show (pvSs C ss ρ).bind (fK C []) = _
  cases pvSs C ss ρ with
  | bad => rfl
  | exc c ρ => rfl
  | ok f ρ => cases f <;> rfl
def RX (X : PEnv → Prop) (m : M β) (post : β → γ → PEnv → Prop) (r : RP γ) : Prop := match m with
  | .bad => True
  | .exc c => ∃ ρ', r = .exc c ρ' ∧ X ρ'
  | .ok b => ∃ g ρ', r = .ok g ρ' ∧ post b g ρ'
theorem RX.bind {X : PEnv → Prop} {m : M α} {k : α → M β} {post : α → γ → PEnv → Prop} {post2 : β → δ → PEnv → Prop} {r : RP γ} {h : γ → PEnv → RP δ} (h1 : RX X m post r) (h2 : ∀ a g ρ', post a g ρ' → RX X (k a) post2 (h g ρ')) : RX X (m.bind k) post2 (r.bind h) := by
  cases m with
  | bad => trivial
  | exc c => obtain ⟨ρ', e, s⟩ := h1; rw [e]; exact ⟨ρ', rfl, s⟩
  | ok a => obtain ⟨g, ρ', e, s⟩ := h1; rw [e]; exact h2 a g ρ' s
theorem RX.of {X : PEnv → Prop} {m : M α} {k : α → M β} {f : α → γ} {σ : PEnv} {post : β → δ → PEnv → Prop} {r : RP γ} {h : γ → PEnv → RP δ} (h1 : RG f σ m r) (hX : ∀ ρ, Sub σ ρ → X ρ) (h2 : ∀ a ρ', Sub σ ρ' → RX X (k a) post (h (f a) ρ')) : RX X (m.bind k) post (r.bind h) := by
  cases m with
  | bad => trivial
  | exc c => obtain ⟨ρ', e, s⟩ := h1; rw [e]; exact ⟨ρ', rfl, hX _ s⟩
  | ok a => obtain ⟨ρ', e, s⟩ := h1; rw [e]; exact h2 a ρ' s
def KS (C : PCtx) (X : PEnv → Prop) (σ : PEnv) (stk : List ISs) (m : M β) (post : β → PFl → PEnv → Prop) : Prop := ∀ ρ, Sub σ ρ → RX X m post (pvKs C stk ρ)
def XT : PEnv → Prop := fun _ => True
/-! how a block ends -/
def PF [Enc α] : α → PFl → PEnv → Prop := fun a fl _ => fl = .rt (enc a) ∨ (fl = .nx ∧ enc a = .at .non)
def NX (st : S → PEnv) : S → PFl → PEnv → Prop := fun s fl ρ => fl = .nx ∧ Sub (st s) ρ
def LP (st : S → PEnv) : S → PFl → PEnv → Prop := fun s fl ρ => (fl = .nx ∨ fl = .ct) ∧ Sub (st s) ρ
def SP [Enc α] (st : S → PEnv) : Stp S α → PFl → PEnv → Prop := fun x fl ρ => match x with
  | .go s => (fl = .nx ∨ fl = .ct) ∧ Sub (st s) ρ
  | .stop s => fl = .bk ∧ Sub (st s) ρ
  | .ret a => fl = .rt (enc a)
def RT [Enc α] : α → PFl → PEnv → Prop := fun a fl _ => fl = .rt (enc a)
variable {C : PCtx} {X : PEnv → Prop} {σ ρ : PEnv} {e a b c : IE} {es : IEs} {it : Itr} {ss A B : ISs} {stk : List ISs} {post : β → PFl → PEnv → Prop} {m : M β} {i : Nat}
theorem xt : ∀ ρ, Sub σ ρ → XT ρ := fun _ _ => trivial
theorem xs {σx : PEnv} (h : Sub σx σ) : ∀ ρ, Sub σ ρ → Sub σx ρ := fun _ s => h.trans s
theorem ks_weak {σ' : PEnv} (h : Sub σ' σ) (k : KS C X σ' stk m post) : KS C X σ stk m post := fun ρ s => k ρ (h.trans s)
theorem ks_nil (k : KS C X σ stk m post) : KS C X σ (.nil :: stk) m post := fun ρ s => by rw [pvKs_nil]; exact k ρ s
/-! ends -/
theorem ke_F [Enc α] {v : α} (h : enc v = .at .non) : KS C X σ [] (.ok v) PF := fun ρ s => ⟨.nx, ρ, rfl, .inr ⟨rfl, h⟩⟩
theorem ke_N {st : S → PEnv} {s : S} (h : Sub (st s) σ) : KS C X σ [] (.ok s) (NX st) := fun ρ q => ⟨.nx, ρ, rfl, rfl, h.trans q⟩
theorem ke_L {st : S → PEnv} {s : S} (h : Sub (st s) σ) : KS C X σ [] (.ok s) (LP st) := fun ρ q => ⟨.nx, ρ, rfl, .inl rfl, h.trans q⟩
theorem ke_S [Enc α] {st : S → PEnv} {s : S} (h : Sub (st s) σ) : KS C X σ [] (.ok (.go s)) (SP (α := α) st) := fun ρ q => ⟨.nx, ρ, rfl, .inl rfl, h.trans q⟩
theorem kc_L {st : S → PEnv} {s : S} (h : Sub (st s) σ) : KS C X σ (.cons .cnt ss :: stk) (.ok s) (LP st) := fun ρ q => ⟨.ct, ρ, by rw [pvKs_cons, v_cnt]; rfl, .inr rfl, h.trans q⟩
theorem kc_S [Enc α] {st : S → PEnv} {s : S} (h : Sub (st s) σ) : KS C X σ (.cons .cnt ss :: stk) (.ok (.go s)) (SP (α := α) st) := fun ρ q => ⟨.ct, ρ, by rw [pvKs_cons, v_cnt]; rfl, .inr rfl, h.trans q⟩
theorem kb_S [Enc α] {st : S → PEnv} {s : S} (h : Sub (st s) σ) : KS C X σ (.cons .brk ss :: stk) (.ok (.stop s)) (SP (α := α) st) := fun ρ q => ⟨.bk, ρ, by rw [pvKs_cons, v_brk]; rfl, rfl, h.trans q⟩
theorem ks_rais {c : Nat} (hX : ∀ ρ, Sub σ ρ → X ρ) : KS C X σ (.cons (.rais c) ss :: stk) (.exc c : M β) post := fun ρ s => ⟨ρ, by rw [pvKs_cons, v_rais]; rfl, hX ρ s⟩
theorem ks_retP [Enc α] {v : α} {w : β} (h : PE C σ e v) (hp : ∀ ρ, post w (.rt (enc v)) ρ) : KS C X σ (.cons (.ret e) ss :: stk) (.ok w) post := fun ρ s => ⟨.rt (enc v), ρ, by rw [pvKs_cons, S_ret, h ρ s]; rfl, hp ρ⟩
theorem ks_retM [Enc α] {m : M α} {w : α → β} (h : ME C σ e m) (hp : ∀ v ρ, post (w v) (.rt (enc v)) ρ) (hX : ∀ ρ, Sub σ ρ → X ρ) : KS C X σ (.cons (.ret e) ss :: stk) (m.bind fun v => .ok (w v)) post := fun ρ s => by
  rw [pvKs_cons, S_ret, pb_assoc]
  refine RX.of (h ρ s) hX fun v ρ' s' => ⟨.rt (enc v), ρ', rfl, hp v ρ'⟩
theorem ks_retN {w : β} (hp : ∀ ρ, post w (.rt (.at .non)) ρ) : KS C X σ (.cons .retN ss :: stk) (.ok w) post := fun ρ s => ⟨.rt (.at .non), ρ, by rw [pvKs_cons, v_retN]; rfl, hp ρ⟩
theorem hp_F [Enc α] {v : α} : ∀ ρ : PEnv, PF v (.rt (enc v)) ρ := fun _ => .inl rfl
theorem hp_S [Enc α] {st : S → PEnv} {v : α} : ∀ ρ : PEnv, SP (α := α) st (.ret v) (.rt (enc v)) ρ := fun _ => rfl
theorem hp_R [Enc α] {v : α} : ∀ ρ : PEnv, RT v (.rt (enc v)) ρ := fun _ => rfl
/-! statements -/
theorem ks_pas (k : KS C X σ (ss :: stk) m post) : KS C X σ (.cons .pas ss :: stk) m post := fun ρ s => by rw [pvKs_cons, v_pas]; exact k ρ s
theorem ks_frz {i : Nat} (k : KS C X σ (ss :: stk) m post) : KS C X σ (.cons (.frz i) ss :: stk) m post := fun ρ s => by rw [pvKs_cons, v_frz]; exact k ρ s
theorem ks_asgP [Enc α] {v : α} {k : α → M β} (h : PE C σ e v) (hi : okI C.io σ i = true) (hk : ∀ v : α, KS C X (σ.set i (some (enc v))) (ss :: stk) (k v) post) : KS C X σ (.cons (.asg i e) ss :: stk) (M.lt v k) post := fun ρ s => by
  obtain ⟨h1, h2⟩ := okI_1 hi s
  rw [pvKs_cons, S_asg, if_neg h1, h ρ s, pb_ok, fAsg_, if_pos h2]
  exact hk v _ s.set
theorem ks_asgM [Enc α] {m : M α} {k : α → M β} (h : ME C σ e m) (hi : okI C.io σ i = true) (hX : ∀ ρ, Sub σ ρ → X ρ) (hk : ∀ v : α, KS C X (σ.set i (some (enc v))) (ss :: stk) (k v) post) : KS C X σ (.cons (.asg i e) ss :: stk) (m.bind k) post := fun ρ s => by
  obtain ⟨h1, h2⟩ := okI_1 hi s
  rw [pvKs_cons, S_asg, if_neg h1, pb_assoc]
  refine RX.of (h ρ s) hX fun v ρ' s' => ?_
  rw [fAsg_, if_pos (okI_1 hi s').2]
  exact hk v _ s'.set
theorem ks_asgT [Enc α] {m : M α} {k : α → M β} {is : List Nat} {st : α → PEnv} (h : ME C σ e m) (ht : ∀ v, TG C σ (.many is) v (st v)) (hd : ∀ v : α, ∃ ds, enc v = .nd .tup ds) (hX : ∀ ρ, Sub σ ρ → X ρ) (hk : ∀ v : α, KS C X (st v) (ss :: stk) (k v) post) : KS C X σ (.cons (.asgT is e) ss :: stk) (m.bind k) post := fun ρ s => by
  rw [pvKs_cons, S_asgT, pb_assoc]
  refine RX.of (h ρ s) hX fun v ρ' s' => ?_
  obtain ⟨ds, e1⟩ := hd v
  obtain ⟨ρ2, e2, s2⟩ := ht v ρ' s'
  rw [e1] at e2 ⊢
  rw [fAT1_, e2]
  exact hk v _ s2
theorem ks_expM [Enc α] {m : M α} {k : α → M β} (h : ME C σ e m) (hX : ∀ ρ, Sub σ ρ → X ρ) (hk : ∀ v : α, KS C X σ (ss :: stk) (k v) post) : KS C X σ (.cons (.expr e) ss :: stk) (m.bind k) post := fun ρ s => by
  rw [pvKs_cons, S_expr, pb_assoc]
  exact RX.of (h ρ s) hX fun v ρ' s' => hk v _ s'
/-! lists that grow -/
def app (xs : List α) (v : α) : M (List α) := if xs.length < szLim then .ok (xs ++ [v]) else .bad
def ext (xs ys : List α) : M (List α) := if xs.length + ys.length ≤ szLim then .ok (xs ++ ys) else .bad
def setL (xs : List α) (n : Int) (v : α) : M (List α) := match ixN xs.length n with
  | some j => .ok (xs.set j v)
  | none => .bad
def popL (xs : List α) : M (α × List α) := match xs.getLast? with
  | some x => .ok (x, xs.dropLast)
  | none => .bad
def popK (xs : List α) (k : α → List α → M β) : M β := (popL xs).bind fun p => k p.1 p.2
theorem slot_lt {σ : PEnv} {i : Nat} {d : D} (h : pslot σ i = some d) : i < σ.length := by
  unfold pslot at h
  by_cases hl : i < σ.length
  · exact hl
  · rw [List.getElem?_eq_none (by omega)] at h; cases h
/-- a mutation: what it makes of the slot -/
theorem mut_run {mo : MOp} {vals : ι → List D} {m1 : M ι} {d : D} {w : ι → M τ} {f : τ → D} {g : τ → D} {k : τ → D → PEnv → RP PFl} {kk : τ → M β} (hv : MV C σ es m1 vals) (hs : pslot σ i = some d) (hl : ∃ ds, d = .nd .lst ds) (hX : ∀ ρ, Sub σ ρ → X ρ)
    (hw : ∀ x y, w x = .ok y → pmut mo d (vals x) = some (g y, f y)) (hx : ∀ x c, w x ≠ .exc c)
    (hk : ∀ (y : τ) ρ', Sub (σ.set i (some (f y))) ρ' → RX X (kk y) post (k y (g y) ρ')) (s : Sub σ ρ) {kr : D → PEnv → RP PFl} (hkr : ∀ y, kr = k y) :
    RX X (m1.bind fun x => (w x).bind kk) post ((pvE C (.mut mo i es) ρ).bind kr) := by
  obtain ⟨ds, e0⟩ := hl
  rw [R_mut, plst_d, s.slot hs, e0]
  dsimp only
  rw [if_pos rfl, pb_assoc]
  refine RX.of (hv ρ s) hX fun x ρ' s' => ?_
  rw [fMut_, s'.slot hs]
  dsimp only
  cases e1 : w x with
  | bad => trivial
  | exc c => exact absurd e1 (hx x c)
  | ok y =>
    rw [hw x y e1]
    dsimp only
    rw [pb_ok, hkr y]
    exact hk y _ s'.set
section
variable [Enc α] {xs ys : List α} {v : α}
theorem enc_lst : ∃ ds, (enc xs : D) = .nd .lst ds := ⟨_, rfl⟩
theorem ks_app {mv : M α} {k : List α → M β} (hs : pslot σ i = some (enc xs)) (h : ME C σ e mv) (hX : ∀ ρ, Sub σ ρ → X ρ) (hk : ∀ ys : List α, KS C X (σ.set i (some (enc ys))) (ss :: stk) (k ys) post) : KS C X σ (.cons (.expr (.mut .append i (.cons e .nil))) ss :: stk) (mv.bind fun v => (app xs v).bind k) post := fun ρ s => by
  rw [pvKs_cons, S_expr, pb_assoc]
  refine mut_run (mo := .append) (τ := List α) (w := fun v => app xs v) (f := enc) (g := fun _ => .at .non) (k := fun _ _ ρ' => pvKs C (ss :: stk) ρ') (mv_M h pv_nil) hs enc_lst hX (fun x y hy => ?_) (fun x c => ?_) (fun y ρ' s' => hk y ρ' s') s (fun _ => rfl)
  · unfold app at hy
    split at hy
    · rename_i hl
      cases hy
      show pmut .append (.nd .lst (xs.map enc)) [enc x] = some (_, D.nd .lst ((xs ++ [x]).map enc))
      rw [pmut, if_pos (by rw [List.length_map]; exact hl), List.map_append]
      rfl
    · cases hy
  · unfold app; split <;> (intro z; cases z)
theorem ks_ext {mv : M (List α)} {k : List α → M β} (hs : pslot σ i = some (enc xs)) (h : ME C σ e mv) (hX : ∀ ρ, Sub σ ρ → X ρ) (hk : ∀ ys : List α, KS C X (σ.set i (some (enc ys))) (ss :: stk) (k ys) post) : KS C X σ (.cons (.expr (.mut .extend i (.cons e .nil))) ss :: stk) (mv.bind fun ys => (ext xs ys).bind k) post := fun ρ s => by
  rw [pvKs_cons, S_expr, pb_assoc]
  refine mut_run (mo := .extend) (τ := List α) (w := fun v => ext xs v) (f := enc) (g := fun _ => .at .non) (k := fun _ _ ρ' => pvKs C (ss :: stk) ρ') (mv_M h pv_nil) hs enc_lst hX (fun x y hy => ?_) (fun x c => ?_) (fun y ρ' s' => hk y ρ' s') s (fun _ => rfl)
  · unfold ext at hy
    split at hy
    · rename_i hl
      cases hy
      show pmut .extend (.nd .lst (xs.map enc)) [.nd .lst (x.map enc)] = some (_, D.nd .lst ((xs ++ x).map enc))
      rw [pmut, if_pos (by rw [List.length_map, List.length_map]; exact hl), List.map_append]
    · cases hy
  · unfold ext; split <;> (intro z; cases z)
theorem ks_clr {k : List α → M β} (hs : pslot σ i = some (enc xs)) (hX : ∀ ρ, Sub σ ρ → X ρ) (hk : ∀ ys : List α, KS C X (σ.set i (some (enc ys))) (ss :: stk) (k ys) post) : KS C X σ (.cons (.expr (.mut .clear i .nil)) ss :: stk) (M.lt [] k) post := fun ρ s => by
  rw [pvKs_cons, S_expr, pb_assoc]
  exact mut_run (mo := .clear) (m1 := .ok ()) (vals := fun _ => []) (τ := List α) (w := fun _ => .ok []) (f := enc) (g := fun _ => .at .non) (k := fun _ _ ρ' => pvKs C (ss :: stk) ρ') (fun ρ s => ⟨ρ, y_esn, s⟩) hs enc_lst hX (fun x y hy => by cases hy; rfl) (fun x c z => by cases z) (fun y ρ' s' => hk y ρ' s') s (fun _ => rfl)
theorem popL_pm {x : α × List α} (h : popL xs = .ok x) : pmut .pop (enc xs) [] = some (enc x.1, enc x.2) := by
  unfold popL at h
  show ((xs.map enc).getLast?.map fun d => (d, D.nd .lst (xs.map enc).dropLast)) = _
  cases e1 : xs.getLast? with
  | none => rw [e1] at h; cases h
  | some y =>
    rw [e1] at h
    cases h
    rw [List.getLast?_map, e1, ← List.map_dropLast]
    rfl
theorem popL_x {c : Nat} : popL xs ≠ .exc c := by unfold popL; split <;> (intro z; cases z)
theorem ks_pop {k : List α → M β} (hs : pslot σ i = some (enc xs)) (hX : ∀ ρ, Sub σ ρ → X ρ) (hk : ∀ ys : List α, KS C X (σ.set i (some (enc ys))) (ss :: stk) (k ys) post) : KS C X σ (.cons (.expr (.mut .pop i .nil)) ss :: stk) (popK xs fun _ => k) post := fun ρ s => by
  rw [pvKs_cons, S_expr, pb_assoc]
  exact mut_run (mo := .pop) (m1 := .ok ()) (vals := fun _ => []) (τ := α × List α) (w := fun _ => popL xs) (f := fun p => enc p.2) (g := fun p => enc p.1) (k := fun _ _ ρ' => pvKs C (ss :: stk) ρ') (kk := fun p => k p.2) (fun ρ s => ⟨ρ, y_esn, s⟩) hs enc_lst hX (fun x y hy => popL_pm hy) (fun x c => popL_x) (fun y ρ' s' => hk y.2 ρ' s') s (fun _ => rfl)
theorem ks_asgPop {j : Nat} {k : α → List α → M β} (hs : pslot σ i = some (enc xs)) (hj : okI C.io σ j = true) (hX : ∀ ρ, Sub σ ρ → X ρ) (hk : ∀ (v : α) (ys : List α), KS C X ((σ.set i (some (enc ys))).set j (some (enc v))) (ss :: stk) (k v ys) post) : KS C X σ (.cons (.asg j (.mut .pop i .nil)) ss :: stk) (popK xs k) post := fun ρ s => by
  obtain ⟨h1, h2⟩ := okI_1 hj s
  rw [pvKs_cons, S_asg, if_neg h1, pb_assoc]
  refine mut_run (mo := .pop) (m1 := .ok ()) (vals := fun _ => []) (τ := α × List α) (w := fun _ => popL xs) (f := fun p => enc p.2) (g := fun p => enc p.1) (k := fun _ v ρ' => (fAsg j v ρ').bind (fK C (ss :: stk))) (kk := fun p => k p.1 p.2) (fun ρ s => ⟨ρ, y_esn, s⟩) hs enc_lst hX (fun x y hy => popL_pm hy) (fun x c => popL_x) (fun y ρ' s' => ?_) s (fun _ => rfl)
  rw [fAsg_, if_pos (by rw [← s'.len, List.length_set, s.len]; exact h2)]
  exact hk y.1 y.2 _ s'.set
theorem setL_pm {n : Int} {y : List α} (h : setL xs n v = .ok y) : pmut .setIx (enc xs) [enc v, enc n] = some (.at .non, enc y) := by
  unfold setL at h
  show ((ixN (xs.map enc).length n).map fun j => (D.non, D.nd .lst ((xs.map enc).set j (enc v)))) = _
  rw [List.length_map]
  cases e : ixN xs.length n with
  | none => rw [e] at h; cases h
  | some j =>
    rw [e] at h
    cases h
    show some (D.non, D.nd .lst ((xs.map enc).set j (enc v))) = some (D.non, D.nd .lst ((xs.set j v).map enc))
    rw [List.map_set]
theorem ks_set {kx : IE} {mv : M α} {mk : M Int} {k : List α → M β} (hs : pslot σ i = some (enc xs)) (h : ME C σ e mv) (hkx : ME C σ kx mk) (hX : ∀ ρ, Sub σ ρ → X ρ) (hk : ∀ ys : List α, KS C X (σ.set i (some (enc ys))) (ss :: stk) (k ys) post) : KS C X σ (.cons (.setIx i kx e) ss :: stk) (mv.bind fun v => mk.bind fun n => (setL xs n v).bind k) post := fun ρ s => by
  rw [pvKs_cons, S_setIx, pb_assoc]
  refine RX.of (h ρ s) hX fun v ρ1 s1 => ?_
  rw [fSI1_, pcon_d, s1.slot hs]
  show RX X _ post ((if true = true then (popd kx ρ1 (pvE C kx ρ1)).bind (fSI2 i (enc v)) else .bad).bind _)
  rw [if_pos rfl, pb_assoc]
  have q := mopd_of hkx s1
  cases mk with
  | bad => trivial
  | exc c => obtain ⟨ρ', e1, s2⟩ := q; rw [e1]; exact ⟨ρ', rfl, hX _ s2⟩
  | ok n =>
    obtain ⟨o, ρ2, e1, s2, g⟩ := q
    rw [e1, pb_ok, fSI2_, g ρ2 s2, s2.slot hs]
    dsimp only
    show RX X ((setL xs n v).bind k) post _
    cases e2 : setL xs n v with
    | bad => trivial
    | exc c => unfold setL at e2; split at e2 <;> cases e2
    | ok y =>
      rw [setL_pm e2]
      exact hk y _ s2.set
end
theorem ks_augP {x v : Int} {o : Op} {r : Int} {k : Int → M β} (hs : pslot σ i = some (enc x)) (h : PE C σ e v) (ho : augOk o = true) (hr : opSem o [enc x, enc v] = some (enc r)) (hi : okI C.io σ i = true) (hk : ∀ v : Int, KS C X (σ.set i (some (enc v))) (ss :: stk) (k v) post) : KS C X σ (.cons (.aug i o e) ss :: stk) (M.lt r k) post := fun ρ s => by
  obtain ⟨h1, h2⟩ := okI_1 hi s
  obtain ⟨oo, e1, g⟩ := opd_of h s
  have hr : opSem o [D.at (.int x), enc v] = some (.at (.int r)) := hr
  rw [pvKs_cons, S_aug, if_neg (by rw [ho]; simpa using h1), s.slot hs]
  show RX X _ post (((popd e ρ (pvE C e ρ)).bind (fAug i o (.int x))).bind _)
  rw [e1, pb_ok, fAug_, g ρ s]
  dsimp only
  rw [hr]
  dsimp only
  rw [if_pos h2]
  exact hk r _ s.set
theorem ks_augM {x : Int} {o : Op} {mv : M Int} {r : Int → Int} {k : Int → M β} (hs : pslot σ i = some (enc x)) (h : ME C σ e mv) (ho : augOk o = true) (hr : ∀ v : Int, opSem o [enc x, enc v] = some (enc (r v))) (hi : okI C.io σ i = true) (hX : ∀ ρ, Sub σ ρ → X ρ) (hk : ∀ v : Int, KS C X (σ.set i (some (enc v))) (ss :: stk) (k v) post) : KS C X σ (.cons (.aug i o e) ss :: stk) (mv.bind fun v => M.lt (r v) k) post := fun ρ s => by
  obtain ⟨h1, h2⟩ := okI_1 hi s
  have q := mopd_of h s
  rw [pvKs_cons, S_aug, if_neg (by rw [ho]; simpa using h1), s.slot hs]
  show RX X _ post (((popd e ρ (pvE C e ρ)).bind (fAug i o (.int x))).bind _)
  cases mv with
  | bad => trivial
  | exc c => obtain ⟨ρ', e1, s2⟩ := q; rw [e1]; exact ⟨ρ', rfl, hX _ s2⟩
  | ok v =>
    obtain ⟨oo, ρ', e1, s2, g⟩ := q
    have hr : opSem o [D.at (.int x), enc v] = some (.at (.int (r v))) := hr v
    rw [e1, pb_ok, fAug_, g ρ' s2]
    dsimp only
    rw [hr]
    dsimp only
    rw [if_pos (okI_1 hi s2).2]
    exact hk (r v) _ s2.set
/-! branches -/
theorem RX.map {m : M α} {post2 : α → PFl → PEnv → Prop} {r : RP PFl} {k : α → M β} (h : RX X m post2 r) (hk : ∀ a f ρ', post2 a f ρ' → RX X (k a) post (fK C stk f ρ')) : RX X (m.bind k) post (r.bind (fK C stk)) := h.bind hk
theorem ks_if {x : Bool} {mA mB : M β} (h : PE C σ c x) (hA : KS C X σ (A :: ss :: stk) mA post) (hB : KS C X σ (B :: ss :: stk) mB post) : KS C X σ (.cons (.ifs c A B) ss :: stk) (if x then mA else mB) post := fun ρ s => by
  rw [pvKs_cons, S_ifs, pt_of h ρ s, pb_ok, fIfs_]
  cases x
  · exact hB ρ s
  · exact hA ρ s
theorem ks_ifM {m : M Bool} {mA mB : M β} (h : ME C σ c m) (hX : ∀ ρ, Sub σ ρ → X ρ) (hA : KS C X σ (A :: ss :: stk) mA post) (hB : KS C X σ (B :: ss :: stk) mB post) : KS C X σ (.cons (.ifs c A B) ss :: stk) (m.bind fun x => if x then mA else mB) post := fun ρ s => by
  rw [pvKs_cons, S_ifs, pb_assoc]
  refine RX.of (mt_of h ρ s) hX fun x ρ' s' => ?_
  rw [fIfs_]
  cases x
  · exact hB ρ' s'
  · exact hA ρ' s'
theorem ks_join {st : S → PEnv} {m : M S} {k : S → M β} {r : RP PFl} (h : RX X m (NX st) r) (hk : ∀ s, KS C X (st s) (ss :: stk) (k s) post) : RX X (m.bind k) post (r.bind (fK C (ss :: stk))) := h.bind fun s f ρ' q => by
  rw [q.1]
  exact hk s ρ' q.2
theorem ks_ifJ {x : Bool} {mA mB : M S} {st : S → PEnv} {k : S → M β} (h : PE C σ c x) (hA : KS C X σ [A] mA (NX st)) (hB : KS C X σ [B] mB (NX st)) (hk : ∀ s, KS C X (st s) (ss :: stk) (k s) post) : KS C X σ (.cons (.ifs c A B) ss :: stk) ((if x then mA else mB).bind k) post := fun ρ s => by
  rw [pvKs_cons, S_ifs, pt_of h ρ s, pb_ok, fIfs_]
  have qA := hA ρ s
  have qB := hB ρ s
  rw [pvKs_one] at qA qB
  cases x
  · exact ks_join qB hk
  · exact ks_join qA hk
theorem ks_ifJM {m : M Bool} {mA mB : M S} {st : S → PEnv} {k : S → M β} (h : ME C σ c m) (hX : ∀ ρ, Sub σ ρ → X ρ) (hA : KS C X σ [A] mA (NX st)) (hB : KS C X σ [B] mB (NX st)) (hk : ∀ s, KS C X (st s) (ss :: stk) (k s) post) : KS C X σ (.cons (.ifs c A B) ss :: stk) (m.bind fun x => (if x then mA else mB).bind k) post := fun ρ s => by
  rw [pvKs_cons, S_ifs, pb_assoc]
  refine RX.of (mt_of h ρ s) hX fun x ρ' s' => ?_
  rw [fIfs_]
  have qA := hA ρ' s'
  have qB := hB ρ' s'
  rw [pvKs_one] at qA qB
  cases x
  · exact ks_join qB hk
  · exact ks_join qA hk
/-! loops -/
/-- a loop's body with its target -/
def TB [Enc τ] (C : PCtx) (X : PEnv → Prop) (σ : PEnv) (t : Tgt) (b : ISs) (x : τ) (m : M β) (post : β → PFl → PEnv → Prop) : Prop := ∀ ρ, Sub σ ρ → RX X m post (pforB C t b (enc x) ρ)
theorem tb_of [Enc τ] {t : Tgt} {x : τ} {σ' : PEnv} (ht : TG C σ t x σ') (h : KS C X σ' [A] m post) : TB C X σ t A x m post := fun ρ s => by
  obtain ⟨ρ', e1, s1⟩ := ht ρ s
  rw [S_forB, e1, pb_ok, fBd_, ← pvKs_one]
  exact h ρ' s1
theorem fold_ok [Enc τ] {st : S → PEnv} {body : D → PEnv → RP PFl} {kl : List Nat} {f : τ → S → M S} (hk : ∀ s, noneAt (st s) kl = true) (hb : ∀ x s ρ, Sub (st s) ρ → RX X (f x s) (LP st) (body (enc x) ρ)) :
    ∀ {xs : List τ} {s : S} {ρ : PEnv}, Sub (st s) ρ → RX X (foldM f xs s) (NX st) (pforL body (pkillF kl) (xs.map enc) ρ)
  | [], s, ρ, q => ⟨.nx, pkillF kl ρ, rfl, rfl, q.kill (hk s)⟩
  | x :: xs, s, ρ, q => by
    have r := hb x s ρ q
    rw [List.map_cons]
    unfold foldM pforL
    cases e : f x s with
    | bad => trivial
    | exc c => rw [e] at r; obtain ⟨ρ', e1, s1⟩ := r; rw [e1]; exact ⟨ρ', rfl, s1⟩
    | ok s2 =>
      rw [e] at r
      obtain ⟨fl, ρ', e1, hf, s1⟩ := r
      rw [e1]
      have := fold_ok (xs := xs) hk hb (s1.kill (hk s2))
      rcases hf with rfl | rfl <;> exact this
theorem ks_for [Enc τ] {t : Tgt} {kl : List Nat} {mi : M (List τ)} {st : S → PEnv} {f : τ → S → M S} {k : S → M β} (s0 : S) (hI : MI C σ it mi) (hX : ∀ ρ, Sub σ ρ → X ρ) (h0 : Sub (st s0) σ) (hk : ∀ s, noneAt (st s) kl = true)
    (hb : ∀ x s, TB C X (st s) t A x (f x s) (LP st)) (hr : ∀ s, KS C X (st s) (ss :: stk) (k s) post) : KS C X σ (.cons (.fr t it A kl) ss :: stk) (mi.bind fun xs => (foldM f xs s0).bind k) post := fun ρ s => by
  rw [pvKs_cons, S_for, pb_assoc]
  refine RX.of (hI ρ s) hX fun xs ρ' s' => ?_
  rw [fFor_]
  exact ks_join (fold_ok hk (fun x s ρ q => hb x s ρ q) (h0.trans s')) hr
def LR [Enc α] (st : S → PEnv) : Lp S α → PFl → PEnv → Prop := fun x fl ρ => match x with
  | .fin s => fl = .nx ∧ Sub (st s) ρ
  | .ret a => fl = .rt (enc a)
theorem foldR_ok [Enc τ] [Enc α] {st : S → PEnv} {body : D → PEnv → RP PFl} {kl : List Nat} {f : τ → S → M (Stp S α)} (hk : ∀ s, noneAt (st s) kl = true) (hb : ∀ x s ρ, Sub (st s) ρ → RX X (f x s) (SP st) (body (enc x) ρ)) :
    ∀ {xs : List τ} {s : S} {ρ : PEnv}, Sub (st s) ρ → RX X (foldR f xs s) (LR st) (pforL body (pkillF kl) (xs.map enc) ρ)
  | [], s, ρ, q => ⟨.nx, pkillF kl ρ, rfl, rfl, q.kill (hk s)⟩
  | x :: xs, s, ρ, q => by
    have r := hb x s ρ q
    rw [List.map_cons]
    unfold foldR pforL
    cases e : f x s with
    | bad => trivial
    | exc c => rw [e] at r; obtain ⟨ρ', e1, s1⟩ := r; rw [e1]; exact ⟨ρ', rfl, s1⟩
    | ok s2 =>
      rw [e] at r
      cases s2 with
      | go s2 =>
        obtain ⟨fl, ρ', e1, hf, s1⟩ := r
        rw [e1]
        have := foldR_ok (xs := xs) hk hb (s1.kill (hk s2))
        rcases hf with rfl | rfl <;> exact this
      | stop s2 =>
        obtain ⟨fl, ρ', e1, rfl, s1⟩ := r
        rw [e1]
        exact ⟨.nx, pkillF kl ρ', rfl, rfl, s1.kill (hk s2)⟩
      | ret v =>
        obtain ⟨fl, ρ', e1, hf⟩ := r
        have hf : fl = .rt (enc v) := hf
        subst hf
        rw [e1]
        exact ⟨_, ρ', rfl, rfl⟩
theorem ks_lp [Enc α] {st : S → PEnv} {m : M (Lp S α)} {k : S → M β} {h : α → M β} {r : RP PFl} (q : RX X m (LR st) r) (hk : ∀ s, KS C X (st s) (ss :: stk) (k s) post) (hh : ∀ v, ∃ w, h v = .ok w ∧ ∀ ρ, post w (.rt (enc v)) ρ) : RX X (M.lp m k h) post (r.bind (fK C (ss :: stk))) := by
  cases m with
  | bad => trivial
  | exc c => obtain ⟨ρ', e, s⟩ := q; rw [e]; exact ⟨ρ', rfl, s⟩
  | ok a =>
    obtain ⟨g, ρ', e, s⟩ := q
    rw [e]
    cases a with
    | fin s1 => obtain ⟨rfl, s2⟩ := s; exact hk s1 ρ' s2
    | ret v =>
      have s : g = .rt (enc v) := s
      subst s
      obtain ⟨w, e1, e2⟩ := hh v
      show RX X (h v) post _
      rw [e1]
      exact ⟨_, ρ', rfl, e2 ρ'⟩
theorem ks_forR [Enc τ] [Enc α] {t : Tgt} {kl : List Nat} {mi : M (List τ)} {st : S → PEnv} {f : τ → S → M (Stp S α)} {k : S → M β} {h : α → M β} (s0 : S) (hI : MI C σ it mi) (hX : ∀ ρ, Sub σ ρ → X ρ) (h0 : Sub (st s0) σ) (hk : ∀ s, noneAt (st s) kl = true)
    (hb : ∀ x s, TB C X (st s) t A x (f x s) (SP st)) (hh : ∀ v, ∃ w, h v = .ok w ∧ ∀ ρ, post w (.rt (enc v)) ρ) (hr : ∀ s, KS C X (st s) (ss :: stk) (k s) post) : KS C X σ (.cons (.fr t it A kl) ss :: stk) (mi.bind fun xs => (foldR f xs s0).lp k h) post := fun ρ s => by
  rw [pvKs_cons, S_for, pb_assoc]
  refine RX.of (hI ρ s) hX fun xs ρ' s' => ?_
  rw [fFor_]
  exact ks_lp (foldR_ok hk (fun x s ρ q => hb x s ρ q) (h0.trans s')) hr hh
theorem whlR_ok [Enc α] {st : S → PEnv} {test : PEnv → RP Bool} {body : PEnv → RP PFl} {kl : List Nat} {t : S → M Bool} {f : S → M (Stp S α)} (hk : ∀ s, noneAt (st s) kl = true) (hX : ∀ s ρ, Sub (st s) ρ → X ρ) (ht : ∀ s ρ, Sub (st s) ρ → RG id (st s) (t s) (test ρ)) (hb : ∀ s ρ, Sub (st s) ρ → RX X (f s) (SP st) (body ρ)) :
    ∀ {n : Nat} {s : S} {ρ : PEnv}, Sub (st s) ρ → RX X (whlR t f n s) (LR st) (pwhlL test body (pkillF kl) n ρ)
  | 0, s, ρ, q => trivial
  | n + 1, s, ρ, q => by
    have r0 := ht s ρ q
    unfold whlR pwhlL
    cases e0 : t s with
    | bad => trivial
    | exc c => rw [e0] at r0; obtain ⟨ρ', e1, s1⟩ := r0; rw [e1]; exact ⟨ρ', rfl, hX _ _ s1⟩
    | ok b =>
      rw [e0] at r0
      obtain ⟨ρ0, e1, q⟩ := r0
      rw [e1]
      cases b with
      | false => exact ⟨.nx, pkillF kl ρ0, rfl, rfl, q.kill (hk s)⟩
      | true =>
        have r := hb s ρ0 q
        dsimp only [id]
        cases e : f s with
        | bad => trivial
        | exc c => rw [e] at r; obtain ⟨ρ', e1, s1⟩ := r; rw [e1]; exact ⟨ρ', rfl, s1⟩
        | ok s2 =>
          rw [e] at r
          cases s2 with
          | go s2 =>
            obtain ⟨fl, ρ', e1, hf, s1⟩ := r
            rw [e1]
            have := whlR_ok (n := n) hk hX ht hb (s1.kill (hk s2))
            rcases hf with rfl | rfl <;> exact this
          | stop s2 =>
            obtain ⟨fl, ρ', e1, rfl, s1⟩ := r
            rw [e1]
            exact ⟨.nx, pkillF kl ρ', rfl, rfl, s1.kill (hk s2)⟩
          | ret v =>
            obtain ⟨fl, ρ', e1, hf⟩ := r
            have hf : fl = .rt (enc v) := hf
            subst hf
            rw [e1]
            exact ⟨_, ρ', rfl, rfl⟩
theorem ks_whl [Enc α] {kl : List Nat} {st : S → PEnv} {t : S → M Bool} {f : S → M (Stp S α)} {k : S → M β} {h : α → M β} (s0 : S) (hX : ∀ s ρ, Sub (st s) ρ → X ρ) (h0 : Sub (st s0) σ) (hk : ∀ s, noneAt (st s) kl = true) (ht : ∀ s, ME C (st s) c (t s))
    (hb : ∀ s, KS C X (st s) [A] (f s) (SP st)) (hh : ∀ v, ∃ w, h v = .ok w ∧ ∀ ρ, post w (.rt (enc v)) ρ) (hr : ∀ s, KS C X (st s) (ss :: stk) (k s) post) : KS C X σ (.cons (.whl c A kl) ss :: stk) ((whlR t f C.fuel s0).lp k h) post := fun ρ s => by
  rw [pvKs_cons, v_whl]
  exact ks_lp (whlR_ok hk hX (fun s ρ q => mt_of (ht s) ρ q) (fun s ρ q => pvKs_one ▸ hb s ρ q) (h0.trans s)) hr hh
theorem hh_F [Enc α] : ∀ v : α, ∃ w, (M.ok v : M α) = .ok w ∧ ∀ ρ : PEnv, PF w (.rt (enc v)) ρ := fun v => ⟨v, rfl, hp_F⟩
theorem hh_S [Enc α] {st : S → PEnv} : ∀ v : α, ∃ w, (M.ok (.ret v) : M (Stp S α)) = .ok w ∧ ∀ ρ : PEnv, SP st w (.rt (enc v)) ρ := fun v => ⟨_, rfl, hp_S⟩
theorem hh_R [Enc α] : ∀ v : α, ∃ w, (M.ok v : M α) = .ok w ∧ ∀ ρ : PEnv, RT w (.rt (enc v)) ρ := fun v => ⟨v, rfl, hp_R⟩
/-! refusals -/
theorem ks_try {c : Nat} {σx : PEnv} {mb : M S} {st : S → PEnv} {mh : M β} {k : S → M β} (hb : KS C (Sub σx) σ [A] mb (NX st)) (hh : KS C X σx (B :: ss :: stk) mh post) (hk : ∀ s, KS C X (st s) (ss :: stk) (k s) post) : KS C X σ (.cons (.tr A c B) ss :: stk) (M.tryc mb c mh k) post := fun ρ s => by
  rw [pvKs_cons, S_try]
  have q := hb ρ s
  rw [pvKs_one] at q
  cases mb with
  | bad => trivial
  | exc c' =>
    obtain ⟨ρ', e, s1⟩ := q
    rw [e, tryR_exc]
    unfold M.tryc
    dsimp only
    by_cases hc : c' = c ∨ c = 0
    · rw [if_pos hc, if_pos hc]
      exact hh ρ' s1
    · rw [if_neg hc]; trivial
  | ok a =>
    obtain ⟨g, ρ', e, rfl, s1⟩ := q
    rw [e, tryR_ok]
    exact hk a ρ' s1
theorem ks_tryR [Enc α] {c : Nat} {σx : PEnv} {mb : M α} {mh : M β} {h : α → M β} (hb : KS C (Sub σx) σ [A] mb RT) (hh : KS C X σx (B :: ss :: stk) mh post) (hk : ∀ v, ∃ w, h v = .ok w ∧ ∀ ρ, post w (.rt (enc v)) ρ) : KS C X σ (.cons (.tr A c B) ss :: stk) (M.tryc mb c mh h) post := fun ρ s => by
  rw [pvKs_cons, S_try]
  have q := hb ρ s
  rw [pvKs_one] at q
  cases mb with
  | bad => trivial
  | exc c' =>
    obtain ⟨ρ', e, s1⟩ := q
    rw [e, tryR_exc]
    unfold M.tryc
    dsimp only
    by_cases hc : c' = c ∨ c = 0
    · rw [if_pos hc, if_pos hc]
      exact hh ρ' s1
    · rw [if_neg hc]; trivial
  | ok a =>
    obtain ⟨g, ρ', e, hg⟩ := q
    have hg : g = .rt (enc a) := hg
    subst hg
    rw [e, tryR_ok]
    obtain ⟨w, e1, e2⟩ := hk a
    show RX X (h a) post _
    rw [e1]
    exact ⟨_, ρ', rfl, e2 ρ'⟩
/-! defs -/
theorem cs_of [Enc α] {m : M α} {fd : FD} {b : Bool} (h : KS C XT σ [fd.body] m PF) (hio : fd.io = []) (hs : Sub σ ρ) (hb : b = true → ∀ v : α, ∃ t, enc v = .at t) : CS m (patOk b (pretF fd (pvSs C fd.body ρ))) := by
  refine ⟨?_⟩
  have q := h ρ hs
  rw [pvKs_one] at q
  cases m with
  | bad => trivial
  | exc c => obtain ⟨ρ', e, _⟩ := q; rw [e, pretF_exc, patOk_exc]; rfl
  | ok v =>
    obtain ⟨g, ρ', e, hg⟩ := q
    have : pretF fd (pvSs C fd.body ρ) = .ok (enc v) [] := by
      rw [e]
      rcases hg with rfl | ⟨rfl, hv⟩
      · rw [pretF_rt, hio]; rfl
      · rw [pretF_nx, hio, hv]; rfl
    rw [this]
    show patOk b _ = _
    cases b with
    | false => rw [patOk_no]
    | true => obtain ⟨t, e2⟩ := hb rfl v; rw [e2, patOk_at]
end
end Px
namespace Px
open PySem L2
/-! ### reasoning by data: operations -/
section
variable {α β : Type}
theorem log2_lt {n k : Nat} (h : n < 2 ^ k) (hk : 0 < k) : n.log2 < k := by
  by_cases h0 : n = 0
  · subst h0; simpa using hk
  · exact (Nat.log2_lt h0).mpr h
theorem mulOk_of {a b : Int} (ha : a.natAbs < 2 ^ 1000) (hb : b.natAbs < 2 ^ 1000) : mulOk a b = true := by
  unfold mulOk
  have h1 := log2_lt ha (by decide)
  have h2 := log2_lt hb (by decide)
  exact decide_eq_true (by omega)
/-- an entry, by its place from 0 on -/
def nth [Inhabited α] (xs : List α) (i : Int) : α := xs[i.toNat]?.getD default
theorem nth_eq [Inhabited α] {xs : List α} {i : Int} (h0 : 0 ≤ i) (h1 : i < xs.length) : ∃ h : i.toNat < xs.length, nth xs i = xs[i.toNat] := by
  have h : i.toNat < xs.length := by omega
  exact ⟨h, by unfold nth; rw [List.getElem?_eq_getElem h]; rfl⟩
theorem nth_mem [Inhabited α] {xs : List α} {i : Int} (h0 : 0 ≤ i) (h1 : i < xs.length) : nth xs i ∈ xs := by
  obtain ⟨h, e⟩ := nth_eq h0 h1
  rw [e]; exact List.getElem_mem h
theorem atI_nn [Inhabited α] {xs : List α} {i : Int} (h0 : 0 ≤ i) (h1 : i < xs.length) : atI xs i = some (nth xs i) := by
  obtain ⟨h, e⟩ := nth_eq h0 h1
  unfold atI ixN
  rw [if_pos h0, if_pos (by omega), e]
  simp [h]
theorem atI_map {g : α → β} {xs : List α} {i : Int} : atI (xs.map g) i = (atI xs i).map g := by
  unfold atI
  rw [List.length_map]
  cases ixN xs.length i with
  | none => rfl
  | some j => simp
@[simp high] theorem atI_mapN [Inhabited α] {g : α → β} {xs : List α} {i : Int} (h0 : 0 ≤ i) (h1 : i < xs.length) : atI (xs.map g) i = some (g (nth xs i)) := by rw [atI_map, atI_nn h0 h1]; rfl
@[simp] theorem atI0 {x : α} {xs : List α} : atI (x :: xs) 0 = some x := by unfold atI ixN; simp
@[simp] theorem atI1 {x y : α} {xs : List α} : atI (x :: y :: xs) 1 = some y := by
  unfold atI ixN
  rw [if_pos (by omega), if_pos (by simp; omega)]
  rfl
@[simp] theorem atI2 {x y z : α} {xs : List α} : atI (x :: y :: z :: xs) 2 = some z := by
  unfold atI ixN
  rw [if_pos (by omega), if_pos (by simp; omega)]
  rfl
@[simp] theorem atI3 {x y z w : α} {xs : List α} : atI (x :: y :: z :: w :: xs) 3 = some w := by
  unfold atI ixN
  rw [if_pos (by omega), if_pos (by simp; omega)]
  rfl
/-- one of two, one of three by a number -/
theorem ix_two {x y : D} {i : Int} (h0 : 0 ≤ i) (h1 : i < 2) : atI [x, y] i = some (if i = 0 then x else y) := by
  rcases (by omega : i = 0 ∨ i = 1) with rfl | rfl <;> simp
theorem ix_three {x y z : D} {i : Int} (h0 : 0 ≤ i) (h1 : i < 3) : atI [x, y, z] i = some (if i = 0 then x else if i = 1 then y else z) := by
  rcases (by omega : i = 0 ∨ i = 1 ∨ i = 2) with rfl | rfl | rfl <;> simp
@[simp] theorem ix_twoI {x y : Int} {i : Int} (h0 : 0 ≤ i) (h1 : i < 2) : atI [D.at (.int x), D.at (.int y)] i = some (.at (.int (if i = 0 then x else y))) := by
  rcases (by omega : i = 0 ∨ i = 1) with rfl | rfl <;> simp
@[simp] theorem ix_twoS {x y : Str} {i : Int} (h0 : 0 ≤ i) (h1 : i < 2) : atI [D.at (.str x), D.at (.str y)] i = some (.at (.str (if i = 0 then x else y))) := by
  rcases (by omega : i = 0 ∨ i = 1) with rfl | rfl <;> simp
@[simp] theorem ix_twoB {x y : Bool} {i : Int} (h0 : 0 ≤ i) (h1 : i < 2) : atI [D.at (.bl x), D.at (.bl y)] i = some (.at (.bl (if i = 0 then x else y))) := by
  rcases (by omega : i = 0 ∨ i = 1) with rfl | rfl <;> simp
@[simp] theorem ix_threeI {x y z : Int} {i : Int} (h0 : 0 ≤ i) (h1 : i < 3) : atI [D.at (.int x), D.at (.int y), D.at (.int z)] i = some (.at (.int (if i = 0 then x else if i = 1 then y else z))) := by
  rcases (by omega : i = 0 ∨ i = 1 ∨ i = 2) with rfl | rfl | rfl <;> simp
@[simp] theorem kids_lst {xs : List D} : kidsD (.nd .lst xs) = some xs := id rfl
@[simp] theorem kids_tup {xs : List D} : kidsD (.nd .tup xs) = some xs := id rfl
@[simp] theorem kids_ktup {xs : List D} : kidsD (.nd .ktup xs) = some xs := id rfl
@[simp] theorem natCast_eqI {a b : Nat} : ((a : Int) = (b : Int)) ↔ (a = b) := by omega
/-! operations on atoms -/
@[simp] theorem op_add {a b : Int} : opSem .add [.at (.int a), .at (.int b)] = some (.at (.int (a + b))) := id rfl
@[simp] theorem op_sub {a b : Int} : opSem .sub [.at (.int a), .at (.int b)] = some (.at (.int (a - b))) := id rfl
@[simp] theorem op_mul {a b : Int} (ha : a.natAbs < 2 ^ 1000) (hb : b.natAbs < 2 ^ 1000) : opSem .mul [.at (.int a), .at (.int b)] = some (.at (.int (a * b))) := if_pos (mulOk_of ha hb)
@[simp] theorem op_mod {a b : Int} (h : 0 < b) : opSem .mod [.at (.int a), .at (.int b)] = some (.at (.int (a % b))) := if_pos h
@[simp] theorem op_fdiv {a b : Int} (h : 0 < b) (h2 : b < 2 ^ 1000) : opSem .fdiv [.at (.int a), .at (.int b)] = some (.at (.int (a / b))) := by
  have : b.natAbs.log2 < 1000 := log2_lt (by omega) (by decide)
  exact if_pos ⟨h, by omega⟩
@[simp] theorem op_neg {a : Int} : opSem .neg [.at (.int a)] = some (.at (.int (-a))) := id rfl
@[simp] theorem op_abs {a : Int} : opSem .abs [.at (.int a)] = some (.at (.int a.natAbs)) := by
  show some (D.int (if a < 0 then -a else a)) = _
  congr 3
  split <;> omega
@[simp] theorem op_lt {a b : Int} : opSem .lt [.at (.int a), .at (.int b)] = some (.at (.bl (decide (a < b)))) := id rfl
@[simp] theorem op_le {a b : Int} : opSem .le [.at (.int a), .at (.int b)] = some (.at (.bl (decide (a ≤ b)))) := id rfl
@[simp] theorem op_gt {a b : Int} : opSem .gt [.at (.int a), .at (.int b)] = some (.at (.bl (decide (b < a)))) := id rfl
@[simp] theorem op_ge {a b : Int} : opSem .ge [.at (.int a), .at (.int b)] = some (.at (.bl (decide (b ≤ a)))) := id rfl
@[simp] theorem op_eqI {a b : Int} : opSem .eq [.at (.int a), .at (.int b)] = some (.at (.bl (a == b))) := by simp [opSem, dEq, eqOk, deq]
@[simp] theorem op_neI {a b : Int} : opSem .ne [.at (.int a), .at (.int b)] = some (.at (.bl (!(a == b)))) := by simp [opSem, dEq, eqOk, deq]
@[simp] theorem op_eqB {a b : Bool} : opSem .eq [.at (.bl a), .at (.bl b)] = some (.at (.bl (a == b))) := by simp [opSem, dEq, eqOk, deq]
@[simp] theorem op_neB {a b : Bool} : opSem .ne [.at (.bl a), .at (.bl b)] = some (.at (.bl (!(a == b)))) := by simp [opSem, dEq, eqOk, deq]
@[simp] theorem op_eqS {a b : Str} : opSem .eq [.at (.str a), .at (.str b)] = some (.at (.bl (a == b))) := id rfl
@[simp] theorem op_neS {a b : Str} : opSem .ne [.at (.str a), .at (.str b)] = some (.at (.bl (!(a == b)))) := id rfl
@[simp] theorem op_max2 {a b : Int} : opSem .max2 [.at (.int a), .at (.int b)] = some (.at (.int (max a b))) := by
  have : (if b > a then b else a) = max a b := by split <;> omega
  show some (D.int (if b > a then b else a)) = _
  rw [this]
@[simp] theorem op_min2 {a b : Int} : opSem .min2 [.at (.int a), .at (.int b)] = some (.at (.int (min a b))) := by
  have : (if b < a then b else a) = min a b := by split <;> omega
  show some (D.int (if b < a then b else a)) = _
  rw [this]
@[simp] theorem op_int1I {a : Int} : opSem .int1 [.at (.int a)] = some (.at (.int a)) := id rfl
@[simp] theorem op_int1B {a : Bool} : opSem .int1 [.at (.bl a)] = some (.at (.int (if a then 1 else 0))) := id rfl
@[simp] theorem op_isN0 : opSem .isN [.at .non] = some (.at (.bl true)) := id rfl
@[simp] theorem op_isN1 {i : Int} : opSem .isN [.at (.int i)] = some (.at (.bl false)) := id rfl
@[simp] theorem op_isN2 {t : NT} {xs : List D} : opSem .isN [.nd t xs] = some (.at (.bl false)) := id rfl
@[simp] theorem op_isN3 {b : Bool} : opSem .isN [.at (.bl b)] = some (.at (.bl false)) := id rfl
@[simp] theorem op_notN0 : opSem .notN [.at .non] = some (.at (.bl false)) := id rfl
@[simp] theorem op_notN1 {i : Int} : opSem .notN [.at (.int i)] = some (.at (.bl true)) := id rfl
@[simp] theorem op_notN2 {t : NT} {xs : List D} : opSem .notN [.nd t xs] = some (.at (.bl true)) := id rfl
@[simp] theorem op_isiN {t : Ty} : opSem (.isi t) [.at .non] = some (.at (.bl false)) := id rfl
@[simp] theorem op_isiB {t : Ty} {b : Bool} : opSem (.isi t) [.at (.bl b)] = some (.at (.bl (t == .bool || t == .int))) := id rfl
@[simp] theorem op_isiI {t : Ty} {i : Int} : opSem (.isi t) [.at (.int i)] = some (.at (.bl (t == .int))) := id rfl
@[simp] theorem op_isiS {t : Ty} {s : Str} : opSem (.isi t) [.at (.str s)] = some (.at (.bl (t == .str))) := id rfl
@[simp] theorem op_isiL {t : Ty} {xs : List D} : opSem (.isi t) [.nd .lst xs] = some (.at (.bl (t == .list))) := id rfl
@[simp] theorem op_isiT {t : Ty} {xs : List D} : opSem (.isi t) [.nd .tup xs] = some (.at (.bl (t == .tuple))) := id rfl
/-! lists -/
@[simp] theorem op_lenL {xs : List D} : opSem .len [.nd .lst xs] = some (.at (.int xs.length)) := id rfl
@[simp] theorem op_lenT {xs : List D} : opSem .len [.nd .tup xs] = some (.at (.int xs.length)) := id rfl
@[simp] theorem op_lenK {xs : List D} : opSem .len [.nd .ktup xs] = some (.at (.int xs.length)) := id rfl
@[simp] theorem op_lenD {ks : List Key} {xs : List D} : opSem .len [.nd (.dK ks) xs] = some (.at (.int ks.length)) := id rfl
@[simp] theorem op_ixL {xs : List D} {i : Int} : opSem .ix [.nd .lst xs, .at (.int i)] = atI xs i := id rfl
@[simp] theorem op_ixT {xs : List D} {i : Int} : opSem .ix [.nd .tup xs, .at (.int i)] = atI xs i := id rfl
@[simp] theorem op_ixK {xs : List D} {i : Int} : opSem .ix [.nd .ktup xs, .at (.int i)] = atI xs i := id rfl
@[simp] theorem op_list1L {xs : List D} : opSem .list1 [.nd .lst xs] = some (.nd .lst xs) := id rfl
@[simp] theorem op_list1T {xs : List D} : opSem .list1 [.nd .tup xs] = some (.nd .lst xs) := id rfl
@[simp] theorem op_list1K {xs : List D} : opSem .list1 [.nd .ktup xs] = some (.nd .lst xs) := id rfl
@[simp] theorem op_list1D {ks : List Key} {xs : List D} : opSem .list1 [.nd (.dK ks) xs] = some (.nd .lst (ks.map keyD)) := id rfl
@[simp] theorem op_tuple1L {xs : List D} : opSem .tuple1 [.nd .lst xs] = some (.nd .tup xs) := id rfl
@[simp] theorem op_revl {xs : List D} : opSem .revl [.nd .lst xs] = some (.nd .lst xs.reverse) := id rfl
@[simp] theorem op_addL {xs ys : List D} (h : xs.length + ys.length ≤ 16777216) : opSem .add [.nd .lst xs, .nd .lst ys] = some (.nd .lst (xs ++ ys)) := if_pos h
theorem cutD_map {g : α → D} {xs : List α} {lo hi : Option Int} : cutD (xs.map g) lo hi = ((xs.drop (HT.sIx xs.length 0 lo)).take (HT.sIx xs.length xs.length hi - HT.sIx xs.length 0 lo)).map g := by
  unfold cutD
  rw [List.length_map, List.map_take, List.map_drop]
theorem cutD_eq {xs : List D} {lo hi : Option Int} : cutD xs lo hi = (xs.drop (HT.sIx xs.length 0 lo)).take (HT.sIx xs.length xs.length hi - HT.sIx xs.length 0 lo) := rfl
theorem sIx_nn {n d : Nat} {i : Int} (h : 0 ≤ i) : HT.sIx n d (some i) = min i.toNat n := by
  obtain ⟨j, rfl⟩ : ∃ j : Nat, i = j := ⟨i.toNat, by omega⟩
  rw [HT.sIx_nat]; simp
/-- slices by places from 0 on -/
theorem cut_to {xs : List D} {j : Int} (h : 0 ≤ j) : cutD xs none (some j) = xs.take j.toNat := by
  rw [cutD_eq, HT.sIx_none, sIx_nn h, Nat.sub_zero, List.drop_zero]
  by_cases h : j.toNat ≤ xs.length
  · rw [Nat.min_eq_left h]
  · rw [Nat.min_eq_right (by omega), List.take_of_length_le (Nat.le_refl _), List.take_of_length_le (by omega)]
theorem cut_from {xs : List D} {j : Int} (h : 0 ≤ j) : cutD xs (some j) none = xs.drop j.toNat := by
  rw [cutD_eq, HT.sIx_none, sIx_nn h]
  by_cases h : j.toNat ≤ xs.length
  · rw [Nat.min_eq_left h, List.take_of_length_le (by rw [List.length_drop]; omega)]
  · rw [Nat.min_eq_right (by omega), Nat.sub_self, List.take_zero, List.drop_eq_nil_of_le (by omega)]
theorem cut_mid {xs : List D} {i j : Int} (hi : 0 ≤ i) (hj : 0 ≤ j) : cutD xs (some i) (some j) = (xs.drop i.toNat).take (j.toNat - i.toNat) := by
  rw [cutD_eq, sIx_nn hi, sIx_nn hj]
  by_cases h : i.toNat ≤ xs.length
  · rw [Nat.min_eq_left h]
    by_cases h2 : j.toNat ≤ xs.length
    · rw [Nat.min_eq_left h2]
    · rw [Nat.min_eq_right (by omega), List.take_of_length_le (by rw [List.length_drop]; omega), List.take_of_length_le (by rw [List.length_drop]; omega)]
  · have e : min i.toNat xs.length = xs.length := by omega
    rw [e, List.drop_eq_nil_of_le (Nat.le_refl _), List.drop_eq_nil_of_le (show xs.length ≤ i.toNat by omega)]; simp
theorem cut_last {xs : List D} : cutD xs none (some (-1)) = xs.dropLast := by
  rw [cutD_eq, HT.sIx_none, Nat.sub_zero, List.drop_zero, List.dropLast_eq_take]
  congr 1
  show (if ((-1 : Int) < 0) then ((-1 : Int) + (xs.length : Int)).toNat else min (-1 : Int).toNat xs.length) = xs.length - 1
  rw [if_pos (by decide)]
  omega
@[simp] theorem op_slTo {xs : List D} {j : Int} (h : 0 ≤ j) : opSem (.sl false true) [.nd .lst xs, .at (.int j)] = some (.nd .lst (xs.take j.toNat)) := by
  show some (D.nd .lst (cutD xs none (some j))) = _
  rw [cut_to h]
@[simp] theorem op_slFrom {xs : List D} {j : Int} (h : 0 ≤ j) : opSem (.sl true false) [.nd .lst xs, .at (.int j)] = some (.nd .lst (xs.drop j.toNat)) := by
  show some (D.nd .lst (cutD xs (some j) none)) = _
  rw [cut_from h]
@[simp] theorem op_slMid {xs : List D} {i j : Int} (hi : 0 ≤ i) (hj : 0 ≤ j) : opSem (.sl true true) [.nd .lst xs, .at (.int i), .at (.int j)] = some (.nd .lst ((xs.drop i.toNat).take (j.toNat - i.toNat))) := by
  show some (D.nd .lst (cutD xs (some i) (some j))) = _
  rw [cut_mid hi hj]
@[simp] theorem op_slLast {xs : List D} : opSem (.sl false true) [.nd .lst xs, .at (.int (-1))] = some (.nd .lst xs.dropLast) := by
  show some (D.nd .lst (cutD xs none (some (-1)))) = _
  rw [cut_last]
@[simp] theorem intsOf_map {ns : List Int} : intsOf (ns.map D.int) = some ns := by
  induction ns with
  | nil => rfl
  | cons n ns ih => simp [intsOf, ih]
@[simp] theorem blsOf_map {ns : List Bool} : blsOf (ns.map D.bl) = some ns := by
  induction ns with
  | nil => rfl
  | cons n ns ih => simp [blsOf, ih]
@[simp] theorem op_sum {ns : List Int} : opSem .sum [.nd .lst (ns.map D.int)] = some (.at (.int ns.sum)) := by simp [opSem, onInts]
@[simp] theorem op_all {ns : List Bool} : opSem .all [.nd .lst (ns.map D.bl)] = some (.at (.bl (ns.all id))) := by simp [opSem, onBls]
@[simp] theorem op_any {ns : List Bool} : opSem .any [.nd .lst (ns.map D.bl)] = some (.at (.bl (ns.any id))) := by simp [opSem, onBls]
theorem map_intF {f : α → Int} {xs : List α} : xs.map (fun x => D.at (.int (f x))) = (xs.map f).map D.int := by rw [List.map_map]; rfl
theorem map_blF {f : α → Bool} {xs : List α} : xs.map (fun x => D.at (.bl (f x))) = (xs.map f).map D.bl := by rw [List.map_map]; rfl
@[simp] theorem op_allF {f : α → Bool} {xs : List α} : opSem .all [.nd .lst (xs.map fun x => .at (.bl (f x)))] = some (.at (.bl (xs.all f))) := by rw [map_blF, op_all]; simp [List.all_map, Function.comp_def]
@[simp] theorem op_anyF {f : α → Bool} {xs : List α} : opSem .any [.nd .lst (xs.map fun x => .at (.bl (f x)))] = some (.at (.bl (xs.any f))) := by rw [map_blF, op_any]; simp [List.any_map, Function.comp_def]
@[simp] theorem op_sumF {f : α → Int} {xs : List α} : opSem .sum [.nd .lst (xs.map fun x => .at (.int (f x)))] = some (.at (.int (xs.map f).sum)) := by rw [map_intF, op_sum]
/-! == on lists, by an embedding -/
class Emb (α : Type) [BEq α] (n : outParam Nat) where
  toD : α → D
  ok : ∀ a, eqOk n (toD a) = true
  eq : ∀ a b, deq (toD a) (toD b) = (a == b)
theorem eqOks_map [BEq α] {n : Nat} [E : Emb α n] {xs : List α} : eqOks n (xs.map E.toD) = true := by
  induction xs with
  | nil => rfl
  | cons x xs ih => simp [eqOks, E.ok, ih]
theorem deqs_map [BEq α] {n : Nat} [E : Emb α n] {xs ys : List α} : deqs (xs.map E.toD) (ys.map E.toD) = (xs == ys) := by
  induction xs generalizing ys with
  | nil => cases ys <;> rfl
  | cons x xs ih => cases ys with
    | nil => rfl
    | cons y ys => simp [deqs, E.eq, ih]
end
/-! ### ranges -/
@[simp] theorem rng1 {n : Int} (h : n < 1000000) (h0 : -1000000 < n) : rngD [.at (.int n)] = some ((List.range n.toNat).map fun (k : Nat) => .at (.int k)) := by
  unfold rngD rngInts
  dsimp only
  have e : -(2 ^ 62) ≤ n ∧ n < 2 ^ 62 := ⟨by omega, by omega⟩
  rw [if_pos e, Option.map_some, List.map_map]
  rfl
@[simp] theorem rng2 {a b : Int} (h : -1000000 < a) (h2 : a < 1000000) (h3 : -1000000 < b) (h4 : b < 1000000) : rngD [.at (.int a), .at (.int b)] = some ((List.range (b - a).toNat).map fun (k : Nat) => .at (.int (a + k))) := by
  unfold rngD rngInts
  dsimp only
  have e : -(2 ^ 62) ≤ a ∧ a < 2 ^ 62 ∧ -(2 ^ 62) ≤ b ∧ b < 2 ^ 62 := ⟨by omega, by omega, by omega, by omega⟩
  rw [if_pos e, Option.map_some, List.map_map]
  rfl
/-! ### loops -/
section
variable {α β : Type} {body : D → PEnv → RP PFl} {kill : PEnv → PEnv} {g : α → D}
/-- a loop that comes to its end, by its state -/
theorem for_st (st : β → PEnv) (step : β → α → β) (Inv : List α → β → Prop)
    (hb : ∀ a as b, Inv (a :: as) b → ∃ ρ', (body (g a) (st b) = .ok .nx ρ' ∨ body (g a) (st b) = .ok .ct ρ') ∧ kill ρ' = st (step b a) ∧ Inv as (step b a)) :
    ∀ (as : List α) (b : β), Inv as b → pforL body kill (as.map g) (st b) = .ok .nx (kill (st (as.foldl step b)))
  | [], b, _ => rfl
  | a :: as, b, h => by
    obtain ⟨ρ', h1, h2, h3⟩ := hb a as b h
    rw [List.map_cons, List.foldl_cons]
    unfold pforL
    rcases h1 with h1 | h1 <;> (rw [h1]; dsimp only; rw [h2]; exact for_st st step Inv hb as _ h3)
/-- a loop whose state is told by what holds of it -/
theorem for_ex' (st : β → PEnv) (I : List α → β → Prop) (all : List α)
    (hb : ∀ pre a post b, all = pre ++ a :: post → I pre b → ∃ b' ρ', (body (g a) (st b) = .ok .nx ρ' ∨ body (g a) (st b) = .ok .ct ρ') ∧ kill ρ' = st b' ∧ I (pre ++ [a]) b') :
    ∀ (post pre : List α) (b : β), all = pre ++ post → I pre b → ∃ b', I all b' ∧ pforL body kill (post.map g) (st b) = .ok .nx (kill (st b'))
  | [], pre, b, e, h => ⟨b, by rw [e, List.append_nil]; exact h, rfl⟩
  | a :: post, pre, b, e, h => by
    obtain ⟨b', ρ', h1, h2, h3⟩ := hb pre a post b e h
    obtain ⟨b2, q1, q2⟩ := for_ex' st I all hb post (pre ++ [a]) b' (by rw [e]; simp) h3
    refine ⟨b2, q1, ?_⟩
    rw [List.map_cons]
    unfold pforL
    rcases h1 with h1 | h1 <;> (rw [h1]; dsimp only; rw [h2]; exact q2)
theorem for_ex (st : β → PEnv) (I : List α → β → Prop) {all : List α} {b : β} (h0 : I [] b)
    (hb : ∀ pre a post b, all = pre ++ a :: post → I pre b → ∃ b' ρ', (body (g a) (st b) = .ok .nx ρ' ∨ body (g a) (st b) = .ok .ct ρ') ∧ kill ρ' = st b' ∧ I (pre ++ [a]) b') :
    ∃ b', I all b' ∧ pforL body kill (all.map g) (st b) = .ok .nx (kill (st b')) := for_ex' st I all hb all [] b rfl h0
/-- a loop that only looks -/
theorem for_all {ρ : PEnv} {all : List α} (hk : kill ρ = ρ) (hb : ∀ a ∈ all, ∃ ρ', (body (g a) ρ = .ok .nx ρ' ∨ body (g a) ρ = .ok .ct ρ') ∧ kill ρ' = ρ) : pforL body kill (all.map g) ρ = .ok .nx ρ := by
  induction all with
  | nil => show RP.ok PFl.nx (kill ρ) = _; rw [hk]
  | cons a as ih =>
    obtain ⟨ρ', h1, h2⟩ := hb a List.mem_cons_self
    rw [List.map_cons]
    unfold pforL
    rcases h1 with h1 | h1 <;> (rw [h1]; dsimp only; rw [h2]; exact ih fun x hx => hb x (List.mem_cons_of_mem _ hx))
/-- a loop that goes back with v where p holds for the first time -/
theorem for_hit {ρ : PEnv} {all : List α} (p : α → Prop) (v : D) (hx : ∃ a ∈ all, p a) (hb : ∀ a ∈ all, ¬ p a → ∃ ρ', (body (g a) ρ = .ok .nx ρ' ∨ body (g a) ρ = .ok .ct ρ') ∧ kill ρ' = ρ)
    (hp : ∀ a ∈ all, p a → ∃ ρ', body (g a) ρ = .ok (.rt v) ρ') : ∃ ρ', pforL body kill (all.map g) ρ = .ok (.rt v) ρ' := by
  induction all with
  | nil => obtain ⟨a, ha, _⟩ := hx; cases ha
  | cons a as ih =>
    rw [List.map_cons]
    unfold pforL
    by_cases hpa : p a
    · obtain ⟨ρ', h1⟩ := hp a List.mem_cons_self hpa
      exact ⟨ρ', by rw [h1]⟩
    · obtain ⟨ρ', h1, h2⟩ := hb a List.mem_cons_self hpa
      obtain ⟨b, hb', hpb⟩ := hx
      have hx' : ∃ a ∈ as, p a := ⟨b, (List.mem_cons.mp hb').resolve_left fun e => hpa (e ▸ hpb), hpb⟩
      obtain ⟨ρ2, h3⟩ := ih hx' (fun x hx => hb x (List.mem_cons_of_mem _ hx)) fun x hx => hp x (List.mem_cons_of_mem _ hx)
      refine ⟨ρ2, ?_⟩
      rcases h1 with h1 | h1 <;> (rw [h1]; dsimp only; rw [h2, h3])
end
/-! ### comprehensions -/
theorem comp_gen {α : Type} {body : D → PEnv → RP (Option D)} {kill : PEnv → PEnv} {ρ : PEnv} {g : α → D} (f : α → Option D) :
    ∀ {as : List α}, (∀ a ∈ as, ∃ ρ', body (g a) ρ = .ok (f a) ρ' ∧ kill ρ' = ρ) → pcompL body kill (as.map g) ρ = .ok (as.filterMap f) ρ
  | [], _ => rfl
  | a :: as, h => by
    obtain ⟨ρ', h1, h2⟩ := h a List.mem_cons_self
    rw [List.map_cons]
    unfold pcompL
    rw [h1]
    dsimp only
    rw [h2, comp_gen f fun x hx => h x (List.mem_cons_of_mem _ hx)]
    cases e : f a with
    | none => simp [e]
    | some y => simp [e]
theorem comp_map {α : Type} {body : D → PEnv → RP (Option D)} {kill : PEnv → PEnv} {ρ : PEnv} {g : α → D} (f : α → D) {as : List α}
    (h : ∀ a ∈ as, ∃ ρ', body (g a) ρ = .ok (some (f a)) ρ' ∧ kill ρ' = ρ) : pcompL body kill (as.map g) ρ = .ok (as.map f) ρ := by
  rw [comp_gen (fun a => some (f a)) h]
  congr 1
  clear h
  induction as with
  | nil => rfl
  | cons a as ih => simp
theorem comp_filter {α : Type} {body : D → PEnv → RP (Option D)} {kill : PEnv → PEnv} {ρ : PEnv} {g : α → D} (p : α → Bool) (f : α → D) {as : List α}
    (h : ∀ a ∈ as, ∃ ρ', body (g a) ρ = .ok (if p a then some (f a) else none) ρ' ∧ kill ρ' = ρ) : pcompL body kill (as.map g) ρ = .ok ((as.filter p).map f) ρ := by
  rw [comp_gen (fun a => if p a then some (f a) else none) h]
  congr 1
  clear h
  induction as with
  | nil => rfl
  | cons a as ih => cases hp : p a <;> simp [hp, ih]
@[simp] theorem penv0_def {n : Nat} {xs : List D} : penv0 n xs = xs.map some ++ List.replicate (n - xs.length) none := id rfl
@[simp] theorem pmut_app {ds : List D} {y : D} (h : ds.length < 16777216) : pmut .append (.nd .lst ds) [y] = some (.non, .lst (ds ++ [y])) := if_pos h
@[simp] theorem pmut_pop {ds : List D} : pmut .pop (.nd .lst ds) [] = ds.getLast?.map fun d => (d, .lst ds.dropLast) := id rfl
@[simp] theorem pmut_clear {ds : List D} : pmut .clear (.nd .lst ds) [] = some (.non, .lst []) := id rfl
@[simp] theorem pmut_extend {ds es : List D} (h : ds.length + es.length ≤ 16777216) : pmut .extend (.nd .lst ds) [.nd .lst es] = some (.non, .lst (ds ++ es)) := if_pos h
@[simp] theorem pmut_set {ds : List D} {y : D} {i : Int} : pmut .setIx (.nd .lst ds) [y, .at (.int i)] = (ixN ds.length i).map fun j => (.non, .lst (ds.set j y)) := id rfl
@[simp] theorem ixN_nn {n : Nat} {i : Int} (h0 : 0 ≤ i) (h1 : i < n) : ixN n i = some i.toNat := by
  unfold ixN
  rw [if_pos h0, if_pos (by omega)]
/-! ### == of a thing with itself -/
mutual
theorem deq_refl : ∀ (n : Nat) (d : D), eqOk n d = true → deq d d = true
  | n, .at a, _ => by cases a <;> simp [deq]
  | 0, .nd t xs, h => by cases t <;> simp [eqOk] at h
  | n + 1, .nd t xs, h => by
    cases t <;> first | (simp only [eqOk] at h; rw [deq]; exact deqs_refl n xs h) | (simp [eqOk] at h)
theorem deqs_refl : ∀ (n : Nat) (ds : List D), eqOks n ds = true → deqs ds ds = true
  | n, [], _ => by simp [deqs]
  | n, d :: ds, h => by
    simp only [eqOks, Bool.and_eq_true] at h
    rw [deqs, deq_refl n d h.1, deqs_refl n ds h.2]; rfl
end
theorem dEq_refl {t : NT} {xs : List D} (h : eqOk 190 (.nd t xs) = true) : dEq (.nd t xs) (.nd t xs) = some true := by
  unfold dEq
  simp only [h, Bool.and_self, if_true, deq_refl 190 _ h]
@[simp] theorem op_eq_refl {t : NT} {xs : List D} (h : eqOk 190 (.nd t xs) = true) : opSem .eq [.nd t xs, .nd t xs] = some (.at (.bl true)) := by
  show (dEq _ _).map _ = _
  rw [dEq_refl h]; rfl
@[simp] theorem op_ne_refl {t : NT} {xs : List D} (h : eqOk 190 (.nd t xs) = true) : opSem .ne [.nd t xs, .nd t xs] = some (.at (.bl false)) := by
  show (dEq _ _).map _ = _
  rw [dEq_refl h]; rfl
@[simp] theorem eqOk_lst {n : Nat} {xs : List D} : eqOk (n + 1) (.nd .lst xs) = eqOks n xs := by rw [eqOk]
@[simp] theorem eqOk_tup {n : Nat} {xs : List D} : eqOk (n + 1) (.nd .tup xs) = eqOks n xs := by rw [eqOk]
@[simp] theorem eqOk_int {n : Nat} {i : Int} : eqOk n (.at (.int i)) = true := by cases n <;> simp [eqOk]
@[simp] theorem eqOk_bl {n : Nat} {i : Bool} : eqOk n (.at (.bl i)) = true := by cases n <;> simp [eqOk]
@[simp] theorem eqOk_non {n : Nat} : eqOk n (.at .non) = true := by cases n <;> simp [eqOk]
@[simp] theorem eqOks_nil {n : Nat} : eqOks n [] = true := by simp [eqOks]
@[simp] theorem eqOks_cons {n : Nat} {d : D} {ds : List D} : eqOks n (d :: ds) = (eqOk n d && eqOks n ds) := by simp [eqOks]
@[simp] theorem eqOks_app {n : Nat} {ds es : List D} : eqOks n (ds ++ es) = (eqOks n ds && eqOks n es) := by
  induction ds with
  | nil => simp
  | cons d ds ih => simp [ih, Bool.and_assoc]
@[simp] theorem eqOks_mapA {α : Type} {n : Nat} {f : α → D} {xs : List α} : eqOks n (xs.map f) = xs.all fun x => eqOk n (f x) := by
  induction xs with
  | nil => simp
  | cons x xs ih => simp [ih]
@[simp] theorem imm_int {i : Int} : imm (.at (.int i)) = true := rfl
@[simp] theorem imm_at {a : At} : imm (.at a) = true := rfl
@[simp] theorem imm_tup {xs : List D} : imm (.nd .tup xs) = imms xs := by rw [imm]
@[simp] theorem imms_nil : imms [] = true := by rw [imms]
@[simp] theorem imms_cons {d : D} {ds : List D} : imms (d :: ds) = (imm d && imms ds) := by rw [imms]
@[simp] theorem imms_mapA {α : Type} {f : α → D} {xs : List α} : imms (xs.map f) = xs.all fun x => imm (f x) := by
  induction xs with
  | nil => simp
  | cons x xs ih => simp [ih]
end Px
namespace Px
open PySem L2 Enc

/-! ### operations on typed values -/
section
variable {α β γ δ τ κ ν : Type} [Enc α] [Enc β] [Enc γ] [Enc δ] [Enc ν]
def opD (o : Op) (ds : List D) : M D := M.opt (opSem o ds)
theorem r_gen {o : Op} {ds : List D} : OpR o ds (opD o ds) := by
  unfold opD
  cases e : opSem o ds with
  | none => trivial
  | some d => exact e
def mulM (a b : Int) : M Int := if mulOk a b then .ok (a * b) else .bad
def modM (a b : Int) : M Int := if 0 < b then .ok (a % b) else .bad
def fdivM (a b : Int) : M Int := if 0 < b ∧ b.natAbs.log2 < 9000 then .ok (a / b) else .bad
def powM (a b : Int) : M Int := if 0 ≤ b ∧ b ≤ 1000000 ∧ a.natAbs < 2 ^ 64 then .ok (a ^ b.toNat) else .bad
theorem r_mul {a b : Int} : OpR .mul [enc a, enc b] (mulM a b) := by
  unfold mulM
  split
  · rename_i h; exact if_pos h
  · trivial
theorem r_mod {a b : Int} : OpR .mod [enc a, enc b] (modM a b) := by
  unfold modM
  split
  · rename_i h; exact if_pos h
  · trivial
theorem r_fdiv {a b : Int} : OpR .fdiv [enc a, enc b] (fdivM a b) := by
  unfold fdivM
  split
  · rename_i h; exact if_pos h
  · trivial
theorem r_pow {a b : Int} : OpR .pow [enc a, enc b] (powM a b) := by
  unfold powM
  split
  · rename_i h; exact if_pos h
  · trivial
theorem atI_enc {xs : List α} {i : Int} : atI (xs.map (enc : α → D)) i = (atI xs i).map enc := by
  unfold atI
  rw [List.length_map]
  cases ixN xs.length i with
  | none => rfl
  | some j => simp
def atM (xs : List α) (i : Int) : M α := M.opt (atI xs i)
theorem r_ixL {xs : List α} {i : Int} : OpR .ix [enc xs, enc i] (atM xs i) := by
  unfold atM
  cases e : atI xs i with
  | none => trivial
  | some v =>
    show atI (xs.map enc) i = some (enc v)
    rw [atI_enc, e]; rfl
theorem r_ixT {xs : Tup α} {i : Int} : OpR .ix [enc xs, enc i] (atM xs.l i) := by
  unfold atM
  cases e : atI xs.l i with
  | none => trivial
  | some v =>
    show atI (xs.l.map enc) i = some (enc v)
    rw [atI_enc, e]; rfl
def cutL (xs : List α) (lo hi : Option Int) : List α := (xs.drop (HT.sIx xs.length 0 lo)).take (HT.sIx xs.length xs.length hi - HT.sIx xs.length 0 lo)
theorem cutL_enc {xs : List α} {lo hi : Option Int} : cutD (xs.map (enc : α → D)) lo hi = (cutL xs lo hi).map enc := by
  unfold cutD cutL
  rw [List.length_map, List.map_take, List.map_drop]
theorem q_sl11 {xs : List α} {i j : Int} : opSem (.sl true true) [enc xs, enc i, enc j] = some (enc (cutL xs (some i) (some j))) := by
  show some (D.nd .lst (cutD (xs.map enc) (some i) (some j))) = _
  rw [cutL_enc]; rfl
theorem q_sl10 {xs : List α} {i : Int} : opSem (.sl true false) [enc xs, enc i] = some (enc (cutL xs (some i) none)) := by
  show some (D.nd .lst (cutD (xs.map enc) (some i) none)) = _
  rw [cutL_enc]; rfl
theorem q_sl01 {xs : List α} {j : Int} : opSem (.sl false true) [enc xs, enc j] = some (enc (cutL xs none (some j))) := by
  show some (D.nd .lst (cutD (xs.map enc) none (some j))) = _
  rw [cutL_enc]; rfl
theorem q_sl00 {xs : List α} : opSem (.sl false false) [enc xs] = some (enc (cutL xs none none)) := by
  show some (D.nd .lst (cutD (xs.map enc) none none)) = _
  rw [cutL_enc]; rfl
theorem q_lenL {xs : List α} : opSem .len [enc xs] = some (enc (xs.length : Int)) := by
  show some (D.int ((xs.map (enc : α → D)).length)) = _
  rw [List.length_map]; rfl
theorem q_lenT {xs : Tup α} : opSem .len [enc xs] = some (enc (xs.l.length : Int)) := by
  show some (D.int ((xs.l.map (enc : α → D)).length)) = _
  rw [List.length_map]; rfl
def lenS (z : Str) : M Int := if z.length ≤ szLim then .ok z.length else .bad
theorem r_lenS {z : Str} : OpR .len [enc z] (lenS z) := by
  unfold lenS
  split
  · rename_i h; exact if_pos h
  · trivial
theorem q_abs {i : Int} : opSem .abs [enc i] = some (enc ((i.natAbs : Nat) : Int)) := op_abs
theorem q_max2 {i j : Int} : opSem .max2 [enc i, enc j] = some (enc (max i j)) := op_max2
theorem q_min2 {i j : Int} : opSem .min2 [enc i, enc j] = some (enc (min i j)) := op_min2
theorem q_eqI {a b : Int} : opSem .eq [enc a, enc b] = some (.at (.bl (decide (a = b)))) := by
  have := @op_eqI a b
  rw [show (a == b) = decide (a = b) by rw [Bool.eq_iff_iff]; simp] at this
  exact this
theorem q_neI {a b : Int} : opSem .ne [enc a, enc b] = some (.at (.bl (!decide (a = b)))) := by
  have := @op_neI a b
  rw [show (a == b) = decide (a = b) by rw [Bool.eq_iff_iff]; simp] at this
  exact this
theorem q_eqB {a b : Bool} : opSem .eq [enc a, enc b] = some (.at (.bl (a == b))) := op_eqB
theorem q_neB {a b : Bool} : opSem .ne [enc a, enc b] = some (.at (.bl (!(a == b)))) := op_neB
theorem q_eqS {a b : Str} : opSem .eq [enc a, enc b] = some (.at (.bl (a == b))) := op_eqS
theorem q_neS {a b : Str} : opSem .ne [enc a, enc b] = some (.at (.bl (!(a == b)))) := op_neS
def deqM (x : α) (y : β) : M Bool := M.opt (dEq (enc x) (enc y))
theorem r_eq {x : α} {y : β} : OpR .eq [enc x, enc y] (deqM x y) := by
  unfold deqM
  cases e : dEq (enc x) (enc y) with
  | none => trivial
  | some b => show (dEq (enc x) (enc y)).map D.bl = _; rw [e]; rfl
theorem r_ne {x : α} {y : β} : OpR .ne [enc x, enc y] ((deqM x y).bind fun b => .ok (!b)) := by
  unfold deqM
  cases e : dEq (enc x) (enc y) with
  | none => trivial
  | some b => show (dEq (enc x) (enc y)).map (fun c => D.bl (!c)) = _; rw [e]; rfl
def inM (x : α) (y : β) : M Bool := M.opt (dIn (enc x) (enc y))
theorem r_in {x : α} {y : β} : OpR .inn [enc x, enc y] (inM x y) := by
  unfold inM
  cases e : dIn (enc x) (enc y) with
  | none => trivial
  | some b => show (dIn (enc x) (enc y)).map D.bl = _; rw [e]; rfl
theorem r_nin {x : α} {y : β} : OpR .notIn [enc x, enc y] ((inM x y).bind fun b => .ok (!b)) := by
  unfold inM
  cases e : dIn (enc x) (enc y) with
  | none => trivial
  | some b => show (dIn (enc x) (enc y)).map (fun c => D.bl (!c)) = _; rw [e]; rfl
theorem intsOf_enc {ns : List Int} : intsOf (ns.map (enc : Int → D)) = some ns := intsOf_map
theorem q_sum {ns : List Int} : opSem .sum [enc ns] = some (enc ns.sum) := op_sum
theorem q_all {ns : List Bool} : opSem .all [enc ns] = some (.at (.bl (ns.all id))) := op_all
theorem q_any {ns : List Bool} : opSem .any [enc ns] = some (.at (.bl (ns.any id))) := op_any
theorem r_max1 {ns : List Int} : OpR .max1 [enc ns] (M.opt ns.max?) := by
  cases e : ns.max? with
  | none => trivial
  | some b => show ((intsOf (ns.map D.int)).bind fun ns => (ns.max?).map D.int) = _; rw [intsOf_map, Option.bind_some, e]; rfl
theorem r_min1 {ns : List Int} : OpR .min1 [enc ns] (M.opt ns.min?) := by
  cases e : ns.min? with
  | none => trivial
  | some b => show ((intsOf (ns.map D.int)).bind fun ns => (ns.min?).map D.int) = _; rw [intsOf_map, Option.bind_some, e]; rfl
theorem q_list1L {xs : List α} : opSem .list1 [enc xs] = some (enc xs) := rfl
theorem q_list1T {xs : Tup α} : opSem .list1 [enc xs] = some (enc xs.l) := rfl
theorem q_list1D {d : Dct Int ν} : opSem .list1 [enc d] = some (enc (d.l.map (·.1))) := by
  show some (D.lst (((d.l.map (·.1)).map .inl).map keyD)) = some (D.lst ((d.l.map (·.1)).map enc))
  rw [List.map_map]; rfl
theorem q_tuple1 {xs : List α} : opSem .tuple1 [enc xs] = some (enc (Tup.mk xs)) := rfl
theorem q_revl {xs : List α} : opSem .revl [enc xs] = some (enc xs.reverse) := by
  show some (D.lst (xs.map enc).reverse) = some (D.lst (xs.reverse.map enc))
  rw [List.map_reverse]
theorem r_addL {xs ys : List α} : OpR .add [enc xs, enc ys] (ext xs ys) := by
  unfold ext
  split
  · rename_i h
    show (if (xs.map (enc : α → D)).length + (ys.map (enc : α → D)).length ≤ szLim then some (D.lst (xs.map enc ++ ys.map enc)) else none) = some (D.lst ((xs ++ ys).map enc))
    rw [List.length_map, List.length_map, if_pos h, List.map_append]
  · trivial
def sortI (ns : List Int) : List Int := ns.mergeSort (fun a b => decide (a ≤ b))
theorem q_sortI {ns : List Int} : opSem .sorted1 [enc ns] = some (enc (sortI ns)) := by
  show dSorted (ns.map D.int) = _
  unfold dSorted
  rw [intsOf_map]; rfl
def ssetM (ns : List Int) : M (List Int) := if ns.length < 64 then .ok (ssetI ns) else .bad
theorem r_sset {ns : List Int} : OpR .sset [enc ns] (ssetM ns) := by
  unfold ssetM
  split
  · rename_i h
    show ((intsOf (ns.map D.int)).bind fun ns => if ns.length < 64 then some (D.lst ((ssetI ns).map D.int)) else none) = _
    rw [intsOf_map, Option.bind_some, if_pos h]; rfl
  · trivial
def lrngM (ns : List Int) : M (List Int) := (rngM ns).bind fun xs => if xs.length ≤ szLim then .ok xs else .bad
theorem r_lrng {ns : List Int} : OpR .lrng (ns.map D.int) (lrngM ns) := by
  unfold lrngM rngM
  cases e : rngInts (ns.map D.int) with
  | none => trivial
  | some ms =>
    show OpR _ _ (if ms.length ≤ szLim then _ else _)
    split
    · rename_i h
      show ((rngInts (ns.map D.int)).bind fun ns => if ns.length ≤ szLim then some (D.lst (ns.map D.int)) else none) = _
      rw [e, Option.bind_some, if_pos h]; rfl
    · trivial
theorem r_lrng' {ds : List D} (ns : List Int) (h : ds = ns.map D.int) : OpR .lrng ds (lrngM ns) := h ▸ r_lrng
def dvmM (a b : Int) : M (T2 Int Int) := if 0 < b ∧ b.natAbs.log2 < 9000 then .ok ⟨a / b, a % b⟩ else .bad
theorem r_dvm {a b : Int} : OpR .dvm [enc a, enc b] (dvmM a b) := by
  unfold dvmM
  split
  · rename_i h; exact if_pos h
  · trivial
def isNone : D → Bool
  | .at .non => true
  | _ => false
theorem q_isN {d : D} : opSem .isN [enc d] = some (.at (.bl (isNone d))) := by
  show some (D.bl _) = _
  rcases d with a | _
  · cases a <;> rfl
  · rfl
theorem q_notN {d : D} : opSem .notN [enc d] = some (.at (.bl (!isNone d))) := by
  show some (D.bl _) = _
  rcases d with a | _
  · cases a <;> rfl
  · rfl
/-! data read as typed values -/
def asI : D → M Int
  | .at (.int i) => .ok i
  | _ => .bad
def asB : D → M Bool
  | .at (.bl i) => .ok i
  | _ => .bad
def asS : D → M Str
  | .at (.str i) => .ok i
  | _ => .bad
def asL : D → M (List D)
  | .nd .lst ds => .ok ds
  | _ => .bad
def asLI (d : D) : M (List Int) := match d with
  | .nd .lst ds => M.opt (intsOf ds)
  | _ => .bad
theorem asI_1 : ∀ (d : D) (v : Int), asI d = .ok v → enc d = enc v := fun d v h => by
  unfold asI at h; split at h <;> cases h; rfl
theorem asI_2 : ∀ (d : D) (c : Nat), asI d ≠ .exc c := fun d c h => by unfold asI at h; split at h <;> cases h
theorem asB_1 : ∀ (d : D) (v : Bool), asB d = .ok v → enc d = enc v := fun d v h => by
  unfold asB at h; split at h <;> cases h; rfl
theorem asB_2 : ∀ (d : D) (c : Nat), asB d ≠ .exc c := fun d c h => by unfold asB at h; split at h <;> cases h
theorem asS_1 : ∀ (d : D) (v : Str), asS d = .ok v → enc d = enc v := fun d v h => by
  unfold asS at h; split at h <;> cases h; rfl
theorem asS_2 : ∀ (d : D) (c : Nat), asS d ≠ .exc c := fun d c h => by unfold asS at h; split at h <;> cases h
theorem asL_1 : ∀ (d : D) (v : List D), asL d = .ok v → enc d = enc v := fun d v h => by
  unfold asL at h; split at h <;> cases h
  show _ = D.nd .lst (List.map (fun d => d) _)
  rw [List.map_id']; rfl
theorem asL_2 : ∀ (d : D) (c : Nat), asL d ≠ .exc c := fun d c h => by unfold asL at h; split at h <;> cases h
theorem intsOf_some : ∀ {ds : List D} {ns : List Int}, intsOf ds = some ns → ds = ns.map D.int
  | [], ns, h => by cases h; rfl
  | d :: ds, ns, h => by
    unfold intsOf at h
    split at h
    · rename_i z; cases z
    · rename_i i es e
      cases e
      cases q : intsOf ds with
      | none => rw [q] at h; cases h
      | some ms => rw [q] at h; cases h; rw [intsOf_some q]; rfl
    · cases h
theorem asLI_1 : ∀ (d : D) (v : List Int), asLI d = .ok v → enc d = enc v := fun d v h => by
  unfold asLI at h
  split at h
  · rename_i ds
    cases q : intsOf ds with
    | none => rw [q] at h; cases h
    | some ms => rw [q] at h; cases h; rw [intsOf_some q]; rfl
  · cases h
theorem asLI_2 : ∀ (d : D) (c : Nat), asLI d ≠ .exc c := fun d c h => by
  unfold asLI at h
  split at h
  · rename_i ds
    cases q : intsOf ds <;> rw [q] at h <;> cases h
  · cases h
/-! dicts -/
def Dct.get? [DecidableEq κ] (d : Dct κ ν) (k : κ) : Option ν := (d.l.find? fun p => decide (p.1 = k)).map (·.2)
def Dct.has [DecidableEq κ] (d : Dct κ ν) (k : κ) : Bool := d.l.any fun p => decide (p.1 = k)
def Dct.put [DecidableEq κ] (d : Dct κ ν) (k : κ) (v : ν) : Dct κ ν := ⟨if d.has k then d.l.map (fun p => if p.1 = k then (p.1, v) else p) else d.l ++ [(k, v)]⟩
def Dct.keys (d : Dct κ ν) : List κ := d.l.map (·.1)
class EncL (κ : Type) [DecidableEq κ] extends EncK κ where
  look : ∀ ks vs k, dLook (.nd (nt ks) vs) (enc k) = some (lookK ks vs k)
  put : ∀ (ks : List κ) (ds : List D) (k : κ) (y : D), pmut .setIx (.nd (nt ks) ds) [y, enc k] = if ks.length = ds.length ∧ ds.length < szLim then some (.non, .nd (nt (putKs ks ds k y).1) (putKs ks ds k y).2) else none
  isd : ∀ ks : List κ, (∃ z, nt ks = .dK z) ∨ ∃ z, nt ks = .dT z
theorem lookK_map {κ' : Type} [DecidableEq κ] [DecidableEq κ'] {f : κ → κ'} (hf : ∀ a b, f a = f b → a = b) : ∀ (ks : List κ) (vs : List D) (k : κ), lookK (ks.map f) vs (f k) = lookK ks vs k
  | [], _, _ => rfl
  | _ :: _, [], _ => rfl
  | a :: ks, v :: vs, k => by
    show (if f a = f k then _ else lookK (ks.map f) vs (f k)) = if a = k then _ else _
    rw [lookK_map hf ks vs k]
    by_cases h : a = k
    · subst h; rw [if_pos rfl, if_pos rfl]
    · rw [if_neg fun z => h (hf _ _ z), if_neg h]
theorem putKs_map {κ' : Type} [DecidableEq κ] [DecidableEq κ'] {f : κ → κ'} (hf : ∀ a b, f a = f b → a = b) (ks : List κ) (vs : List D) (k : κ) (y : D) : putKs (ks.map f) vs (f k) y = ((putKs ks vs k y).1.map f, (putKs ks vs k y).2) := by
  unfold putKs
  have e : (f k ∈ ks.map f) ↔ k ∈ ks := by
    rw [List.mem_map]
    exact ⟨fun ⟨a, h1, h2⟩ => hf _ _ h2 ▸ h1, fun h => ⟨k, h, rfl⟩⟩
  by_cases h : k ∈ ks
  · rw [if_pos h, if_pos (e.mpr h)]
    congr 1
    rw [List.zip_map_left, List.map_map]
    refine List.map_congr_left fun p _ => ?_
    show (if f p.1 = f k then y else p.2) = if p.1 = k then y else p.2
    by_cases h2 : p.1 = k
    · rw [if_pos h2, if_pos (by rw [h2])]
    · rw [if_neg h2, if_neg fun z => h2 (hf _ _ z)]
  · rw [if_neg h, if_neg fun z => h (e.mp z)]
    simp
instance : EncL Int where
  look ks vs k := by
    show some (lookK (ks.map (Sum.inl : Int → Key)) vs (.inl k)) = _
    rw [lookK_map (f := (Sum.inl : Int → Key)) (fun a b h => by injection h)]
  put ks ds k y := by
    show pputD (ks.map (Sum.inl : Int → Key)) ds (some (.inl k)) y .dK = _
    unfold pputD
    dsimp only
    rw [List.length_map, putKs_map (f := (Sum.inl : Int → Key)) (fun a b h => by injection h)]
    rfl
  isd ks := .inl ⟨_, rfl⟩
instance : EncL Str where
  look ks vs k := by
    show some (lookK (ks.map (Sum.inr : Str → Key)) vs (.inr k)) = _
    rw [lookK_map (f := (Sum.inr : Str → Key)) (fun a b h => by injection h)]
  put ks ds k y := by
    show pputD (ks.map (Sum.inr : Str → Key)) ds (some (.inr k)) y .dK = _
    unfold pputD
    dsimp only
    rw [List.length_map, putKs_map (f := (Sum.inr : Str → Key)) (fun a b h => by injection h)]
    rfl
  isd ks := .inl ⟨_, rfl⟩
theorem inj2 : ∀ a b : T2 Int Int, ([.inl a.a, .inl a.b] : List Key) = [.inl b.a, .inl b.b] → a = b := fun a b h => by
  cases a; cases b
  simp at h
  obtain ⟨h1, h2⟩ := h
  subst h1 h2; rfl
instance : EncL (T2 Int Int) where
  look ks vs k := by
    show some (lookK (ks.map fun p => ([.inl p.a, .inl p.b] : List Key)) vs [.inl k.a, .inl k.b]) = _
    rw [lookK_map (f := fun p : T2 Int Int => ([.inl p.a, .inl p.b] : List Key)) inj2]
  put ks ds k y := by
    show pputD (ks.map fun p => ([.inl p.a, .inl p.b] : List Key)) ds (some [.inl k.a, .inl k.b]) y .dT = _
    unfold pputD
    dsimp only
    rw [List.length_map, putKs_map (f := fun p : T2 Int Int => ([.inl p.a, .inl p.b] : List Key)) inj2]
    rfl
  isd ks := .inr ⟨_, rfl⟩
variable [DecidableEq κ] [EncL κ]
theorem look_l : ∀ {l : List (κ × ν)} {k : κ}, lookK (l.map (·.1)) (l.map fun p => (enc p.2 : D)) k = (Dct.get? ⟨l⟩ k).map enc
  | [], k => rfl
  | p :: l, k => by
    show (if p.1 = k then some (enc p.2) else lookK (l.map (·.1)) (l.map fun p => enc p.2) k) = _
    rw [look_l (l := l)]
    unfold Dct.get?
    dsimp only
    rw [List.find?_cons]
    by_cases h : p.1 = k
    · rw [if_pos h, decide_eq_true h]; rfl
    · rw [if_neg h, decide_eq_false h]
theorem look_d {d : Dct κ ν} {k : κ} : dLook (enc d) (enc k) = some ((d.get? k).map enc) := by
  show dLook (.nd (EncK.nt (d.l.map (·.1))) (d.l.map fun p => enc p.2)) (enc k) = _
  rw [EncL.look, look_l]
theorem get_has {d : Dct κ ν} {k : κ} : (d.get? k).isSome = d.has k := by
  unfold Dct.get? Dct.has
  rw [Option.isSome_map, List.isSome_find?]
def dgetM (d : Dct κ ν) (k : κ) : M ν := M.opt (d.get? k)
theorem enc_dct {d : Dct κ ν} : (∃ z vs, (enc d : D) = .nd (.dK z) vs) ∨ ∃ z vs, (enc d : D) = .nd (.dT z) vs := by
  rcases EncL.isd (d.l.map (·.1)) with ⟨z, h⟩ | ⟨z, h⟩
  · exact .inl ⟨z, _, by show D.nd (EncK.nt _) _ = _; rw [h]⟩
  · exact .inr ⟨z, _, by show D.nd (EncK.nt _) _ = _; rw [h]⟩
theorem r_ixD {d : Dct κ ν} {k : κ} : OpR .ix [enc d, enc k] (dgetM d k) := by
  unfold dgetM
  cases e : d.get? k with
  | none => trivial
  | some v =>
    have q := look_d (d := d) (k := k)
    rw [e] at q
    show dIx (enc d) (enc k) = _
    rcases enc_dct (d := d) with ⟨z, vs, h⟩ | ⟨z, vs, h⟩
    · rw [h] at q ⊢
      have e : dIx (.nd (.dK z) vs) (enc k) = (dLook (.nd (.dK z) vs) (enc k)).join := by
        rcases (enc k : D) with a | ⟨t, xs⟩
        · cases a <;> rfl
        · cases t <;> rfl
      rw [e, q]; rfl
    · rw [h] at q ⊢
      have e : dIx (.nd (.dT z) vs) (enc k) = (dLook (.nd (.dT z) vs) (enc k)).join := by
        rcases (enc k : D) with a | ⟨t, xs⟩
        · cases a <;> rfl
        · cases t <;> rfl
      rw [e, q]; rfl
theorem q_inD' {d : Dct κ ν} {k : κ} : dIn (enc k) (enc d) = some (d.has k) := by
  have q := look_d (d := d) (k := k)
  rw [← get_has]
  rcases enc_dct (d := d) with ⟨z, vs, h⟩ | ⟨z, vs, h⟩
  · rw [h] at q ⊢
    have e : dIn (enc k) (.nd (.dK z) vs) = (dLook (.nd (.dK z) vs) (enc k)).map Option.isSome := by
      unfold dIn; split <;> first | rfl | (rename_i z1 z2; cases z2)
    rw [e, q]
    cases d.get? k <;> rfl
  · rw [h] at q ⊢
    have e : dIn (enc k) (.nd (.dT z) vs) = (dLook (.nd (.dT z) vs) (enc k)).map Option.isSome := by
      unfold dIn; split <;> first | rfl | (rename_i z1 z2; cases z2)
    rw [e, q]
    cases d.get? k <;> rfl
theorem q_inD {d : Dct κ ν} {k : κ} : opSem .inn [enc k, enc d] = some (.at (.bl (d.has k))) := by
  show (dIn (enc k) (enc d)).map D.bl = _
  rw [q_inD']; rfl
theorem q_ninD {d : Dct κ ν} {k : κ} : opSem .notIn [enc k, enc d] = some (.at (.bl (!d.has k))) := by
  show (dIn (enc k) (enc d)).map (fun c => D.bl (!c)) = _
  rw [q_inD']; rfl
theorem q_lenD {d : Dct Int ν} : opSem .len [enc d] = some (enc (d.l.length : Int)) := by
  show some (D.int (((d.l.map (·.1)).map .inl : List Key).length)) = _
  rw [List.length_map, List.length_map]; rfl
theorem q_dictI {d : Dct Int ν} : opSem .dict1 [enc d] = some (enc d) := rfl
def dputM (d : Dct κ ν) (k : κ) (v : ν) : M (Dct κ ν) := if d.l.length < szLim then .ok (d.put k v) else .bad
theorem put_l {d : Dct κ ν} {k : κ} {v : ν} : putKs (d.l.map (·.1)) (d.l.map fun p => (enc p.2 : D)) k (enc v) = ((d.put k v).l.map (·.1), (d.put k v).l.map fun p => enc p.2) := by
  unfold putKs Dct.put
  have e : (k ∈ d.l.map (·.1)) ↔ d.has k = true := by
    unfold Dct.has
    rw [List.any_eq_true, List.mem_map]
    exact ⟨fun ⟨a, h1, h2⟩ => ⟨a, h1, decide_eq_true h2⟩, fun ⟨a, h1, h2⟩ => ⟨a, h1, of_decide_eq_true h2⟩⟩
  by_cases h : k ∈ d.l.map (·.1)
  · rw [if_pos h, if_pos (e.mp h)]
    congr 1
    · rw [List.map_map]
      refine List.map_congr_left fun p _ => ?_
      show p.1 = (if p.1 = k then (p.1, v) else p).1
      split <;> rfl
    · rw [List.zip_map', List.map_map, List.map_map]
      refine List.map_congr_left fun p _ => ?_
      show (if p.1 = k then enc v else enc p.2) = enc (if p.1 = k then (p.1, v) else p).2
      split <;> rfl
  · rw [if_neg h, if_neg fun z => h (e.mpr z)]
    simp
theorem dput_pm {d d' : Dct κ ν} {k : κ} {v : ν} (h : dputM d k v = .ok d') : pmut .setIx (enc d) [enc v, enc k] = some (.at .non, enc d') := by
  unfold dputM at h
  split at h
  · rename_i hl
    cases h
    show pmut .setIx (.nd (EncK.nt (d.l.map (·.1))) (d.l.map fun p => enc p.2)) [enc v, enc k] = _
    rw [EncL.put, if_pos ⟨by rw [List.length_map, List.length_map], by rw [List.length_map]; exact hl⟩, put_l]
    rfl
  · cases h
variable {C : PCtx} {X : PEnv → Prop} {σ ρ : PEnv} {e a b c : IE} {es : IEs} {it : Itr} {ss A B : ISs} {stk : List ISs} {post : β → PFl → PEnv → Prop} {m : M β} {i : Nat}
omit [Enc β] in
theorem ks_dset {kx : IE} {d : Dct κ ν} {mv : M ν} {mk : M κ} {k : Dct κ ν → M β} (hs : pslot σ i = some (enc d)) (h : ME C σ e mv) (hkx : ME C σ kx mk) (hX : ∀ ρ, Sub σ ρ → X ρ) (hk : ∀ ys : Dct κ ν, KS C X (σ.set i (some (enc ys))) (ss :: stk) (k ys) post) : KS C X σ (.cons (.setIx i kx e) ss :: stk) (mv.bind fun v => mk.bind fun n => (dputM d n v).bind k) post := fun ρ s => by
  rw [pvKs_cons, S_setIx, pb_assoc]
  refine RX.of (h ρ s) hX fun v ρ1 s1 => ?_
  have pc : pcon ρ1 i = true := by
    rw [pcon_d, s1.slot hs]
    rcases enc_dct (d := d) with ⟨z, vs, h⟩ | ⟨z, vs, h⟩ <;> rw [h]
  rw [fSI1_, if_pos pc, pb_assoc]
  have q := mopd_of hkx s1
  cases mk with
  | bad => trivial
  | exc c => obtain ⟨ρ', e1, s2⟩ := q; rw [e1]; exact ⟨ρ', rfl, hX _ s2⟩
  | ok n =>
    obtain ⟨o, ρ2, e1, s2, g⟩ := q
    rw [e1, pb_ok, fSI2_, g ρ2 s2, s2.slot hs]
    dsimp only
    show RX X ((dputM d n v).bind k) post _
    cases e2 : dputM d n v with
    | bad => trivial
    | exc c => unfold dputM at e2; split at e2 <;> cases e2
    | ok y =>
      rw [dput_pm e2]
      exact hk y _ s2.set
end
end Px
namespace Px
open PySem L2 Enc

/-! ### more rules, and how a plain function is run -/
section
variable {α β γ τ S : Type}
theorem sr {α : Type} {x : α} {p : Prop} (h : p) : x = x ∧ p := ⟨rfl, h⟩
instance : Enc Empty := ⟨fun e => nomatch e⟩
structure KTup (α : Type) where
  l : List α
  deriving DecidableEq
instance [Enc α] : Enc (KTup α) := ⟨fun xs => .nd .ktup (xs.l.map enc)⟩
theorem r_ixK [Enc α] {xs : KTup α} {i : Int} : OpR .ix [enc xs, enc i] (atM xs.l i) := by
  unfold atM
  cases e : atI xs.l i with
  | none => trivial
  | some v =>
    show atI (xs.l.map enc) i = some (enc v)
    rw [atI_enc, e]; rfl
theorem q_lenK [Enc α] {xs : KTup α} : opSem .len [enc xs] = some (enc (xs.l.length : Int)) := by
  show some (D.int ((xs.l.map (enc : α → D)).length)) = _
  rw [List.length_map]; rfl
theorem q_list1K [Enc α] {xs : KTup α} : opSem .list1 [enc xs] = some (enc xs.l) := rfl
theorem hh_E {m : Empty → M β} {post : β → PFl → PEnv → Prop} : ∀ v : Empty, ∃ w, m v = .ok w ∧ ∀ ρ : PEnv, post w (.rt (enc v)) ρ := fun v => nomatch v
theorem q_mod {a b : Int} (h : decide (0 < b) = true) : opSem .mod [enc a, enc b] = some (enc (a % b)) := if_pos (of_decide_eq_true h)
theorem q_fdiv {a b : Int} (h : (decide (0 < b) && decide (b < 4611686018427387904)) = true) : opSem .fdiv [enc a, enc b] = some (enc (a / b)) := by
  rw [Bool.and_eq_true] at h
  have h1 := of_decide_eq_true h.1
  have h2 := of_decide_eq_true h.2
  exact op_fdiv h1 (by omega)
theorem q_pow {a b : Int} {n : Nat} (h : (decide (b = (n : Int)) && decide (n ≤ 10000) && decide (a.natAbs < 2 ^ 64)) = true) : opSem .pow [enc a, enc b] = some (enc (a ^ n)) := by
  simp only [Bool.and_eq_true, decide_eq_true_eq] at h
  obtain ⟨⟨rfl, h2⟩, h3⟩ := h
  show (if 0 ≤ (n : Int) ∧ (n : Int) ≤ 1000000 ∧ a.natAbs < 2 ^ 64 then some (D.int (a ^ (n : Int).toNat)) else none) = _
  rw [if_pos ⟨by omega, by omega, h3⟩, Int.toNat_natCast]
  rfl
variable {C : PCtx} {X : PEnv → Prop} {σ ρ : PEnv} {e : IE} {ss : ISs} {stk : List ISs} {post : β → PFl → PEnv → Prop} {i : Nat}
theorem ks_popT [Enc α] {xs : List α} {is : List Nat} {k : α → List α → M β} {st : α → List α → PEnv} (hs : pslot σ i = some (enc xs)) (ht : ∀ (v : α) (ys : List α), TG C (σ.set i (some (enc ys))) (.many is) v (st v ys)) (hd : ∀ v : α, ∃ ds, enc v = .nd .tup ds) (hX : ∀ ρ, Sub σ ρ → X ρ) (hk : ∀ (v : α) (ys : List α), KS C X (st v ys) (ss :: stk) (k v ys) post) : KS C X σ (.cons (.asgT is (.mut .pop i .nil)) ss :: stk) (popK xs k) post := fun ρ s => by
  rw [pvKs_cons, S_asgT, pb_assoc]
  refine mut_run (mo := .pop) (m1 := .ok ()) (vals := fun _ => []) (τ := α × List α) (w := fun _ => popL xs) (f := fun p => enc p.2) (g := fun p => enc p.1) (k := fun _ v ρ' => (fAT1 C is v ρ').bind (fK C (ss :: stk))) (kk := fun p => k p.1 p.2) (fun ρ s => ⟨ρ, y_esn, s⟩) hs enc_lst hX (fun x y hy => popL_pm hy) (fun x c => popL_x) (fun y ρ' s' => ?_) s (fun _ => rfl)
  obtain ⟨ds, e1⟩ := hd y.1
  obtain ⟨ρ2, e2, s2⟩ := ht y.1 y.2 ρ' s'
  rw [e1] at e2 ⊢
  rw [fAT1_, e2]
  exact hk y.1 y.2 _ s2
theorem pe_dget {κ ν : Type} [DecidableEq κ] [EncL κ] [Enc ν] {es : IEs} {d : Dct κ ν} {k : κ} {v : ν} (hs : pslot σ i = some (enc d)) (h : PO C σ es [enc k, enc v]) {t : At} (ha : (enc v : D) = .at t) : PE C σ (.dget i es) ((d.get? k).getD v) := fun ρ s => by
  obtain ⟨os, e1, g⟩ := h ρ s
  obtain ⟨h1, h2, h3, _, h5⟩ := g.get s
  have pd : pdct ρ i = true := by
    rw [pdct_d, s.slot hs]
    rcases enc_dct (d := d) with ⟨z, vs, h⟩ | ⟨z, vs, h⟩ <;> rw [h]
  rw [y_dget, if_pos pd, e1, pb_ok, if_pos h3, h5, if_neg (by simp)]
  have e2 : pget ρ (.b i :: os) = some [enc d, enc k, enc v] := by
    show (pslot ρ i).bind _ = _
    rw [s.slot hs]
    show (pget ρ os).map _ = _
    rw [h1]; rfl
  rw [e2]
  show popt (opSem .get2 [enc d, enc k, enc v]) ρ = _
  rw [ha]
  show popt ((dLook (enc d) (enc k)).map fun o => o.getD (.at t)) ρ = _
  rw [look_d]
  cases d.get? k with
  | none => show RP.ok (D.at t) ρ = RP.ok (enc v) ρ; rw [ha]
  | some w => rfl
/-! ### what a plain function comes to -/
/-- comes to a value that has Q -/
def Ok (m : M α) (Q : α → Prop) : Prop := ∃ a, m = .ok a ∧ Q a
@[simp] theorem mB_ok {a : α} {f : α → M β} : (M.ok a).bind f = f a := id rfl
@[simp] theorem mB_bad {f : α → M β} : (M.bad : M α).bind f = .bad := id rfl
@[simp] theorem mB_exc {c : Nat} {f : α → M β} : (M.exc c : M α).bind f = .exc c := id rfl
@[simp] theorem mB_ret {m : M α} : (m.bind fun v => .ok v) = m := by cases m <;> rfl
theorem mB_assoc {m : M α} {f : α → M β} {g : β → M γ} : (m.bind f).bind g = m.bind fun a => (f a).bind g := by cases m <;> rfl
@[simp] theorem mB_ite {c : Prop} [Decidable c] {a b : M α} {f : α → M β} : (if c then a else b : M α).bind f = if c then a.bind f else b.bind f := by split <;> rfl
@[simp] theorem lt_def {v : α} {k : α → M β} : M.lt v k = k v := id rfl
@[simp] theorem mOpt_some {v : α} : M.opt (some v) = .ok v := id rfl
@[simp] theorem mOpt_none : M.opt (none : Option α) = .bad := id rfl
@[simp] theorem tryc_ok {a : α} {c : Nat} {h : M β} {k : α → M β} : M.tryc (.ok a) c h k = k a := id rfl
@[simp] theorem tryc_exc {c' c : Nat} {h : M β} {k : α → M β} : M.tryc (.exc c' : M α) c h k = if c' = c ∨ c = 0 then h else .bad := id rfl
@[simp] theorem lp_fin {s : S} {k : S → M β} {h : α → M β} : M.lp (.ok (.fin s)) k h = k s := id rfl
@[simp] theorem lp_ret {v : α} {k : S → M β} {h : α → M β} : M.lp (.ok (.ret v) : M (Lp S α)) k h = h v := id rfl
@[simp] theorem immM_at [Enc α] {v : α} (h : imm (enc v) = true) : immM v = .ok v := if_pos h
@[simp] theorem nx_ok {y : β} : nx (.ok y) = .ok (some y) := id rfl
@[simp] theorem cnd_t {m : M β} : cnd (.ok true) m = nx m := id rfl
@[simp] theorem cnd_f {m : M β} : cnd (.ok false) m = .ok none := id rfl
@[simp] theorem asI_enc {i : Int} : asI (enc i) = .ok i := id rfl
@[simp] theorem asB_enc {i : Bool} : asB (enc i) = .ok i := id rfl
@[simp] theorem asS_enc {i : Str} : asS (enc i) = .ok i := id rfl
@[simp] theorem enc_D {d : D} : (enc d : D) = d := id rfl
@[simp] theorem mulM_ok {a b : Int} (ha : a.natAbs < 1606938044258990275541962092341162602522202993782792835301376) (hb : b.natAbs < 1606938044258990275541962092341162602522202993782792835301376) : mulM a b = .ok (a * b) := if_pos (mulOk_of (Nat.lt_trans ha (by decide)) (Nat.lt_trans hb (by decide)))
@[simp] theorem modM_ok {a b : Int} (h : 0 < b) : modM a b = .ok (a % b) := if_pos h
@[simp] theorem fdivM_ok {a b : Int} (h : 0 < b) (h2 : b < 1606938044258990275541962092341162602522202993782792835301376) : fdivM a b = .ok (a / b) := if_pos ⟨h, by
  have : b.natAbs.log2 < 200 := log2_lt (by omega) (by decide)
  omega⟩
@[simp] theorem appM_ok {xs : List α} {v : α} (h : xs.length < 16777216) : app xs v = .ok (xs ++ [v]) := if_pos h
@[simp] theorem extM_ok {xs ys : List α} (h : xs.length + ys.length ≤ 16777216) : ext xs ys = .ok (xs ++ ys) := if_pos h
@[simp] theorem atM_ok [Inhabited α] {xs : List α} {i : Int} (h0 : 0 ≤ i) (h1 : i < xs.length) : atM xs i = .ok (nth xs i) := by unfold atM; rw [atI_nn h0 h1]; rfl
@[simp] theorem setL_ok {xs : List α} {n : Int} {v : α} (h0 : 0 ≤ n) (h1 : n < xs.length) : setL xs n v = .ok (xs.set n.toNat v) := by
  unfold setL
  rw [ixN_nn h0 h1]
@[simp] theorem compF_map {f : τ → β} {xs : List τ} (h : xs.length < 16777216) : compF (fun x => .ok (some (f x))) xs = .ok (xs.map f) := by
  have : ∀ xs : List τ, filMM (fun x => M.ok (some (f x))) xs = .ok (xs.map f) := fun xs => by
    induction xs with
    | nil => rfl
    | cons x xs ih => unfold filMM; rw [ih]; rfl
  unfold compF
  rw [if_pos h, this]
@[simp] theorem dputM_ok {κ ν : Type} [DecidableEq κ] [EncL κ] [Enc ν] {d : Dct κ ν} {k : κ} {v : ν} (h : d.l.length < 16777216) : dputM d k v = .ok (d.put k v) := if_pos h
theorem filMM_eq {f : τ → M (Option β)} (g : τ → Option β) : ∀ {xs : List τ}, (∀ x ∈ xs, f x = .ok (g x)) → filMM f xs = .ok (xs.filterMap g)
  | [], _ => rfl
  | x :: xs, h => by
    unfold filMM
    rw [h x List.mem_cons_self, mB_ok, filMM_eq g fun y hy => h y (List.mem_cons_of_mem _ hy), mB_ok, List.filterMap_cons]
    cases g x <;> rfl
theorem compF_eq {f : τ → M (Option β)} (g : τ → Option β) {xs : List τ} (hl : xs.length < 16777216) (h : ∀ x ∈ xs, f x = .ok (g x)) : compF f xs = .ok (xs.filterMap g) := by
  unfold compF
  rw [if_pos hl, filMM_eq g h]
theorem compF_mapE {f : τ → M (Option β)} (g : τ → β) {xs : List τ} (hl : xs.length < 16777216) (h : ∀ x ∈ xs, f x = .ok (some (g x))) : compF f xs = .ok (xs.map g) := by
  rw [compF_eq (fun x => some (g x)) hl h, List.filterMap_eq_map']
@[simp] theorem rngM1 {n : Int} (h : n < 1000000) (h0 : -1000000 < n) : rngM [n] = .ok ((List.range n.toNat).map fun (k : Nat) => (k : Int)) := by
  unfold rngM rngInts
  simp only [List.map_cons, List.map_nil]
  have e : -(2 ^ 62) ≤ n ∧ n < 2 ^ 62 := ⟨by omega, by omega⟩
  rw [if_pos e]
  rfl
@[simp] theorem rngM2 {a b : Int} (h : -1000000 < a) (h2 : a < 1000000) (h3 : -1000000 < b) (h4 : b < 1000000) : rngM [a, b] = .ok ((List.range (b - a).toNat).map fun (k : Nat) => a + (k : Int)) := by
  unfold rngM rngInts
  simp only [List.map_cons, List.map_nil]
  have e : -(2 ^ 62) ≤ a ∧ a < 2 ^ 62 ∧ -(2 ^ 62) ≤ b ∧ b < 2 ^ 62 := ⟨by omega, by omega, by omega, by omega⟩
  rw [if_pos e]
  rfl
/-! loops -/
/-- a loop by what holds behind each turn -/
theorem fold_ex {f : τ → S → M S} (I : List τ → S → Prop) {all : List τ} {s0 : S} (h0 : I [] s0) (hs : ∀ pre x post s, all = pre ++ x :: post → I pre s → ∃ s', f x s = .ok s' ∧ I (pre ++ [x]) s') : ∃ s', foldM f all s0 = .ok s' ∧ I all s' := by
  suffices h : ∀ (post pre : List τ) (s : S), all = pre ++ post → I pre s → ∃ s', foldM f post s = .ok s' ∧ I all s' from h all [] s0 rfl h0
  intro post
  induction post with
  | nil => intro pre s e h; exact ⟨s, rfl, by rw [e, List.append_nil]; exact h⟩
  | cons x post ih =>
    intro pre s e h
    obtain ⟨s', e1, h1⟩ := hs pre x post s e h
    obtain ⟨s2, e2, h2⟩ := ih (pre ++ [x]) s' (by rw [e]; simp) h1
    exact ⟨s2, by unfold foldM; rw [e1, mB_ok, e2], h2⟩
/-- a loop whose states are told -/
theorem fold_st {f : τ → S → M S} (g : S → τ → S) (I : List τ → S → Prop) {all : List τ} {s0 : S} (h0 : I [] s0) (hs : ∀ pre x post s, all = pre ++ x :: post → I pre s → f x s = .ok (g s x) ∧ I (pre ++ [x]) (g s x)) : foldM f all s0 = .ok (all.foldl g s0) ∧ I all (all.foldl g s0) := by
  suffices h : ∀ (post pre : List τ) (s : S), all = pre ++ post → I pre s → foldM f post s = .ok (post.foldl g s) ∧ I all (post.foldl g s) from h all [] s0 rfl h0
  intro post
  induction post with
  | nil => intro pre s e h; exact ⟨rfl, by rw [e, List.append_nil]; exact h⟩
  | cons x post ih =>
    intro pre s e h
    obtain ⟨e1, h1⟩ := hs pre x post s e h
    obtain ⟨e2, h2⟩ := ih (pre ++ [x]) (g s x) (by rw [e]; simp) h1
    exact ⟨by unfold foldM; rw [e1, mB_ok, e2]; rfl, h2⟩
/-- a loop that may end ahead: what holds where it ends -/
theorem foldR_ex {f : τ → S → M (Stp S α)} (I : List τ → S → Prop) (Q : Lp S α → Prop) {all : List τ} {s0 : S} (h0 : I [] s0)
    (hs : ∀ pre x post s, all = pre ++ x :: post → I pre s → ∃ r, f x s = .ok r ∧ match r with | .go s' => I (pre ++ [x]) s' | .stop s' => Q (.fin s') | .ret v => Q (.ret v))
    (hf : ∀ s, I all s → Q (.fin s)) : ∃ r, foldR f all s0 = .ok r ∧ Q r := by
  suffices h : ∀ (post pre : List τ) (s : S), all = pre ++ post → I pre s → ∃ r, foldR f post s = .ok r ∧ Q r from h all [] s0 rfl h0
  intro post
  induction post with
  | nil => intro pre s e h; exact ⟨.fin s, rfl, hf s (by rw [e, List.append_nil]; exact h)⟩
  | cons x post ih =>
    intro pre s e h
    obtain ⟨r, e1, h1⟩ := hs pre x post s e h
    unfold foldR
    rw [e1]
    cases r with
    | go s' => exact ih (pre ++ [x]) s' (by rw [e]; simp) h1
    | stop s' => exact ⟨_, rfl, h1⟩
    | ret v => exact ⟨_, rfl, h1⟩
/-- a loop that only looks, and goes back with v at the first that has p -/
theorem foldR_find {f : τ → S → M (Stp S α)} (p : τ → Bool) (v : α) {s : S} : ∀ {all : List τ}, (∀ x ∈ all, f x s = .ok (if p x then .ret v else .go s)) → foldR f all s = .ok (if all.any p then .ret v else .fin s)
  | [], _ => rfl
  | x :: xs, h => by
    unfold foldR
    rw [h x List.mem_cons_self, List.any_cons]
    cases p x with
    | true => rfl
    | false => exact foldR_find p v fun y hy => h y (List.mem_cons_of_mem _ hy)
/-- a loop that comes to its end with nothing changed -/
theorem foldM_id {f : τ → S → M S} {s : S} : ∀ {all : List τ}, (∀ x ∈ all, f x s = .ok s) → foldM f all s = .ok s
  | [], _ => rfl
  | x :: xs, h => by
    unfold foldM
    rw [h x List.mem_cons_self, mB_ok]
    exact foldM_id fun y hy => h y (List.mem_cons_of_mem _ hy)
/-! what a plain function comes to, step by step -/
section
variable {m : M α} {P Q : α → Prop} {R : β → Prop} {k : α → M β}
@[simp] theorem ok_ok {a : α} : Ok (M.ok a) Q ↔ Q a := ⟨fun ⟨b, e, h⟩ => by cases e; exact h, fun h => ⟨a, rfl, h⟩⟩
theorem ok_of {a : α} (e : m = .ok a) (h : Q a) : Ok m Q := ⟨a, e, h⟩
theorem Ok.imp (h : Ok m P) (k : ∀ a, P a → Q a) : Ok m Q := by
  obtain ⟨a, e, h⟩ := h
  exact ⟨a, e, k a h⟩
theorem Ok.bind (h : Ok m P) (hk : ∀ a, P a → Ok (k a) R) : Ok (m.bind k) R := by
  obtain ⟨a, e, h⟩ := h
  rw [e]
  exact hk a h
@[simp] theorem ok_bind : Ok (m.bind k) R ↔ Ok m fun a => Ok (k a) R := by
  constructor
  · rintro ⟨b, e, h⟩
    cases m with
    | bad => cases e
    | exc c => cases e
    | ok a => exact ⟨a, rfl, b, e, h⟩
  · rintro ⟨a, rfl, h⟩
    exact h
theorem ok_if {c : Prop} [Decidable c] {a b : M α} (h1 : c → Ok a Q) (h2 : ¬ c → Ok b Q) : Ok (if c then a else b) Q := by
  split
  · exact h1 ‹_›
  · exact h2 ‹_›
theorem ok_fold {f : τ → S → M S} (I : List τ → S → Prop) {all : List τ} {s0 : S} (h0 : I [] s0) (hs : ∀ pre x post s, all = pre ++ x :: post → I pre s → Ok (f x s) (I (pre ++ [x]))) : Ok (foldM f all s0) (I all) := fold_ex I h0 hs
theorem ok_lp {r : M (Lp S α)} {k : S → M β} {h : α → M β} (q : Ok r fun x => match x with | .fin s => Ok (k s) R | .ret a => Ok (h a) R) : Ok (r.lp k h) R := by
  obtain ⟨x, rfl, q⟩ := q
  cases x <;> exact q
theorem ok_foldR {f : τ → S → M (Stp S α)} (I : List τ → S → Prop) {Q : Lp S α → Prop} {all : List τ} {s0 : S} (h0 : I [] s0)
    (hs : ∀ pre x post s, all = pre ++ x :: post → I pre s → Ok (f x s) fun r => match r with | .go s' => I (pre ++ [x]) s' | .stop s' => Q (.fin s') | .ret v => Q (.ret v))
    (hf : ∀ s, I all s → Q (.fin s)) : Ok (foldR f all s0) Q := foldR_ex I Q h0 hs hf
theorem ok_whl {t : S → M Bool} {f : S → M (Stp S α)} (I : Nat → S → Prop) {Q : Lp S α → Prop}
    (hs : ∀ k s, I k s → (t s = .ok false ∧ Q (.fin s)) ∨ (t s = .ok true ∧ Ok (f s) fun r => match r with | .go s' => ∃ k', k' < k ∧ I k' s' | .stop s' => Q (.fin s') | .ret v => Q (.ret v))) :
    ∀ {n : Nat} {k : Nat} {s : S}, I k s → k < n → Ok (whlR t f n s) Q
  | 0, k, s, h, hn => absurd hn (by omega)
  | n + 1, k, s, h, hn => by
    unfold whlR
    rcases hs k s h with ⟨e, q⟩ | ⟨e, r, e2, q⟩
    · rw [e]; exact ⟨_, rfl, q⟩
    · rw [e]
      dsimp only
      rw [e2]
      cases r with
      | go s' =>
        obtain ⟨k', hk, q⟩ := q
        exact ok_whl I hs q (by omega)
      | stop s' => exact ⟨_, rfl, q⟩
      | ret v => exact ⟨_, rfl, q⟩
theorem ok_comp {f : τ → M (Option β)} (P : τ → Option β → Prop) {xs : List τ} {Q : List β → Prop} (hl : xs.length < 16777216) (h : ∀ x ∈ xs, Ok (f x) (P x)) (hq : ∀ g : τ → Option β, (∀ x ∈ xs, f x = .ok (g x) ∧ P x (g x)) → Q (xs.filterMap g)) : Ok (compF f xs) Q := by
  have hg : ∀ x : τ, ∃ y, x ∈ xs → f x = .ok y ∧ P x y := fun x => by
    by_cases hx : x ∈ xs
    · obtain ⟨y, e, q⟩ := h x hx
      exact ⟨y, fun _ => ⟨e, q⟩⟩
    · exact ⟨none, fun z => absurd z hx⟩
  have hc := Classical.axiomOfChoice hg
  obtain ⟨g, hg⟩ := hc
  exact ⟨_, compF_eq g hl fun x hx => (hg x hx).1, hq g hg⟩
/-- a comprehension without a test: so many, and all have P -/
theorem ok_map {f : τ → M (Option β)} (P : β → Prop) {xs : List τ} (hl : xs.length < 16777216) (h : ∀ x ∈ xs, Ok (f x) fun y => ∃ z, y = some z ∧ P z) : Ok (compF f xs) fun ys => ys.length = xs.length ∧ ∀ y ∈ ys, P y := by
  refine ok_comp (fun _ y => ∃ z, y = some z ∧ P z) hl h fun g hg => ?_
  clear hl h
  induction xs with
  | nil => simp
  | cons x xs ih =>
    obtain ⟨_, z, e, pz⟩ := hg x List.mem_cons_self
    obtain ⟨h1, h2⟩ := ih fun y hy => hg y (List.mem_cons_of_mem _ hy)
    rw [List.filterMap_cons, e]
    exact ⟨by simp [h1], fun y hy => (List.mem_cons.mp hy).elim (fun e => e ▸ pz) (h2 y)⟩
end
theorem mem_range_int {n : Int} {pre post : List Int} {x : Int} (e : (List.range n.toNat).map (fun (k : Nat) => (k : Int)) = pre ++ x :: post) : 0 ≤ x ∧ x < n ∧ x = pre.length := by
  have h : x ∈ (List.range n.toNat).map fun (k : Nat) => (k : Int) := by rw [e]; simp
  have hx : ((List.range n.toNat).map fun (k : Nat) => (k : Int))[pre.length]? = some x := by rw [e]; simp
  simp only [List.mem_map, List.mem_range] at h
  obtain ⟨k, hk, rfl⟩ := h
  have : pre.length < n.toNat := by
    have := congrArg List.length e
    simp at this
    omega
  rw [List.getElem?_map, List.getElem?_range this] at hx
  simp at hx
  omega
/-! the law -/
theorem cs_law {m : M Bool} {r : CP} (h : CS m r) (e : m = .ok true) : r = .ok (.bl true) [] := by
  rw [e] at h
  exact h.h
end
end Px
namespace Px
open PySem L2 Enc

/-! ### plain functions: lists, slices, == -/
section
variable {α β γ τ S : Type}
@[simp] theorem popK_app {xs : List α} {v : α} {k : α → List α → M β} : popK (xs ++ [v]) k = k v xs := by
  unfold popK popL
  rw [List.getLast?_append]
  simp
theorem cutL_mapD {xs : List α} {lo hi : Option Int} : cutL xs lo hi = (xs.drop (HT.sIx xs.length 0 lo)).take (HT.sIx xs.length xs.length hi - HT.sIx xs.length 0 lo) := rfl
@[simp] theorem cutL_to {xs : List α} {j : Int} (h : 0 ≤ j) : cutL xs none (some j) = xs.take j.toNat := by
  rw [cutL_mapD, HT.sIx_none, sIx_nn h, Nat.sub_zero, List.drop_zero]
  by_cases h : j.toNat ≤ xs.length
  · rw [Nat.min_eq_left h]
  · rw [Nat.min_eq_right (by omega), List.take_of_length_le (Nat.le_refl _), List.take_of_length_le (by omega)]
@[simp] theorem cutL_from {xs : List α} {j : Int} (h : 0 ≤ j) : cutL xs (some j) none = xs.drop j.toNat := by
  rw [cutL_mapD, HT.sIx_none, sIx_nn h]
  by_cases h : j.toNat ≤ xs.length
  · rw [Nat.min_eq_left h, List.take_of_length_le (by rw [List.length_drop]; omega)]
  · rw [Nat.min_eq_right (by omega), Nat.sub_self, List.take_zero, List.drop_eq_nil_of_le (by omega)]
@[simp] theorem cutL_mid {xs : List α} {i j : Int} (hi : 0 ≤ i) (hj : 0 ≤ j) : cutL xs (some i) (some j) = (xs.drop i.toNat).take (j.toNat - i.toNat) := by
  rw [cutL_mapD, sIx_nn hi, sIx_nn hj]
  by_cases h : i.toNat ≤ xs.length
  · rw [Nat.min_eq_left h]
    by_cases h2 : j.toNat ≤ xs.length
    · rw [Nat.min_eq_left h2]
    · rw [Nat.min_eq_right (by omega), List.take_of_length_le (by rw [List.length_drop]; omega), List.take_of_length_le (by rw [List.length_drop]; omega)]
  · have e : min i.toNat xs.length = xs.length := by omega
    rw [e, List.drop_eq_nil_of_le (Nat.le_refl _), List.drop_eq_nil_of_le (show xs.length ≤ i.toNat by omega)]; simp
@[simp] theorem cutL_last {xs : List α} : cutL xs none (some (-1)) = xs.dropLast := by
  rw [cutL_mapD, HT.sIx_none, Nat.sub_zero, List.drop_zero, List.dropLast_eq_take]
  congr 1
  show (if ((-1 : Int) < 0) then ((-1 : Int) + (xs.length : Int)).toNat else min (-1 : Int).toNat xs.length) = xs.length - 1
  rw [if_pos (by decide)]
  omega
@[simp] theorem cutL_all {xs : List α} : cutL xs none none = xs := by
  rw [cutL_mapD, HT.sIx_none, HT.sIx_none]
  simp
@[simp] theorem lrngM1 {n : Int} (h : n < 1000000) (h0 : -1000000 < n) : lrngM [n] = .ok ((List.range n.toNat).map fun (k : Nat) => (k : Int)) := by
  unfold lrngM
  rw [rngM1 h h0, mB_ok, if_pos (by simp [szLim]; omega)]
@[simp] theorem lrngM2 {a b : Int} (h : -1000000 < a) (h2 : a < 1000000) (h3 : -1000000 < b) (h4 : b < 1000000) : lrngM [a, b] = .ok ((List.range (b - a).toNat).map fun (k : Nat) => a + (k : Int)) := by
  unfold lrngM
  rw [rngM2 h h2 h3 h4, mB_ok, if_pos (by simp [szLim]; omega)]
@[simp] theorem deqM_nil [Enc α] [Enc β] {xs : List α} : deqM xs ([] : List β) = .ok (decide (xs = [])) := by
  unfold deqM
  cases xs with
  | nil => rfl
  | cons x xs =>
    have : dEq (enc (x :: xs)) (enc ([] : List β)) = some false := by
      show dEq (.nd .lst ((x :: xs).map enc)) (.nd .lst []) = some false
      unfold dEq
      dsimp only
      split
      · simp [deq, deqs]
      · unfold dLens
        dsimp only
        rw [if_pos (by simp)]
    rw [this]
    rfl
/-! == on typed values -/
mutual
theorem eqOk_mono : ∀ {n m : Nat} {d : D}, n ≤ m → eqOk n d = true → eqOk m d = true
  | n, m, .at a, _, h => by cases n <;> cases m <;> cases a <;> simp [eqOk] at h ⊢ <;> exact h
  | 0, m, .nd t xs, _, h => by cases t <;> simp [eqOk] at h
  | n + 1, 0, .nd t xs, hm, h => absurd hm (by omega)
  | n + 1, m + 1, .nd t xs, hm, h => by
    cases t <;> first | (simp only [eqOk] at h ⊢; exact eqOks_mono (by omega) h) | (simp [eqOk] at h)
theorem eqOks_mono : ∀ {n m : Nat} {ds : List D}, n ≤ m → eqOks n ds = true → eqOks m ds = true
  | n, m, [], _, h => by simp
  | n, m, d :: ds, hm, h => by
    simp only [eqOks_cons, Bool.and_eq_true] at h ⊢
    exact ⟨eqOk_mono hm h.1, eqOks_mono hm h.2⟩
end
class EqT (α : Type) [Enc α] [DecidableEq α] (n : outParam Nat) where
  ok : ∀ a : α, eqOk n (enc a) = true
  eq : ∀ a b : α, deq (enc a) (enc b) = decide (a = b)
instance : EqT Int 0 := ⟨fun a => eqOk_int, fun a b => by show deq (.at (.int a)) (.at (.int b)) = _; rw [deq]; rw [Bool.eq_iff_iff]; simp⟩
instance : EqT Bool 0 := ⟨fun a => eqOk_bl, fun a b => by show deq (.at (.bl a)) (.at (.bl b)) = _; rw [deq]; rw [Bool.eq_iff_iff]; simp⟩
theorem eqOks_enc [Enc α] [DecidableEq α] {n : Nat} [EqT α n] {xs : List α} : eqOks n (xs.map (enc : α → D)) = true := by
  induction xs with
  | nil => simp
  | cons x xs ih => rw [List.map_cons, eqOks_cons, EqT.ok, ih]; rfl
theorem deqs_enc [Enc α] [DecidableEq α] {n : Nat} [EqT α n] {xs ys : List α} : deqs (xs.map (enc : α → D)) (ys.map enc) = decide (xs = ys) := by
  induction xs generalizing ys with
  | nil => cases ys <;> rfl
  | cons x xs ih => cases ys with
    | nil => rfl
    | cons y ys => rw [List.map_cons, List.map_cons, deqs, EqT.eq, ih]; rw [Bool.eq_iff_iff]; simp
instance [Enc α] [DecidableEq α] {n : Nat} [EqT α n] : EqT (List α) (n + 1) := ⟨fun a => by
  show eqOk (n + 1) (.nd .lst (a.map enc)) = true
  rw [eqOk_lst, eqOks_enc], fun a b => by
  show deq (.nd .lst (a.map enc)) (.nd .lst (b.map enc)) = _
  rw [deq, deqs_enc]⟩
instance [Enc α] [DecidableEq α] {n : Nat} [EqT α n] : EqT (Tup α) (n + 1) := ⟨fun a => by
  show eqOk (n + 1) (.nd .tup (a.l.map enc)) = true
  rw [eqOk_tup, eqOks_enc], fun a b => by
  show deq (.nd .tup (a.l.map enc)) (.nd .tup (b.l.map enc)) = _
  rw [deq, deqs_enc]
  cases a; cases b
  rw [Bool.eq_iff_iff]; simp⟩
instance [Enc α] [DecidableEq α] [Enc β] [DecidableEq β] {n m : Nat} [EqT α n] [EqT β m] : EqT (T2 α β) (n + m + 1) := ⟨fun a => by
  show eqOk (n + m + 1) (.nd .tup [enc a.a, enc a.b]) = true
  rw [eqOk_tup, eqOks_cons, eqOks_cons, eqOk_mono (by omega) (EqT.ok a.a), eqOk_mono (by omega) (EqT.ok a.b), eqOks_nil]; rfl, fun a b => by
  show deq (.nd .tup [enc a.a, enc a.b]) (.nd .tup [enc b.a, enc b.b]) = _
  rw [deq, deqs, deqs, deqs, EqT.eq, EqT.eq]
  cases a; cases b
  rw [Bool.eq_iff_iff]; simp⟩
instance [Enc α] [DecidableEq α] [Enc β] [DecidableEq β] [Enc γ] [DecidableEq γ] {n m k : Nat} [EqT α n] [EqT β m] [EqT γ k] : EqT (T3 α β γ) (n + m + k + 1) := ⟨fun a => by
  show eqOk (n + m + k + 1) (.nd .tup [enc a.a, enc a.b, enc a.c]) = true
  rw [eqOk_tup, eqOks_cons, eqOks_cons, eqOks_cons, eqOk_mono (by omega) (EqT.ok a.a), eqOk_mono (by omega) (EqT.ok a.b), eqOk_mono (by omega) (EqT.ok a.c), eqOks_nil]; rfl, fun a b => by
  show deq (.nd .tup [enc a.a, enc a.b, enc a.c]) (.nd .tup [enc b.a, enc b.b, enc b.c]) = _
  rw [deq, deqs, deqs, deqs, deqs, EqT.eq, EqT.eq, EqT.eq]
  cases a; cases b
  rw [Bool.eq_iff_iff]; simp⟩
@[simp] theorem deqM_eq [Enc α] [DecidableEq α] {n : Nat} [EqT α n] {x y : α} (hn : n ≤ 190) : deqM x y = .ok (decide (x = y)) := by
  unfold deqM dEq
  have h1 : eqOk 190 (enc x) = true := eqOk_mono hn (EqT.ok x)
  have h2 : eqOk 190 (enc y) = true := eqOk_mono hn (EqT.ok y)
  split
  · rename_i u v e1 e2
    have := EqT.eq x y
    rw [e1, e2, deq] at this
    rw [this]
    rfl
  · rw [h1, h2, Bool.and_self, if_pos rfl, EqT.eq]
    rfl
/-- == of a thing with itself -/
theorem deqM_refl [Enc α] {x : α} (h : eqOk 190 (enc x) = true) : deqM x x = .ok true := by
  unfold deqM dEq
  split
  · rename_i u v e1 e2
    rw [e1] at e2
    cases e2
    simp
  · rw [h, Bool.and_self, if_pos rfl, deq_refl 190 _ h]
    rfl
@[simp] theorem immM_T {r : Tup Int} : immM r = .ok r := by
  apply immM_at
  show imm (.nd .tup (r.l.map fun i => D.at (.int i))) = true
  simp
instance : Inhabited (Tup α) := ⟨⟨[]⟩⟩
instance [Inhabited α] [Inhabited β] : Inhabited (T2 α β) := ⟨⟨default, default⟩⟩
instance [Inhabited α] [Inhabited β] [Inhabited γ] : Inhabited (T3 α β γ) := ⟨⟨default, default, default⟩⟩
end
end Px
namespace Px
open PySem L2

/-! ### own exceptions and constants at the program's top -/
section
variable {K : W.Frag} {x : Str} {C C0 C2 : Addr} {Pg : Prg}
theorem eh_mk (a : PySem.W.nsIn K mainGlobals x = some (some (.ref C))) (q : PySem.W.excIn K C [.type "ValueError", .type "Exception", .type "BaseException", .type "object"] "ValueError.__new__" = true) (k : PySem.W.keepIn K (.ref C) = true)
    (b : PySem.W.subIn K (.ref C) (.type "BaseException") = some true) (t : PySem.W.typeIn K (.ref C) = some (.type "type")) : EH K x C := ⟨a, q, k, b, t⟩
theorem exm_pair (b : PySem.W.subIn K (.ref C2) (.type "BaseException") = some true) (i : PySem.W.isClsIn K C2 = true) (t : PySem.W.typeIn K (.ref C2) = some (.type "type")) (s : PySem.W.subIn K (.ref C) (.ref C2) = some true) : PySem.W.exmOne K (.ref C) (.ref C2) = some true := by
  have e1 : (PySem.W.subIn K (.ref C2) (.type "BaseException") == some true) = true := by rw [b]; rfl
  have e2 : ((PySem.W.clsIn K C2).isSome && PySem.W.typeIn K (.ref C2) == some (.type "type")) = true := by
    have i' : (PySem.W.clsIn K C2).isSome = true := i
    rw [i', t]; rfl
  show (if (PySem.W.subIn K (.ref C2) (.type "BaseException") == some true) = true then (if ((PySem.W.clsIn K C2).isSome && PySem.W.typeIn K (.ref C2) == some (.type "type")) = true then PySem.W.subIn K (.ref C) (.ref C2) else none) else none) = some true
  rw [if_pos e1, if_pos e2]
  exact s
/-- each is what its own name and the first one's name catch -/
def EmL (K : W.Frag) (C0 : Addr) : List Addr → Prop
  | [] => True
  | C :: cs => PySem.W.exmOne K (.ref C) (.ref C) = some true ∧ PySem.W.exmOne K (.ref C) (.ref C0) = some true ∧ EmL K C0 cs
theorem emL_get : ∀ {cs : List Addr} {j : Nat} {C : Addr}, EmL K C0 cs → cs[j]? = some C → PySem.W.exmOne K (.ref C) (.ref C) = some true ∧ PySem.W.exmOne K (.ref C) (.ref C0) = some true
  | [], _, _, _, h => by simp at h
  | _ :: _, 0, _, q, h => by simp at h; subst h; exact ⟨q.1, q.2.1⟩
  | _ :: cs, j + 1, _, q, h => emL_get (cs := cs) (j := j) q.2.2 (by simpa using h)
theorem em_mk {ex : List Str} {cs : List Addr} (hl : ex.length = (C0 :: cs).length) (h : EmL K C0 (C0 :: cs)) : EmIn K ex (C0 :: cs) := by
  intro c c' y hy hc
  have hc2 : c < (C0 :: cs).length := by rw [← hl]; exact (List.getElem?_eq_some_iff.mp hy).1
  have at0 : clsOf (C0 :: cs) 0 = .ref C0 := rfl
  have all : ∀ j, (∃ C, clsOf (C0 :: cs) j = .ref C ∧ (C0 :: cs)[j]? = some C) ∨ clsOf (C0 :: cs) j = .ref C0 := fun j => by
    unfold clsOf
    cases e : (C0 :: cs)[j]? with
    | none => exact .inr rfl
    | some C => exact .inl ⟨C, rfl, rfl⟩
  rcases hc with rfl | rfl
  · rcases all c' with ⟨C, e1, e2⟩ | e
    · rw [e1]; exact (emL_get h e2).1
    · rw [e]; exact h.1
  · rw [at0]
    rcases all c' with ⟨C, e1, e2⟩ | e
    · rw [e1]; exact (emL_get h e2).2
    · rw [e]; exact h.1
def GlobL (K : W.Frag) (Pg : Prg) : Nat → List Str → Prop
  | _, [] => True
  | g, x :: xs => (∃ u v, PySem.W.nsIn K mainGlobals x = some (some u) ∧ RelV v u ∧ Rep K noH noH [] v (Pg.glob g)) ∧ GlobL K Pg (g + 1) xs
theorem globL_get : ∀ {gl : List Str} {k g : Nat} {x : Str}, GlobL K Pg k gl → gl[g]? = some x → ∃ u v, PySem.W.nsIn K mainGlobals x = some (some u) ∧ RelV v u ∧ Rep K noH noH [] v (Pg.glob (k + g))
  | [], _, _, _, _, h => by simp at h
  | _ :: _, k, 0, _, q, h => by simp at h; subst h; exact q.1
  | _ :: gl, k, g + 1, _, q, h => by
    have r := globL_get (gl := gl) (k := k + 1) (g := g) q.2 (by simpa using h)
    rw [show k + (g + 1) = k + 1 + g by omega]
    exact r
theorem glob_of {gl : List Str} (h : GlobL K Pg 0 gl) : GlobIn K Pg gl := fun g x e => by
  have r := globL_get h e
  rw [Nat.zero_add] at r
  exact r
theorem gl_int {i : Int} {t : Tok} {d : D} (a : PySem.W.nsIn K mainGlobals x = some (some (.int i t))) (e : d = .int i) : ∃ u v, PySem.W.nsIn K mainGlobals x = some (some u) ∧ RelV v u ∧ Rep K noH noH [] v d := by
  subst e
  exact ⟨_, .int i, a, ⟨t, rfl⟩, .at (.int i)⟩
theorem gl_str {i : Str} {t : Tok} {d : D} (a : PySem.W.nsIn K mainGlobals x = some (some (.str i t))) (e : d = .str i) : ∃ u v, PySem.W.nsIn K mainGlobals x = some (some u) ∧ RelV v u ∧ Rep K noH noH [] v d := by
  subst e
  exact ⟨_, .str i, a, ⟨t, rfl⟩, .at (.str i)⟩
end
end Px
namespace Px
open PySem L2 Enc

/-! ### more typed rules: sorted pairs, data read as typed values, += at a place -/
section
variable {α β γ δ ε ν S : Type}
theorem tg_four [Enc α] [Enc β] [Enc γ] [Enc δ] {C : PCtx} {σ : PEnv} {i j k l : Nat} {x : T4 α β γ δ} (h : okI C.io σ i = true) (h2 : okI C.io σ j = true) (hk : okI C.io σ k = true) (hl : okI C.io σ l = true) : TG C σ (.many [i, j, k, l]) x ((((σ.set i (some (enc x.a))).set j (some (enc x.b))).set k (some (enc x.c))).set l (some (enc x.d))) := fun ρ s => by
  obtain ⟨h1, h3⟩ := okI_1 h s
  obtain ⟨h4, h5⟩ := okI_1 h2 s
  obtain ⟨h6, h7⟩ := okI_1 hk s
  obtain ⟨h8, h9⟩ := okI_1 hl s
  refine ⟨(((ρ.set i (some (enc x.a))).set j (some (enc x.b))).set k (some (enc x.c))).set l (some (enc x.d)), ?_, s.set.set.set.set⟩
  show ptgt C.io (.many [i, j, k, l]) (.nd .tup [enc x.a, enc x.b, enc x.c, enc x.d]) ρ = _
  rw [ptgt_tup, if_pos (by simp), ptgo_cons, if_neg h1, if_pos h3, ptgo_cons, if_neg h4, if_pos (by rw [List.length_set]; exact h5), ptgo_cons, if_neg h6, if_pos (by rw [List.length_set, List.length_set]; exact h7), ptgo_cons, if_neg h8, if_pos (by rw [List.length_set, List.length_set, List.length_set]; exact h9), ptgo_nil]
theorem enc_mapL [Enc α] [Enc β] {f : α → β} (h : ∀ x, enc x = enc (f x)) (xs : List α) : (enc xs : D) = enc (xs.map f) := by
  show D.nd .lst (xs.map enc) = D.nd .lst ((xs.map f).map enc)
  rw [List.map_map]
  congr 1
  exact List.map_congr_left fun x _ => h x
theorem enc_mapT [Enc α] [Enc β] {f : α → β} (h : ∀ x, enc x = enc (f x)) (xs : Tup α) : (enc xs : D) = enc (Tup.mk (xs.l.map f)) := by
  show D.nd .tup (xs.l.map enc) = D.nd .tup ((xs.l.map f).map enc)
  rw [List.map_map]
  congr 1
  exact List.map_congr_left fun x _ => h x
/-! data read as typed values, whatever the type -/
class Dec (α : Type) [Enc α] where
  dec : D → Option α
  sound : ∀ d v, dec d = some v → d = enc v
  comp : ∀ v, dec (enc v) = some v
instance : Dec D := ⟨some, fun d v h => by cases h; rfl, fun v => rfl⟩
instance : Dec Int := ⟨fun d => match d with | .at (.int i) => some i | _ => none, fun d v h => by split at h <;> (first | (cases h; rfl) | cases h), fun v => rfl⟩
instance : Dec Bool := ⟨fun d => match d with | .at (.bl i) => some i | _ => none, fun d v h => by split at h <;> (first | (cases h; rfl) | cases h), fun v => rfl⟩
instance : Dec Str := ⟨fun d => match d with | .at (.str i) => some i | _ => none, fun d v h => by split at h <;> (first | (cases h; rfl) | cases h), fun v => rfl⟩
instance : Dec Unit := ⟨fun d => match d with | .at .non => some () | _ => none, fun d v h => by split at h <;> (first | (cases h; rfl) | cases h), fun v => rfl⟩
def decs [Enc α] [Dec α] : List D → Option (List α)
  | [] => some []
  | d :: ds => (Dec.dec d).bind fun v => (decs ds).map (v :: ·)
theorem decs_1 [Enc α] [Dec α] : ∀ {ds : List D} {vs : List α}, decs ds = some vs → ds = vs.map enc
  | [], vs, h => by cases h; rfl
  | d :: ds, vs, h => by
    unfold decs at h
    cases e : (Dec.dec d : Option α) with
    | none => rw [e] at h; cases h
    | some v =>
      cases e2 : (decs ds : Option (List α)) with
      | none => rw [e, e2] at h; cases h
      | some ws => rw [e, e2] at h; cases h; rw [List.map_cons, ← decs_1 e2, ← Dec.sound d v e]
theorem decs_2 [Enc α] [Dec α] : ∀ {vs : List α}, decs (vs.map enc) = some vs
  | [] => rfl
  | v :: vs => by rw [List.map_cons, decs, Dec.comp, decs_2]; rfl
instance [Enc α] [Dec α] : Dec (List α) := ⟨fun d => match d with | .nd .lst ds => decs ds | _ => none, fun d v h => by
  split at h
  · rw [decs_1 h]; rfl
  · exact absurd h (by simp), fun v => decs_2⟩
instance [Enc α] [Dec α] : Dec (Tup α) := ⟨fun d => match d with | .nd .tup ds => (decs ds).map Tup.mk | _ => none, fun d v h => by
  split at h
  · rename_i ds
    cases e : (decs ds : Option (List α)) with
    | none => rw [e] at h; cases h
    | some ws => rw [e] at h; cases h; rw [decs_1 e]; rfl
  · exact absurd h (by simp), fun v => by show (decs (v.l.map enc)).map Tup.mk = _; rw [decs_2]; rfl⟩
instance [Enc α] [Dec α] [Enc β] [Dec β] : Dec (T2 α β) := ⟨fun d => match d with | .nd .tup [a, b] => (Dec.dec a).bind fun x => (Dec.dec b).map fun y => ⟨x, y⟩ | _ => none, fun d v h => by
  split at h
  · rename_i a b
    cases e : (Dec.dec a : Option α) with
    | none => rw [e] at h; cases h
    | some x =>
      cases e2 : (Dec.dec b : Option β) with
      | none => rw [e, e2] at h; cases h
      | some y => rw [e, e2] at h; cases h; rw [Dec.sound a x e, Dec.sound b y e2]; rfl
  · exact absurd h (by simp), fun v => by show ((Dec.dec (enc v.a)).bind fun x => (Dec.dec (enc v.b)).map fun y => (⟨x, y⟩ : T2 α β)) = _; rw [Dec.comp, Dec.comp]; rfl⟩
instance [Enc α] [Dec α] [Enc β] [Dec β] [Enc γ] [Dec γ] : Dec (T3 α β γ) := ⟨fun d => match d with | .nd .tup [a, b, c] => (Dec.dec a).bind fun x => (Dec.dec b).bind fun y => (Dec.dec c).map fun z => ⟨x, y, z⟩ | _ => none, fun d v h => by
  split at h
  · rename_i a b c
    cases e : (Dec.dec a : Option α) with
    | none => rw [e] at h; cases h
    | some x =>
      cases e2 : (Dec.dec b : Option β) with
      | none => rw [e, e2] at h; cases h
      | some y =>
        cases e3 : (Dec.dec c : Option γ) with
        | none => rw [e, e2, e3] at h; cases h
        | some z => rw [e, e2, e3] at h; cases h; rw [Dec.sound a x e, Dec.sound b y e2, Dec.sound c z e3]; rfl
  · exact absurd h (by simp), fun v => by show ((Dec.dec (enc v.a)).bind fun x => (Dec.dec (enc v.b)).bind fun y => (Dec.dec (enc v.c)).map fun z => (⟨x, y, z⟩ : T3 α β γ)) = _; rw [Dec.comp, Dec.comp, Dec.comp]; rfl⟩
def asM [Enc α] [Dec α] (d : D) : M α := M.opt (Dec.dec d)
theorem asM_1 [Enc α] [Dec α] (d : D) (v : α) (h : asM d = .ok v) : enc d = enc v := by
  unfold asM at h
  cases e : (Dec.dec d : Option α) with
  | none => rw [e] at h; cases h
  | some w => rw [e] at h; cases h; exact Dec.sound d _ e
theorem asM_2 [Enc α] [Dec α] (d : D) (c : Nat) : (asM d : M α) ≠ .exc c := fun h => by
  unfold asM at h
  cases e : (Dec.dec d : Option α) with
  | none => rw [e] at h; cases h
  | some u => rw [e] at h; cases h
@[simp] theorem asM_enc [Enc α] [Dec α] (v : α) : asM (enc v) = .ok v := by unfold asM; rw [Dec.comp]; rfl
/-! sorted pairs -/
def sortP (ps : List (T2 Int Int)) : List (T2 Int Int) := ((ps.map fun p => (p.a, p.b)).mergeSort lexB).map fun p => ⟨p.1, p.2⟩
theorem pairsOf_enc : ∀ {ps : List (T2 Int Int)}, pairsOf (ps.map enc) = some (ps.map fun p => (p.a, p.b))
  | [] => rfl
  | p :: ps => by
    rw [List.map_cons, pairsOf, pairsOf_enc]
    rfl
theorem sortP_enc {ps : List (T2 Int Int)} : ((ps.map fun p => (p.a, p.b)).mergeSort lexB).map pairD = (sortP ps).map enc := by
  unfold sortP
  rw [List.map_map]
  rfl
theorem q_sortP {ps : List (T2 Int Int)} : opSem .sorted1 [enc ps] = some (enc (sortP ps)) := by
  show dSorted (ps.map enc) = some (D.nd .lst ((sortP ps).map enc))
  cases ps with
  | nil => unfold sortP dSorted; simp [intsOf]
  | cons p ps =>
    have e : intsOf ((p :: ps).map (enc : T2 Int Int → D)) = none := rfl
    unfold dSorted
    rw [e]
    dsimp only
    rw [pairsOf_enc, ← sortP_enc]
    rfl
theorem kpairsOf_enc : ∀ {ps : List (T2 Int Int)}, kpairsOf (ps.map fun p => [.inl p.a, .inl p.b]) = some (ps.map fun p => (p.a, p.b))
  | [] => rfl
  | p :: ps => by
    rw [List.map_cons, kpairsOf, kpairsOf_enc]
    rfl
theorem q_sortDT [Enc ν] {d : Dct (T2 Int Int) ν} : opSem .sorted1 [enc d] = some (enc (sortP d.keys)) := by
  show (kpairsOf ((d.l.map (·.1)).map fun p => [.inl p.a, .inl p.b])).map (fun ps => D.lst ((ps.mergeSort lexB).map pairD)) = some (D.nd .lst ((sortP d.keys).map enc))
  rw [kpairsOf_enc, ← sortP_enc]
  rfl
theorem kintsOf_enc : ∀ {ks : List Int}, kintsOf (ks.map .inl) = some ks
  | [] => rfl
  | k :: ks => by
    rw [List.map_cons, kintsOf, kintsOf_enc]
    rfl
def sortKM (d : Dct Int ν) : M (List Int) := if d.l.length < 64 then .ok (sortI d.keys) else .bad
theorem r_sortK [Enc ν] {d : Dct Int ν} : OpR .sorted1 [enc d] (sortKM d) := by
  unfold sortKM
  have e : opSem .sorted1 [(enc d : D)] = if d.l.length < 64 then some (enc (sortI d.keys)) else none := by
    show ((kintsOf ((d.l.map (·.1)).map .inl)).bind fun ns => if ns.length < 64 then some (D.lst ((ns.mergeSort (fun a b => decide (a ≤ b))).map D.int)) else none) = _
    rw [kintsOf_enc, Option.bind_some, List.length_map]
    rfl
  split
  · rename_i h
    rw [if_pos h] at e
    exact e
  · trivial
@[simp] theorem sortKM_ok {d : Dct Int ν} (h : d.l.length < 64) : sortKM d = .ok (sortI d.keys) := if_pos h
theorem sortP_perm {ps : List (T2 Int Int)} : (sortP ps).Perm ps := by
  unfold sortP
  have h := (List.mergeSort_perm (ps.map fun p => (p.a, p.b)) lexB).map fun p : Int × Int => (⟨p.1, p.2⟩ : T2 Int Int)
  rw [List.map_map] at h
  have e : ps.map ((fun p : Int × Int => (⟨p.1, p.2⟩ : T2 Int Int)) ∘ fun p => (p.a, p.b)) = ps := by
    conv => rhs; rw [← List.map_id ps]
    exact List.map_congr_left fun p _ => rfl
  rw [e] at h
  exact h
@[simp] theorem mem_sortP {ps : List (T2 Int Int)} {p : T2 Int Int} : p ∈ sortP ps ↔ p ∈ ps := sortP_perm.mem_iff
@[simp] theorem length_sortP {ps : List (T2 Int Int)} : (sortP ps).length = ps.length := sortP_perm.length_eq
theorem sortI_perm {ns : List Int} : (sortI ns).Perm ns := List.mergeSort_perm ns _
@[simp] theorem mem_sortI {ns : List Int} {n : Int} : n ∈ sortI ns ↔ n ∈ ns := sortI_perm.mem_iff
@[simp] theorem length_sortI {ns : List Int} : (sortI ns).length = ns.length := sortI_perm.length_eq
theorem sortI_sorted {ns : List Int} : (sortI ns).Pairwise (· ≤ ·) := by
  have q := List.pairwise_mergeSort (le := fun a b : Int => decide (a ≤ b)) (fun a b c h1 h2 => by simp only [decide_eq_true_eq] at *; omega) (fun a b => by simp only [Bool.or_eq_true, decide_eq_true_eq]; omega) ns
  exact q.imp fun h => of_decide_eq_true h
def leP (p q : T2 Int Int) : Prop := p.a < q.a ∨ (p.a = q.a ∧ p.b ≤ q.b)
theorem sortP_sorted {ps : List (T2 Int Int)} : (sortP ps).Pairwise leP := by
  unfold sortP
  rw [List.pairwise_map]
  refine (List.pairwise_mergeSort (le := lexB) (fun a b c h1 h2 => by rw [lexB_iff] at *; omega) (fun a b => by simp only [Bool.or_eq_true, lexB_iff]; omega) (ps.map fun p => (p.a, p.b))).imp fun {a b} h => ?_
  rw [lexB_iff] at h
  exact h
theorem sortP_eq' {ps qs : List (T2 Int Int)} (h : qs.Perm ps) (hs : qs.Pairwise leP) : qs = sortP ps := by
  refine List.Perm.eq_of_pairwise (le := leP) (fun a b _ _ h1 h2 => ?_) hs sortP_sorted (h.trans sortP_perm.symm)
  unfold leP at h1 h2
  have e1 : a.a = b.a := by omega
  have e2 : a.b = b.b := by omega
  cases a; cases b
  simp at e1 e2
  rw [e1, e2]
variable {C : PCtx} {X : PEnv → Prop} {σ ρ : PEnv} {e kx : IE} {ss : ISs} {stk : List ISs} {post : β → PFl → PEnv → Prop} {i : Nat}
/-- xs[n] += v -/
theorem ks_augIx {xs : List Int} {o : Op} {mk mv : M Int} {f : Int → Int → Int} {k : List Int → M β} (hs : pslot σ i = some (enc xs)) (ho : augOk o = true) (hf : ∀ a v : Int, opSem o [enc a, enc v] = some (enc (f a v))) (hkx : ME C σ kx mk) (h : ME C σ e mv) (hX : ∀ ρ, Sub σ ρ → X ρ)
    (hk : ∀ ys : List Int, KS C X (σ.set i (some (enc ys))) (ss :: stk) (k ys) post) : KS C X σ (.cons (.augIx i o kx e) ss :: stk) (mk.bind fun n => (atM xs n).bind fun a => mv.bind fun v => (setL xs n (f a v)).bind k) post := fun ρ s => by
  rw [pvKs_cons, S_augIx, plst_d, s.slot hs, ho]
  show RX X _ post (((if (!true || !true) = true then .bad else (popd kx ρ (pvE C kx ρ)).bind (fAI1 C i o e))).bind _)
  rw [if_neg (by decide), pb_assoc]
  have q := mopd_of hkx s
  cases mk with
  | bad => trivial
  | exc c => obtain ⟨ρ', e1, s2⟩ := q; rw [e1]; exact ⟨ρ', rfl, hX _ s2⟩
  | ok n =>
    obtain ⟨oo, ρ1, e1, s1, g⟩ := q
    rw [e1, pb_ok, fAI1_, g ρ1 s1, s1.slot hs]
    dsimp only
    show RX X ((atM xs n).bind _) post ((match paugG (.nd .lst (xs.map enc)) (.at (.int n)) with | some (n, a) => (popd e ρ1 (pvE C e ρ1)).bind (fAI2 i o n a) | none => .bad).bind _)
    have ep : paugG (.nd .lst (xs.map enc)) (.at (.int n)) = (atI xs n).map fun a => (n, a) := by
      show (match atI (xs.map enc) n with | some (.at (.int a)) => some (n, a) | _ => none) = _
      rw [atI_enc]
      cases atI xs n <;> rfl
    rw [ep]
    unfold atM
    cases e2 : atI xs n with
    | none => trivial
    | some a =>
      show RX X (mv.bind _) post (((popd e ρ1 (pvE C e ρ1)).bind (fAI2 i o n a)).bind _)
      rw [pb_assoc]
      have q2 := mopd_of h s1
      cases mv with
      | bad => trivial
      | exc c => obtain ⟨ρ', e3, s2⟩ := q2; rw [e3]; exact ⟨ρ', rfl, hX _ s2⟩
      | ok v =>
        obtain ⟨o2, ρ2, e3, s2, g2⟩ := q2
        rw [e3, pb_ok, fAI2_, g2 ρ2 s2, s2.slot hs]
        dsimp only
        have hf' : opSem o [D.at (.int a), enc v] = some (.at (.int (f a v))) := hf a v
        rw [hf']
        dsimp only
        show RX X ((setL xs n (f a v)).bind k) post _
        cases e4 : setL xs n (f a v) with
        | bad => trivial
        | exc c => unfold setL at e4; split at e4 <;> cases e4
        | ok y =>
          have := setL_pm e4
          rw [show pmut .setIx (enc xs) [.int (f a v), .int n] = some (.at .non, enc y) from this]
          exact hk y _ s2.set
/-! a list one layer down -/
theorem ks_mutG {x : D} {mk : M Int} {m : MOp} {a : Option MA} {av : Option At} {τ : Type} {f : Int → M τ} {g : τ → D} {kk : τ → M β} (hs : pslot σ i = some x) (hkx : ME C σ kx mk) (ha : ∀ ρ, Sub σ ρ → paos ρ a = some av) (hX : ∀ ρ, Sub σ ρ → X ρ)
    (hf : ∀ n y, mk = .ok n → f n = .ok y → mutAtD m x (.at (.int n)) av = some (g y)) (hx : ∀ n c, f n ≠ .exc c) (hk : ∀ y : τ, KS C X (σ.set i (some (g y))) (ss :: stk) (kk y) post) : KS C X σ (.cons (.mutAt i kx m a) ss :: stk) (mk.bind fun n => (f n).bind kk) post := fun ρ s => by
  rw [pvKs_cons, S_mutAt, s.slot hs]
  show RX X _ post ((if true = true then (popd kx ρ (pvE C kx ρ)).bind (pMA i m a) else .bad).bind _)
  rw [if_pos rfl, pb_assoc]
  have q := mopd_of hkx s
  cases mk with
  | bad => trivial
  | exc c => obtain ⟨ρ', e1, s2⟩ := q; rw [e1]; exact ⟨ρ', rfl, hX _ s2⟩
  | ok n =>
    obtain ⟨o, ρ2, e1, s2, gg⟩ := q
    rw [e1, pb_ok]
    unfold pMA
    rw [gg ρ2 s2, s2.slot hs, ha ρ2 s2]
    dsimp only
    show RX X ((f n).bind kk) post _
    cases e2 : f n with
    | bad => trivial
    | exc c => exact absurd e2 (hx n c)
    | ok y =>
      have e3 := hf n y rfl e2
      rw [show mutAtD m x (enc n) av = some (g y) from e3]
      exact hk y _ s2.set
theorem ao_none {ρ : PEnv} (_ : Sub σ ρ) : paos ρ none = some none := rfl
theorem ao_cst {ρ : PEnv} {c : At} (_ : Sub σ ρ) : paos ρ (some (.cst c)) = some (some c) := rfl
theorem ao_var {ρ : PEnv} {j : Nat} {c : At} (h : pslot σ j = some (.at c)) (s : Sub σ ρ) : paos ρ (some (.var j)) = some (some c) := by
  show (pao ρ (.var j)).map some = _
  unfold pao
  dsimp only
  rw [s.slot h]; rfl
/-- x[c].clear(), x a tuple -/
theorem ks_clrAt [Enc α] {x w : α} {c : Int} {k : α → M β} (hs : pslot σ i = some (enc x)) (hkx : PE C σ kx c) (hX : ∀ ρ, Sub σ ρ → X ρ) (hw : mutAtD .clear (enc x) (.at (.int c)) none = some (enc w)) (hk : ∀ y : α, KS C X (σ.set i (some (enc y))) (ss :: stk) (k y) post) : KS C X σ (.cons (.mutAt i kx .clear none) ss :: stk) (M.lt w k) post :=
  ks_mutG (mk := .ok c) (f := fun _ => .ok w) (g := enc) (av := none) hs (me_of hkx) (fun _ => ao_none) hX (fun n y e1 e2 => by cases e1; cases e2; exact hw) (fun n c z => by cases z) hk
/-- xss[n].append(v) -/
theorem ks_appAt [Enc α] {xss : List (List α)} {v : α} {mk : M Int} {a : MA} {av : At} {k : List (List α) → M β} (hs : pslot σ i = some (enc xss)) (hkx : ME C σ kx mk) (hv : (enc v : D) = .at av) (ha : ∀ ρ, Sub σ ρ → paos ρ (some a) = some (some av)) (hX : ∀ ρ, Sub σ ρ → X ρ)
    (hk : ∀ y : List (List α), KS C X (σ.set i (some (enc y))) (ss :: stk) (k y) post) : KS C X σ (.cons (.mutAt i kx .append (some a)) ss :: stk) (mk.bind fun n => ((atM xss n).bind fun xs => (app xs v).bind fun ys => setL xss n ys).bind k) post := by
  refine ks_mutG (f := fun n => (atM xss n).bind fun xs => (app xs v).bind fun ys => setL xss n ys) (g := enc) (av := some av) hs hkx ha hX (fun n y e1 e2 => ?_) (fun n c z => ?_) hk
  · unfold atM at e2
    cases e3 : atI xss n with
    | none => rw [e3] at e2; cases e2
    | some xs =>
      rw [e3] at e2
      have e2 : (app xs v).bind (fun ys => setL xss n ys) = .ok y := e2
      unfold app at e2
      split at e2
      · rename_i hl
        have e2 : setL xss n (xs ++ [v]) = .ok y := e2
        unfold setL at e2
        unfold atI at e3
        cases e4 : ixN xss.length n with
        | none => rw [e4] at e2; cases e2
        | some j =>
          rw [e4] at e2 e3
          have e3 : xss[j]? = some xs := e3
          cases e2
          show (ixN (xss.map enc).length n).bind (fun j => match (xss.map (enc : List α → D))[j]? with
            | some (.nd .lst cs) => (mutC .append cs (some av)).map fun cs' => D.nd .lst ((xss.map enc).set j (.nd .lst cs'))
            | _ => none) = some (D.nd .lst ((xss.set j (xs ++ [v])).map enc))
          rw [List.length_map, e4, Option.bind_some, List.getElem?_map, e3]
          show (if (xs.map (enc : α → D)).length < szLim then some (xs.map enc ++ [D.at av]) else none).map (fun cs' => D.nd .lst ((xss.map (enc : List α → D)).set j (.nd .lst cs'))) = _
          rw [if_pos (by rw [List.length_map]; exact hl), Option.map_some, List.map_set, ← hv]
          congr 2
          show _ = (xss.map enc).set j (D.nd .lst ((xs ++ [v]).map enc))
          rw [List.map_append]
          rfl
      · cases e2
  · revert z
    unfold atM
    cases atI xss n with
    | none => intro z; cases z
    | some xs =>
      show (app xs v).bind (fun ys => setL xss n ys) = .exc c → False
      unfold app
      split
      · show setL xss n (xs ++ [v]) = .exc c → False
        unfold setL
        split <;> (intro z; cases z)
      · intro z; cases z
/-! loops that look at each item and go back with v at the first that fails -/
def chk {τ : Type} (ok : S → τ → Bool) (g : S → τ → S) : List τ → S → Bool
  | [], _ => true
  | x :: xs, s => ok s x && chk ok g xs (g s x)
theorem foldR_chk {τ : Type} {f : τ → S → M (Stp S α)} (ok : S → τ → Bool) (g : S → τ → S) (v : α) (I : S → Prop) : ∀ {xs : List τ} {s : S}, I s → (∀ x ∈ xs, ∀ s, I s → f x s = .ok (if ok s x then .go (g s x) else .ret v) ∧ (ok s x = true → I (g s x))) →
    foldR f xs s = .ok (if chk ok g xs s then .fin (xs.foldl g s) else .ret v)
  | [], s, _, _ => rfl
  | x :: xs, s, hi, h => by
    obtain ⟨e, h2⟩ := h x List.mem_cons_self s hi
    unfold foldR chk
    rw [e]
    cases q : ok s x with
    | false => rfl
    | true => exact foldR_chk ok g v I (h2 q) fun y hy s hs => h y (List.mem_cons_of_mem _ hy) s hs
/-! a question of a word and two things, against itself -/
theorem deqM_q3 [Enc β] [DecidableEq β] [Enc γ] [DecidableEq γ] {n m : Nat} [EqT β n] [EqT γ m] {w : Str} {b : β} {c : γ} (hw : PyData.strOk w = true) (hn : n ≤ 189) (hm : m ≤ 189) : deqM (⟨w, b, c⟩ : T3 Str β γ) (⟨w, b, c⟩ : T3 Str β γ) = .ok true := by
  refine deqM_refl ?_
  show eqOk 190 (.nd .tup [.at (.str w), enc b, enc c]) = true
  have h1 : eqOk 189 (enc b) = true := eqOk_mono hn (EqT.ok b)
  have h2 : eqOk 189 (enc c) = true := eqOk_mono hm (EqT.ok c)
  simp only [eqOk, eqOks, h1, h2, hw, Bool.and_true]
theorem deqM_q2 [Enc β] [DecidableEq β] {n : Nat} [EqT β n] {w : Str} {b : β} (hw : PyData.strOk w = true) (hn : n ≤ 189) : deqM (⟨w, b⟩ : T2 Str β) (⟨w, b⟩ : T2 Str β) = .ok true := by
  refine deqM_refl ?_
  show eqOk 190 (.nd .tup [.at (.str w), enc b]) = true
  have h1 : eqOk 189 (enc b) = true := eqOk_mono hn (EqT.ok b)
  simp only [eqOk, eqOks, h1, hw, Bool.and_true]
theorem all_map_id {τ : Type} {f : τ → Bool} {xs : List τ} : (xs.map f).all id = xs.all f := by rw [List.all_map]; rfl
theorem any_map_id {τ : Type} {f : τ → Bool} {xs : List τ} : (xs.map f).any id = xs.any f := by rw [List.any_map]; rfl
theorem cutL_len {xs : List α} {a b : Option Int} : (cutL xs a b).length ≤ xs.length := by
  rw [cutL_mapD, List.length_take, List.length_drop]
  omega
theorem mem_cutL {xs : List α} {a b : Option Int} {x : α} (h : x ∈ cutL xs a b) : x ∈ xs := by
  rw [cutL_mapD] at h
  exact List.mem_of_mem_drop (List.mem_of_mem_take h)
theorem enumL_at {xs : List α} {pre post : List (T2 Int α)} {p : T2 Int α} (e : enumL xs = pre ++ p :: post) : p.a = pre.length ∧ xs[pre.length]? = some p.b := by
  have h : (enumL xs)[pre.length]? = some p := by rw [e]; simp
  unfold enumL at h
  rw [List.getElem?_mapIdx] at h
  cases q : xs[pre.length]? with
  | none => rw [q] at h; cases h
  | some x => rw [q] at h; cases h; exact ⟨rfl, rfl⟩
theorem enumL_length {xs : List α} : (enumL xs).length = xs.length := by unfold enumL; simp
/-! more of what plain operations come to -/
theorem anyq {n : Int} {xs : List Int} : ((xs.map (enc : Int → D)).any fun y => deq y (.at (.int n))) = decide (n ∈ xs) := by
  rw [List.any_map, Bool.eq_iff_iff, List.any_eq_true]
  simp only [decide_eq_true_eq]
  constructor
  · rintro ⟨x, hx, e⟩
    have e : deq (enc x) (enc n) = true := e
    rw [EqT.eq] at e
    rw [← of_decide_eq_true e]; exact hx
  · intro h
    refine ⟨n, h, ?_⟩
    show deq (enc n) (enc n) = true
    rw [EqT.eq, decide_eq_true rfl]
theorem flats {xs : List Int} : (xs.map (enc : Int → D)).all flatD = true := by
  rw [List.all_map, List.all_eq_true]
  intro x _; rfl
theorem inM_L {n : Int} {xs : List Int} : inM n xs = .ok (decide (n ∈ xs)) := by
  show M.opt (if flatD (.at (.int n)) && (xs.map (enc : Int → D)).all flatD then some ((xs.map (enc : Int → D)).any fun y => deq y (.at (.int n))) else if eqOk 60 (.at (.int n)) && eqOks 60 (xs.map (enc : Int → D)) then some ((xs.map (enc : Int → D)).any fun y => deq y (.at (.int n))) else none) = _
  rw [flats, anyq]; rfl
theorem inM_T {n : Int} {xs : Tup Int} : inM n xs = .ok (decide (n ∈ xs.l)) := by
  show M.opt (if flatD (.at (.int n)) && (xs.l.map (enc : Int → D)).all flatD then some ((xs.l.map (enc : Int → D)).any fun y => deq y (.at (.int n))) else none) = _
  rw [flats, anyq]; rfl
theorem inM_T2 {n : Int} {p : T2 Int Int} : inM n p = .ok (decide (n = p.a ∨ n = p.b)) := by
  have := inM_T (n := n) (xs := ⟨[p.a, p.b]⟩)
  have e : (decide (n ∈ [p.a, p.b])) = decide (n = p.a ∨ n = p.b) := by simp
  rw [e] at this
  exact this
theorem opD_shr {a b : Int} (h : 0 ≤ b) : opD .shr [(enc a : D), (enc b : D)] = .ok (enc (a / 2 ^ b.toNat)) := by
  show M.opt (if 0 ≤ b then some (D.int (a / 2 ^ b.toNat)) else none) = _
  rw [if_pos h]; rfl
theorem opD_rep1 [Enc α] {v : α} {n : Int} (h0 : 0 ≤ n) (h1 : n < 1000000) : opD .rep [enc ([v] : List α), enc n] = .ok (enc (List.replicate n.toNat v)) := by
  have hc : n < 2 ^ 62 ∧ -(2 ^ 62) < n ∧ 1 * n.toNat ≤ szLim := ⟨by omega, by omega, by show 1 * n.toNat ≤ 16777216; omega⟩
  show M.opt (if n < 2 ^ 62 ∧ -(2 ^ 62) < n ∧ 1 * n.toNat ≤ szLim then some (D.lst (List.replicate n.toNat [(enc v : D)]).flatten) else none) = _
  rw [if_pos hc]
  show M.ok (D.lst _) = M.ok (D.nd .lst ((List.replicate n.toNat v).map enc))
  rw [List.map_replicate, List.flatten_replicate_singleton]
@[simp] theorem asLI_enc {ns : List Int} : asLI (enc ns : D) = .ok ns := by
  show M.opt (intsOf (ns.map D.int)) = _
  rw [intsOf_map]; rfl
theorem opD_len [Enc α] {xs : List α} : opD .len [(enc xs : D)] = .ok (enc (xs.length : Int)) := by
  show M.opt (some (D.int ((xs.map (enc : α → D)).length))) = _
  rw [List.length_map]; rfl
theorem opD_ix [Enc α] [Inhabited α] {xs : List α} {i : Int} (h0 : 0 ≤ i) (h1 : i < xs.length) : opD .ix [(enc xs : D), enc i] = .ok (enc (nth xs i)) := by
  show M.opt (atI (xs.map enc) i) = _
  rw [atI_enc, atI_nn h0 h1]; rfl
theorem opD_isL [Enc α] {xs : List α} : opD (.isi .list) [(enc xs : D)] = .ok (enc true) := rfl
theorem kidsM_enc [Enc α] {xs : List α} : kidsM (enc xs) = .ok (xs.map enc) := rfl
theorem deqM_Dl [Enc α] [Enc β] {a : α} {b : β} : deqM (enc a : D) b = deqM a b := rfl
theorem deqM_Dr [Enc α] [Enc β] {a : α} {b : β} : deqM a (enc b : D) = deqM a b := rfl
/-! a list by places -/
def vec (n : Nat) (f : Nat → α) : List α := (List.range n).map f
@[simp] theorem vec_len {n : Nat} {f : Nat → α} : (vec n f).length = n := by unfold vec; simp
theorem vec_at [Inhabited α] {n : Nat} {f : Nat → α} {i : Int} (h0 : 0 ≤ i) (h1 : i < n) : nth (vec n f) i = f i.toNat := by
  unfold nth vec
  rw [List.getElem?_map, List.getElem?_range (by omega)]
  rfl
theorem vec_set {n k : Nat} {f : Nat → α} {v : α} : (vec n f).set k v = vec n fun t => if t = k then v else f t := by
  unfold vec
  apply List.ext_getElem?
  intro j
  rw [List.getElem?_set, List.getElem?_map, List.getElem?_map, List.length_map, List.length_range]
  by_cases h : k = j
  · subst h
    by_cases h2 : k < n
    · rw [if_pos rfl, if_pos h2, List.getElem?_range h2]; simp
    · rw [if_pos rfl, if_neg h2, List.getElem?_eq_none (by simp; omega)]; rfl
  · rw [if_neg h]
    by_cases h2 : j < n
    · rw [List.getElem?_range h2]
      show some (f j) = some (if j = k then v else f j)
      rw [if_neg fun e => h e.symm]
    · rw [List.getElem?_eq_none (by simp; omega)]; rfl
theorem vec_congr {n : Nat} {f g : Nat → α} (h : ∀ t, t < n → f t = g t) : vec n f = vec n g := List.map_congr_left fun t ht => h t (List.mem_range.mp ht)
theorem vec_rep {n : Nat} {v : α} : List.replicate n v = vec n fun _ => v := by
  unfold vec
  apply List.ext_getElem?
  intro j
  rw [List.getElem?_replicate, List.getElem?_map]
  by_cases h : j < n
  · rw [if_pos h, List.getElem?_range h]; rfl
  · rw [if_neg h, List.getElem?_eq_none (by simp; omega)]; rfl
theorem vec_all {n : Nat} {f : Nat → α} {p : α → Bool} : ((vec n f).all p = true) ↔ ∀ t, t < n → p (f t) = true := by
  unfold vec
  rw [List.all_map, List.all_eq_true]
  simp
theorem compF_nx {τ : Type} {f : τ → β} {xs : List τ} (h : xs.length < 16777216) : compF (fun x => nx (.ok (f x))) xs = .ok (xs.map f) := compF_mapE f h fun _ _ => rfl
theorem compF_cnd {τ : Type} {p : τ → Bool} {f : τ → β} {xs : List τ} (h : xs.length < 16777216) : compF (fun x => cnd (.ok (p x)) (.ok (f x))) xs = .ok ((xs.filter p).map f) := by
  rw [compF_eq (fun x => if p x then some (f x) else none) h fun x _ => by cases p x <;> rfl]
  congr 1
  induction xs with
  | nil => rfl
  | cons x xs ih =>
    rw [List.filterMap_cons, List.filter_cons]
    cases p x with
    | true =>
      simp only [if_true, List.map_cons]
      rw [ih (by simp at h; omega)]
    | false => exact ih (by simp at h; omega)
/-! a list laid n times -/
@[irreducible] def repM (xs : List α) (n : Int) : M (List α) := if n ≤ 1000000 ∧ -1000000 ≤ n ∧ xs.length * n.toNat ≤ 1000000 then .ok (List.replicate n.toNat xs).flatten else .bad
theorem r_rep [Enc α] {xs : List α} {n : Int} : OpR .rep [enc xs, enc n] (repM xs n) := by
  unfold repM
  split
  · rename_i h
    have hc : n < 2 ^ 62 ∧ -(2 ^ 62) < n ∧ (xs.map (enc : α → D)).length * n.toNat ≤ szLim := ⟨by omega, by omega, by rw [List.length_map]; show _ ≤ 16777216; omega⟩
    show (if n < 2 ^ 62 ∧ -(2 ^ 62) < n ∧ (xs.map (enc : α → D)).length * n.toNat ≤ szLim then some (D.lst (List.replicate n.toNat (xs.map (enc : α → D))).flatten) else none) = some (D.nd .lst ((List.replicate n.toNat xs).flatten.map enc))
    rw [if_pos hc, List.map_flatten, List.map_replicate]
  · trivial
theorem repM1 {v : α} {n : Int} (h0 : 0 ≤ n) (h1 : n < 1000000) : repM [v] n = .ok (List.replicate n.toNat v) := by
  unfold repM
  rw [if_pos ⟨by omega, by omega, by simp; omega⟩, List.flatten_replicate_singleton]
end
end Px
namespace Px
open PySem L2 Enc
def i_powers : Nat := 0
def i_turn_figures : Nat := 1
def i_l_cell_at_1 : Nat := 2
def i_l_whole : Nat := 3
def i_l_mixed_1 : Nat := 4
def i_l_sign_1 : Nat := 5
def i_l_rows_3 : Nat := 6
def i_l_figures_1 : Nat := 7
def i_l_due_9 : Nat := 8
def i_l_told_4 : Nat := 9
def i_law_34 : Nat := 10
def lb0_powers : ISs := (.cons (.expr (.mut .append 2 (.cons (.var 3) .nil))) (.cons (.asg 3 (.op .mul (.cons (.var 3) (.cons (.var 0) .nil)))) .nil))
def fd_powers : FD := ⟨2, 5, [], (.cons (.asg 2 (.lst .nil)) (.cons (.asg 3 (.cst (.int 1))) (.cons (.fr (.one 4) (.rng (.cons (.var 1) .nil)) lb0_powers [4]) (.cons (.ret (.mv 2)) .nil))))⟩
def ce0_turn_figures : IE := .op .ix (.cons (.var 2) (.cons (.var 7) .nil))
def lb0_turn_figures : ISs := (.cons (.asg 6 (.comp ce0_turn_figures (.many [7, 8]) (.enum (.op .ix (.cons (.var 0) (.cons (.cst (.int 2)) .nil)))) (.cons (.op .inn (.cons (.var 5) (.cons (.var 8) .nil))) .nil) [7, 8])) (.cons (.expr (.mut .append 3 (.cons (.op .add (.cons (.op .ix (.cons (.var 2) (.cons (.op .add (.cons (.var 1) (.cons (.var 4) .nil))) .nil))) (.cons (.op .sum (.cons (.var 6) .nil)) .nil))) .nil))) .nil))
def lb1_turn_figures : ISs := (.cons (.fr (.one 5) (.seq (.tup (.cons (.op .add (.cons (.var 4) (.cons (.cst (.int 1)) .nil))) (.cons (.op .neg (.cons (.op .add (.cons (.var 4) (.cons (.cst (.int 1)) .nil))) .nil)) .nil)))) lb0_turn_figures [5, 6]) .nil)
def lb2_turn_figures : ISs := (.cons (.expr (.mut .extend 3 (.cons (.lst (.cons (.op .ix (.cons (.var 2) (.cons (.var 7) .nil))) (.cons (.op .mul (.cons (.cst (.int 2)) (.cons (.op .ix (.cons (.var 2) (.cons (.var 7) .nil))) .nil))) .nil))) .nil))) .nil)
def q0_turn_figures : IS := .asg 1 (.op .len (.cons (.op .ix (.cons (.var 0) (.cons (.cst (.int 2)) .nil))) .nil))
def q1_turn_figures : IS := .asg 2 (.call i_powers (.cons (.cst (.int 10)) (.cons (.op .add (.cons (.var 1) (.cons (.op .ix (.cons (.var 0) (.cons (.cst (.int 1)) .nil))) .nil))) .nil)))
def q2_turn_figures : IS := .asg 3 (.lst .nil)
def q3_turn_figures : IS := .fr (.one 4) (.rng (.cons (.op .ix (.cons (.var 0) (.cons (.cst (.int 1)) .nil))) .nil)) lb1_turn_figures [4, 5, 6]
def q4_turn_figures : IS := .fr (.one 7) (.rng (.cons (.var 1) .nil)) lb2_turn_figures [7]
def q5_turn_figures : IS := .ret (.tup (.cons (.cst (.str "sums")) (.cons (.mv 3) (.cons (.op .add (.cons (.op .sum (.cons (.op (.sl true false) (.cons (.var 2) (.cons (.var 1) .nil))) .nil)) (.cons (.op .mul (.cons (.cst (.int 4)) (.cons (.op .sum (.cons (.op (.sl false true) (.cons (.var 2) (.cons (.var 1) .nil))) .nil)) .nil))) .nil))) .nil))))
def t5_turn_figures : ISs := .cons q5_turn_figures .nil
def t4_turn_figures : ISs := .cons q4_turn_figures t5_turn_figures
def t3_turn_figures : ISs := .cons q3_turn_figures t4_turn_figures
def t2_turn_figures : ISs := .cons q2_turn_figures t3_turn_figures
def t1_turn_figures : ISs := .cons q1_turn_figures t2_turn_figures
def t0_turn_figures : ISs := .cons q0_turn_figures t1_turn_figures
def fd_turn_figures : FD := ⟨1, 9, [], t0_turn_figures⟩
def fd_l_cell_at_1 : FD := ⟨2, 2, [], (.cons (.ifs (.op .lt (.cons (.var 1) (.cons (.op .len (.cons (.var 0) .nil)) .nil))) (.cons (.ret (.op .mod (.cons (.op .ix (.cons (.var 0) (.cons (.var 1) .nil))) (.cons (.op .pow (.cons (.cst (.int 10)) (.cons (.cst (.int 60)) .nil))) .nil)))) .nil) .nil) (.cons (.ret (.cst (.int 0))) .nil))⟩
def fd_l_whole : FD := ⟨1, 1, [], (.cons (.ret (.and (.op (.isi .int) (.cons (.var 0) .nil)) (.not (.op (.isi .bool) (.cons (.var 0) .nil))))) .nil)⟩
def fd_l_mixed_1 : FD := ⟨1, 1, [], (.cons (.ret (.op .mod (.cons (.op .mul (.cons (.op .add (.cons (.op .mod (.cons (.var 0) (.cons (.cst (.int 2147483647)) .nil))) (.cons (.cst (.int 11)) .nil))) (.cons (.cst (.int 48271)) .nil))) (.cons (.cst (.int 2147483647)) .nil)))) .nil)⟩
def fd_l_sign_1 : FD := ⟨1, 1, [], (.cons (.ifs (.op .eq (.cons (.op .mod (.cons (.var 0) (.cons (.cst (.int 2)) .nil))) (.cons (.cst (.int 1)) .nil))) (.cons (.ret (.op .sub (.cons (.op .neg (.cons (.cst (.int 1)) .nil)) (.cons (.op .fdiv (.cons (.var 0) (.cons (.cst (.int 2)) .nil))) .nil)))) .nil) .nil) (.cons (.ret (.op .add (.cons (.cst (.int 1)) (.cons (.op .fdiv (.cons (.var 0) (.cons (.cst (.int 2)) .nil))) .nil)))) .nil))⟩
def ce0_l_rows_3 : IE := .call i_l_sign_1 (.cons (.var 7) .nil)
def lb0_l_rows_3 : ISs := (.cons (.asg 5 (.call i_l_mixed_1 (.cons (.var 4) .nil))) (.cons (.asg 6 (.lst (.cons (.op .mod (.cons (.var 5) (.cons (.var 2) .nil))) (.cons (.op .mod (.cons (.op .fdiv (.cons (.var 5) (.cons (.var 2) .nil))) (.cons (.var 2) .nil))) (.cons (.op .mod (.cons (.op .fdiv (.cons (.var 5) (.cons (.op .mul (.cons (.var 2) (.cons (.var 2) .nil))) .nil))) (.cons (.var 2) .nil))) .nil))))) (.cons (.expr (.mut .append 3 (.cons (.op .tuple1 (.cons (.comp ce0_l_rows_3 (.one 7) (.seq (.var 6)) .nil [7]) .nil)) .nil))) .nil)))
def fd_l_rows_3 : FD := ⟨2, 8, [], (.cons (.asg 2 (.op .mul (.cons (.cst (.int 2)) (.cons (.var 1) .nil)))) (.cons (.asg 3 (.lst .nil)) (.cons (.fr (.one 4) (.seq (.var 0)) lb0_l_rows_3 [4, 5, 6]) (.cons (.ret (.mv 3)) .nil))))⟩
def lb0_l_figures_1 : ISs := (.cons (.asgT [0, 3] (.op .dvm (.cons (.var 0) (.cons (.cst (.int 10)) .nil)))) (.cons (.ifs (.op .ne (.cons (.var 3) (.cons (.var 2) .nil))) (.cons (.ret (.cst (.bl false))) .nil) .nil) .nil))
def fd_l_figures_1 : FD := ⟨2, 4, [], (.cons (.ifs (.or (.not (.call i_l_whole (.cons (.var 0) .nil))) (.op .lt (.cons (.var 0) (.cons (.cst (.int 0)) .nil)))) (.cons (.ret (.cst (.bl false))) .nil) .nil) (.cons (.fr (.one 2) (.seq (.var 1)) lb0_l_figures_1 [2, 3]) (.cons (.ret (.op .eq (.cons (.var 0) (.cons (.cst (.int 0)) .nil)))) .nil)))⟩
def ce0_l_due_9 : IE := .op .int1 (.cons (.op .inn (.cons (.var 3) (.cons (.var 4) .nil))) .nil)
def ce1_l_due_9 : IE := .op .int1 (.cons (.op .eq (.cons (.var 6) (.cons (.op .fdiv (.cons (.var 0) (.cons (.cst (.int 2)) .nil))) .nil))) .nil)
def ce2_l_due_9 : IE := .op .mul (.cons (.op .int1 (.cons (.op .eq (.cons (.var 5) (.cons (.var 4) .nil))) .nil)) (.cons (.op .add (.cons (.cst (.int 1)) (.cons (.op .mod (.cons (.var 0) (.cons (.cst (.int 2)) .nil))) .nil))) .nil))
def fd_l_due_9 : FD := ⟨3, 7, [], (.cons (.ifs (.op .lt (.cons (.var 0) (.cons (.op .mul (.cons (.cst (.int 2)) (.cons (.var 1) .nil))) .nil))) (.cons (.asg 3 (.call i_l_sign_1 (.cons (.var 0) .nil))) (.cons (.ret (.op .add (.cons (.comp ce0_l_due_9 (.one 4) (.seq (.var 2)) .nil [4]) (.cons (.comp ce1_l_due_9 (.one 6) (.rng (.cons (.var 1) .nil)) .nil [6]) .nil)))) .nil)) .nil) (.cons (.asg 4 (.op .fdiv (.cons (.op .sub (.cons (.var 0) (.cons (.op .mul (.cons (.cst (.int 2)) (.cons (.var 1) .nil))) .nil))) (.cons (.cst (.int 2)) .nil)))) (.cons (.ret (.op .add (.cons (.comp ce2_l_due_9 (.one 5) (.rng (.cons (.op .len (.cons (.var 2) .nil)) .nil)) .nil [5]) (.cons (.op .rep (.cons (.lst (.cons (.cst (.int 0)) .nil)) (.cons (.var 1) .nil))) .nil)))) .nil)))⟩
def lb0_l_told_4 : ISs := (.cons (.ifs (.not (.call i_l_figures_1 (.cons (.op .ix (.cons (.op .ix (.cons (.var 0) (.cons (.cst (.int 1)) .nil))) (.cons (.var 3) .nil))) (.cons (.call i_l_due_9 (.cons (.var 3) (.cons (.var 1) (.cons (.var 2) .nil)))) .nil)))) (.cons (.ret (.cst (.bl false))) .nil) .nil) .nil)
def fd_l_told_4 : FD := ⟨3, 4, [], (.cons (.ifs (.or (.not (.op (.isi .tuple) (.cons (.var 0) .nil))) (.or (.op .ne (.cons (.op .len (.cons (.var 0) .nil)) (.cons (.cst (.int 3)) .nil))) (.or (.op .ne (.cons (.op .ix (.cons (.var 0) (.cons (.cst (.int 0)) .nil))) (.cons (.cst (.str "sums")) .nil))) (.not (.op (.isi .list) (.cons (.op .ix (.cons (.var 0) (.cons (.cst (.int 1)) .nil))) .nil)))))) (.cons (.ret (.cst (.bl false))) .nil) .nil) (.cons (.ifs (.op .ne (.cons (.op .len (.cons (.op .ix (.cons (.var 0) (.cons (.cst (.int 1)) .nil))) .nil)) (.cons (.op .add (.cons (.op .mul (.cons (.cst (.int 2)) (.cons (.var 1) .nil))) (.cons (.op .mul (.cons (.cst (.int 2)) (.cons (.op .len (.cons (.var 2) .nil)) .nil))) .nil))) .nil))) (.cons (.ret (.cst (.bl false))) .nil) .nil) (.cons (.fr (.one 3) (.rng (.cons (.op .len (.cons (.op .ix (.cons (.var 0) (.cons (.cst (.int 1)) .nil))) .nil)) .nil)) lb0_l_told_4 [3]) (.cons (.ret (.call i_l_figures_1 (.cons (.op .ix (.cons (.var 0) (.cons (.cst (.int 2)) .nil))) (.cons (.op .add (.cons (.op .rep (.cons (.lst (.cons (.cst (.int 4)) .nil)) (.cons (.op .len (.cons (.var 2) .nil)) .nil))) (.cons (.op .rep (.cons (.lst (.cons (.cst (.int 1)) .nil)) (.cons (.var 1) .nil))) .nil))) .nil)))) .nil))))⟩
def ce0_law_34 : IE := .op .mod (.cons (.var 6) (.cons (.op .pow (.cons (.cst (.int 10)) (.cons (.cst (.int 60)) .nil))) .nil))
def q0_law_34 : IS := .asg 1 (.call i_l_mixed_1 (.cons (.call i_l_cell_at_1 (.cons (.var 0) (.cons (.cst (.int 0)) .nil))) .nil))
def q1_law_34 : IS := .asg 2 (.op .mod (.cons (.var 1) (.cons (.cst (.int 7)) .nil)))
def q2_law_34 : IS := .ifs (.op .eq (.cons (.op .mod (.cons (.op .fdiv (.cons (.var 1) (.cons (.cst (.int 1009)) .nil))) (.cons (.cst (.int 8)) .nil))) (.cons (.cst (.int 3)) .nil))) (.cons (.asg 2 (.op .add (.cons (.cst (.int 7)) (.cons (.op .mod (.cons (.op .fdiv (.cons (.var 1) (.cons (.cst (.int 8072)) .nil))) (.cons (.cst (.int 4)) .nil))) .nil)))) .nil) .nil
def q3_law_34 : IS := .asg 3 (.lst .nil)
def q4_law_34 : IS := .ifs (.op .gt (.cons (.var 2) (.cons (.cst (.int 0)) .nil))) (.cons (.asg 3 (.call i_l_rows_3 (.cons (.comp ce0_law_34 (.one 6) (.seq (.op (.sl true true) (.cons (.var 0) (.cons (.cst (.int 2)) (.cons (.cst (.int 42)) .nil))))) .nil [6]) (.cons (.var 2) .nil)))) .nil) .nil
def q5_law_34 : IS := .asg 4 (.tup (.cons (.cst (.str "threes")) (.cons (.var 2) (.cons (.op .list1 (.cons (.lent (.var 3)) .nil)) .nil))))
def q6_law_34 : IS := .asg 5 (.call i_turn_figures (.cons (.var 4) .nil))
def q7_law_34 : IS := .ifs (.or (.op .ne (.cons (.var 4) (.cons (.tup (.cons (.cst (.str "threes")) (.cons (.var 2) (.cons (.var 3) .nil)))) .nil))) (.not (.call i_l_told_4 (.cons (.var 5) (.cons (.var 2) (.cons (.var 3) .nil)))))) (.cons (.ret (.cst (.bl false))) .nil) .nil
def q8_law_34 : IS := .mutAt 5 (.cst (.int 1)) .clear none
def q9_law_34 : IS := .ret (.call i_l_told_4 (.cons (.call i_turn_figures (.cons (.var 4) .nil)) (.cons (.var 2) (.cons (.var 3) .nil))))
def t9_law_34 : ISs := .cons q9_law_34 .nil
def t8_law_34 : ISs := .cons q8_law_34 t9_law_34
def t7_law_34 : ISs := .cons q7_law_34 t8_law_34
def t6_law_34 : ISs := .cons q6_law_34 t7_law_34
def t5_law_34 : ISs := .cons q5_law_34 t6_law_34
def t4_law_34 : ISs := .cons q4_law_34 t5_law_34
def t3_law_34 : ISs := .cons q3_law_34 t4_law_34
def t2_law_34 : ISs := .cons q2_law_34 t3_law_34
def t1_law_34 : ISs := .cons q1_law_34 t2_law_34
def t0_law_34 : ISs := .cons q0_law_34 t1_law_34
def fd_law_34 : FD := ⟨1, 7, [], t0_law_34⟩
def fds : List FD := [fd_powers, fd_turn_figures, fd_l_cell_at_1, fd_l_whole, fd_l_mixed_1, fd_l_sign_1, fd_l_rows_3, fd_l_figures_1, fd_l_due_9, fd_l_told_4, fd_law_34]
def glf (g : Nat) : D := match g with
  | _ => .at .non
def Pg : Prg := ⟨fds, glf, 100000⟩
def Sg : List FS := [⟨⟨.t, true⟩, ⟨.t, true⟩, false⟩, ⟨⟨.a, true⟩, ⟨.t, true⟩, false⟩, ⟨⟨.i, true⟩, ⟨.t, true⟩, true⟩, ⟨⟨.i, true⟩, ⟨.t, true⟩, true⟩, ⟨⟨.i, true⟩, ⟨.t, true⟩, true⟩, ⟨⟨.i, true⟩, ⟨.t, true⟩, true⟩, ⟨⟨.o, true⟩, ⟨.t, true⟩, false⟩, ⟨⟨.i, true⟩, ⟨.t, true⟩, true⟩, ⟨⟨.t, false⟩, ⟨.t, true⟩, false⟩, ⟨⟨.i, true⟩, ⟨.t, true⟩, true⟩, ⟨⟨.i, true⟩, ⟨.t, true⟩, true⟩]
def Ag : List Bool := Sg.map (·.atom)
abbrev cx (k : Nat) (io : List Nat) : PCtx := ⟨pvF Pg Ag k, glf, io, 100000⟩
theorem ab_ok : abP Sg Pg.fs = true := by decide +kernel
theorem at_powers {k : Nat} (hk : 0 < k) (ps : List Nat) (xs : List D) (h1 : xs.length = 2) (h2 : ps = []) : pvF Pg Ag k i_powers ps xs = patOk false (pretF fd_powers (pvSs (cx (k - 1) []) fd_powers.body (penv0 5 xs))) := by
  obtain ⟨k, rfl⟩ : ∃ j, k = j + 1 := ⟨k - 1, by omega⟩
  exact pvF_at (fd := fd_powers) rfl h1 h2 (Nat.le_of_ble_eq_true rfl)
theorem at_turn_figures {k : Nat} (hk : 0 < k) (ps : List Nat) (xs : List D) (h1 : xs.length = 1) (h2 : ps = []) : pvF Pg Ag k i_turn_figures ps xs = patOk false (pretF fd_turn_figures (pvSs (cx (k - 1) []) fd_turn_figures.body (penv0 9 xs))) := by
  obtain ⟨k, rfl⟩ : ∃ j, k = j + 1 := ⟨k - 1, by omega⟩
  exact pvF_at (fd := fd_turn_figures) rfl h1 h2 (Nat.le_of_ble_eq_true rfl)
theorem at_l_cell_at_1 {k : Nat} (hk : 0 < k) (ps : List Nat) (xs : List D) (h1 : xs.length = 2) (h2 : ps = []) : pvF Pg Ag k i_l_cell_at_1 ps xs = patOk true (pretF fd_l_cell_at_1 (pvSs (cx (k - 1) []) fd_l_cell_at_1.body (penv0 2 xs))) := by
  obtain ⟨k, rfl⟩ : ∃ j, k = j + 1 := ⟨k - 1, by omega⟩
  exact pvF_at (fd := fd_l_cell_at_1) rfl h1 h2 (Nat.le_of_ble_eq_true rfl)
theorem at_l_whole {k : Nat} (hk : 0 < k) (ps : List Nat) (xs : List D) (h1 : xs.length = 1) (h2 : ps = []) : pvF Pg Ag k i_l_whole ps xs = patOk true (pretF fd_l_whole (pvSs (cx (k - 1) []) fd_l_whole.body (penv0 1 xs))) := by
  obtain ⟨k, rfl⟩ : ∃ j, k = j + 1 := ⟨k - 1, by omega⟩
  exact pvF_at (fd := fd_l_whole) rfl h1 h2 (Nat.le_of_ble_eq_true rfl)
theorem at_l_mixed_1 {k : Nat} (hk : 0 < k) (ps : List Nat) (xs : List D) (h1 : xs.length = 1) (h2 : ps = []) : pvF Pg Ag k i_l_mixed_1 ps xs = patOk true (pretF fd_l_mixed_1 (pvSs (cx (k - 1) []) fd_l_mixed_1.body (penv0 1 xs))) := by
  obtain ⟨k, rfl⟩ : ∃ j, k = j + 1 := ⟨k - 1, by omega⟩
  exact pvF_at (fd := fd_l_mixed_1) rfl h1 h2 (Nat.le_of_ble_eq_true rfl)
theorem at_l_sign_1 {k : Nat} (hk : 0 < k) (ps : List Nat) (xs : List D) (h1 : xs.length = 1) (h2 : ps = []) : pvF Pg Ag k i_l_sign_1 ps xs = patOk true (pretF fd_l_sign_1 (pvSs (cx (k - 1) []) fd_l_sign_1.body (penv0 1 xs))) := by
  obtain ⟨k, rfl⟩ : ∃ j, k = j + 1 := ⟨k - 1, by omega⟩
  exact pvF_at (fd := fd_l_sign_1) rfl h1 h2 (Nat.le_of_ble_eq_true rfl)
theorem at_l_rows_3 {k : Nat} (hk : 0 < k) (ps : List Nat) (xs : List D) (h1 : xs.length = 2) (h2 : ps = []) : pvF Pg Ag k i_l_rows_3 ps xs = patOk false (pretF fd_l_rows_3 (pvSs (cx (k - 1) []) fd_l_rows_3.body (penv0 8 xs))) := by
  obtain ⟨k, rfl⟩ : ∃ j, k = j + 1 := ⟨k - 1, by omega⟩
  exact pvF_at (fd := fd_l_rows_3) rfl h1 h2 (Nat.le_of_ble_eq_true rfl)
theorem at_l_figures_1 {k : Nat} (hk : 0 < k) (ps : List Nat) (xs : List D) (h1 : xs.length = 2) (h2 : ps = []) : pvF Pg Ag k i_l_figures_1 ps xs = patOk true (pretF fd_l_figures_1 (pvSs (cx (k - 1) []) fd_l_figures_1.body (penv0 4 xs))) := by
  obtain ⟨k, rfl⟩ : ∃ j, k = j + 1 := ⟨k - 1, by omega⟩
  exact pvF_at (fd := fd_l_figures_1) rfl h1 h2 (Nat.le_of_ble_eq_true rfl)
theorem at_l_due_9 {k : Nat} (hk : 0 < k) (ps : List Nat) (xs : List D) (h1 : xs.length = 3) (h2 : ps = []) : pvF Pg Ag k i_l_due_9 ps xs = patOk false (pretF fd_l_due_9 (pvSs (cx (k - 1) []) fd_l_due_9.body (penv0 7 xs))) := by
  obtain ⟨k, rfl⟩ : ∃ j, k = j + 1 := ⟨k - 1, by omega⟩
  exact pvF_at (fd := fd_l_due_9) rfl h1 h2 (Nat.le_of_ble_eq_true rfl)
theorem at_l_told_4 {k : Nat} (hk : 0 < k) (ps : List Nat) (xs : List D) (h1 : xs.length = 3) (h2 : ps = []) : pvF Pg Ag k i_l_told_4 ps xs = patOk true (pretF fd_l_told_4 (pvSs (cx (k - 1) []) fd_l_told_4.body (penv0 4 xs))) := by
  obtain ⟨k, rfl⟩ : ∃ j, k = j + 1 := ⟨k - 1, by omega⟩
  exact pvF_at (fd := fd_l_told_4) rfl h1 h2 (Nat.le_of_ble_eq_true rfl)
theorem at_law_34 {k : Nat} (hk : 0 < k) (ps : List Nat) (xs : List D) (h1 : xs.length = 1) (h2 : ps = []) : pvF Pg Ag k i_law_34 ps xs = patOk true (pretF fd_law_34 (pvSs (cx (k - 1) []) fd_law_34.body (penv0 7 xs))) := by
  obtain ⟨k, rfl⟩ : ∃ j, k = j + 1 := ⟨k - 1, by omega⟩
  exact pvF_at (fd := fd_law_34) rfl h1 h2 (Nat.le_of_ble_eq_true rfl)
def m_powers (base1 : Int) (many2 : Int) : M (List Int) := (M.lt (α := (List Int)) ([] : (List Int)) fun (found3 : (List Int)) => (M.lt (α := Int) (1 : Int) fun (power4 : Int) => ((rngM [many2]).bind fun (xs11 : List Int) => (foldM (fun (x6 : Int) (s5 : (List Int) × Int) => ((M.ok s5.2).bind fun (v9 : Int) => (app s5.1 v9).bind fun (found7 : (List Int)) => ((mulM s5.2 base1).bind fun (power8 : Int) => (M.ok (found7, power8))))) xs11 (found3, power4)).bind fun (s10 : (List Int) × Int) => (M.ok s10.1))))
theorem s_powers {k : Nat} (hk : 1 ≤ k) (base1 : Int) (many2 : Int) : CS (m_powers base1 many2) (pvF Pg Ag k i_powers [] [enc base1, enc many2]) := by
  rw [at_powers (by omega) _ _ rfl rfl]
  exact cs_of (σ := [some (enc base1), some (enc many2), none, none, none]) (ks_asgP (pe_lst (v := ([] : (List Int))) pv_nil rfl rfl) rfl (fun found3 => (ks_asgP (pe_cst (v := (1 : Int)) rfl) rfl (fun power4 => (ks_for (st := fun (s5 : (List Int) × Int) => [some (enc base1), none, some (enc s5.1), some (enc s5.2), none]) (found3, power4) (im_rng (ns := [many2]) (po_cons (pe_var (v := many2) rfl) po_nil) rfl) xt (sr (sr (sr trivial))) (fun _ => rfl) (fun x6 s5 => tb_of (tg_one rfl) (ks_app (xs := s5.1) rfl (me_of (pe_var (v := s5.2) rfl)) xt (fun found7 => (ks_asgM (me_op (po_cons (pe_var (v := s5.2) rfl) (po_cons (pe_var (v := base1) rfl) po_nil)) r_mul) rfl xt (fun power8 => (ks_nil (ke_L (sr (sr (sr trivial)))))))))) (fun s10 => (ks_retP (pe_mv (v := s10.1) rfl) hp_F))))))) rfl (sr (sr trivial)) (fun h => by cases h)
def m_turn_figures (question12 : T3 Str Int (List (Tup Int))) : M (T3 Str (List Int) Int) := (M.lt (α := Int) (question12.c.length : Int) fun (many13 : Int) => ((m_powers (10 : Int) (many13 + question12.b)).bind fun (columns14 : (List Int)) => (M.lt (α := (List Int)) ([] : (List Int)) fun (numbers15 : (List Int)) => ((rngM [question12.b]).bind fun (xs42 : List Int) => (foldM (fun (x17 : Int) (s16 : (List Int)) => ((M.ok (⟨[(⟨(x17 + (1 : Int)), (-(x17 + (1 : Int)))⟩ : (T2 Int Int)).a, (⟨(x17 + (1 : Int)), (-(x17 + (1 : Int)))⟩ : (T2 Int Int)).b]⟩ : (Tup Int)).l).bind fun (xs27 : List Int) => (foldM (fun (x19 : Int) (s18 : (List Int)) => ((((M.ok question12.c).bind fun v20 => .ok (enumL v20)).bind (compF fun (x21 : (T2 Int (Tup Int))) => cnd (inM x19 x21.b) (atM columns14 x21.a))).bind fun (rows22 : (List Int)) => (((atM columns14 (many13 + x17)).bind fun (g24 : Int) => (.ok (g24 + (rows22.sum)))).bind fun (v25 : Int) => (app s18 v25).bind fun (numbers23 : (List Int)) => (M.ok numbers23)))) xs27 s16).bind fun (s26 : (List Int)) => (M.ok s26))) xs42 numbers15).bind fun (s28 : (List Int)) => ((rngM [many13]).bind fun (xs41 : List Int) => (foldM (fun (x30 : Int) (s29 : (List Int)) => ((((atM columns14 x30).bind fun v34 => ((atM columns14 x30).bind fun (g32 : Int) => (mulM (2 : Int) g32)).bind fun v35 => .ok (v34, v35)).bind fun (g33 : Int × Int) => .ok ([g33.1, g33.2] : (List Int))).bind fun (v36 : (List Int)) => (ext s29 v36).bind fun (numbers31 : (List Int)) => (M.ok numbers31))) xs41 s28).bind fun (s37 : (List Int)) => ((((mulM (4 : Int) ((cutL columns14 none (some many13)).sum)).bind fun (g38 : Int) => (.ok (((cutL columns14 (some many13) none).sum) + g38))).bind fun (g39 : Int) => .ok (⟨("sums" : Str), s37, g39⟩ : (T3 Str (List Int) Int))).bind fun (v40 : (T3 Str (List Int) Int)) => .ok v40))))))
theorem s_turn_figures {k : Nat} (hk : 2 ≤ k) (question12 : T3 Str Int (List (Tup Int))) : CS (m_turn_figures question12) (pvF Pg Ag k i_turn_figures [] [enc question12]) := by
  rw [at_turn_figures (by omega) _ _ rfl rfl]
  exact cs_of (σ := [some (enc question12), none, none, none, none, none, none, none, none]) (ks_asgP (pe_op (v := (question12.c.length : Int)) (po_cons (pe_op (v := question12.c) (po_cons (pe_var (v := question12) rfl) (po_cons (pe_cst (v := (2 : Int)) rfl) po_nil)) rfl) po_nil) q_lenL) rfl (fun many13 => (ks_asgM (me_call (po_cons (pe_cst (v := (10 : Int)) rfl) (po_cons (pe_op (v := (many13 + question12.b)) (po_cons (pe_var (v := many13) rfl) (po_cons (pe_op (v := question12.b) (po_cons (pe_var (v := question12) rfl) (po_cons (pe_cst (v := (1 : Int)) rfl) po_nil)) rfl) po_nil)) rfl) po_nil)) (s_powers (by omega) _ _)) rfl xt (fun columns14 => (ks_asgP (pe_lst (v := ([] : (List Int))) pv_nil rfl rfl) rfl (fun numbers15 => (ks_for (st := fun (s16 : (List Int)) => [some (enc question12), some (enc many13), some (enc columns14), some (enc s16), none, none, none, none, none]) numbers15 (im_rng (ns := [question12.b]) (po_cons (pe_op (v := question12.b) (po_cons (pe_var (v := question12) rfl) (po_cons (pe_cst (v := (1 : Int)) rfl) po_nil)) rfl) po_nil) rfl) xt (sr (sr (sr (sr trivial)))) (fun _ => rfl) (fun x17 s16 => tb_of (tg_one rfl) (ks_for (st := fun (s18 : (List Int)) => [some (enc question12), some (enc many13), some (enc columns14), some (enc s18), some (enc x17), none, none, none, none]) s16 (im_of (it_seq (xs := (⟨[(⟨(x17 + (1 : Int)), (-(x17 + (1 : Int)))⟩ : (T2 Int Int)).a, (⟨(x17 + (1 : Int)), (-(x17 + (1 : Int)))⟩ : (T2 Int Int)).b]⟩ : (Tup Int)).l) (pe_as (w := (⟨[(⟨(x17 + (1 : Int)), (-(x17 + (1 : Int)))⟩ : (T2 Int Int)).a, (⟨(x17 + (1 : Int)), (-(x17 + (1 : Int)))⟩ : (T2 Int Int)).b]⟩ : (Tup Int))) (pe_tup (v := (⟨(x17 + (1 : Int)), (-(x17 + (1 : Int)))⟩ : (T2 Int Int))) (pv_cons (pe_op (v := (x17 + (1 : Int))) (po_cons (pe_var (v := x17) rfl) (po_cons (pe_cst (v := (1 : Int)) rfl) po_nil)) rfl) (pv_cons (pe_op (v := (-(x17 + (1 : Int)))) (po_cons (pe_op (v := (x17 + (1 : Int))) (po_cons (pe_var (v := x17) rfl) (po_cons (pe_cst (v := (1 : Int)) rfl) po_nil)) rfl) po_nil) rfl) pv_nil)) rfl rfl) rfl) rfl)) xt (sr (sr (sr (sr (sr trivial))))) (fun _ => rfl) (fun x19 s18 => tb_of (tg_one rfl) (ks_asgM (me_compF (im_enum (me_of (pe_op (v := question12.c) (po_cons (pe_var (v := question12) rfl) (po_cons (pe_cst (v := (2 : Int)) rfl) po_nil)) rfl))) rfl (fun x21 => bf_C (tg_two rfl rfl) (sr (sr (sr (sr (sr (sr trivial)))))) (me_op (po_cons (pe_var (v := x19) rfl) (po_cons (pe_var (v := x21.b) rfl) po_nil)) r_in) (me_op (po_cons (pe_var (v := columns14) rfl) (po_cons (pe_var (v := x21.a) rfl) po_nil)) r_ixL))) rfl xt (fun rows22 => (ks_app (xs := s18) rfl (me_opM (k := fun (g24 : Int) => ((.ok (g24 + (rows22.sum))) : M Int)) (mo_M (me_op (po_cons (pe_var (v := columns14) rfl) (po_cons (pe_op (v := (many13 + x17)) (po_cons (pe_var (v := many13) rfl) (po_cons (pe_var (v := x17) rfl) po_nil)) rfl) po_nil)) r_ixL) (po_cons (pe_op (v := (rows22.sum)) (po_cons (pe_var (v := rows22) rfl) po_nil) q_sum) po_nil)) (fun g24 => rfl)) xt (fun numbers23 => (ks_nil (ke_L (sr (sr (sr (sr (sr trivial)))))))))))) (fun s26 => (ks_nil (ke_L (sr (sr (sr (sr trivial))))))))) (fun s28 => (ks_for (st := fun (s29 : (List Int)) => [none, some (enc many13), some (enc columns14), some (enc s29), none, none, none, none, none]) s28 (im_rng (ns := [many13]) (po_cons (pe_var (v := many13) rfl) po_nil) rfl) xt (sr (sr (sr trivial))) (fun _ => rfl) (fun x30 s29 => tb_of (tg_one rfl) (ks_ext (xs := s29) rfl (me_lst (w := fun (g33 : Int × Int) => ([g33.1, g33.2] : (List Int))) (mv_MM (me_op (po_cons (pe_var (v := columns14) rfl) (po_cons (pe_var (v := x30) rfl) po_nil)) r_ixL) (mv_M (me_opM (k := fun (g32 : Int) => ((mulM (2 : Int) g32) : M Int)) (mo_PM (pe_cst (v := (2 : Int)) rfl) (mo_M (me_op (po_cons (pe_var (v := columns14) rfl) (po_cons (pe_var (v := x30) rfl) po_nil)) r_ixL) po_nil)) (fun g32 => r_mul)) pv_nil)) (fun _ => rfl) (fun _ => rfl)) xt (fun numbers31 => (ks_nil (ke_L (sr (sr (sr trivial)))))))) (fun s37 => (ks_retM (w := fun (v40 : (T3 Str (List Int) Int)) => v40) (me_tup (w := fun (g39 : Int) => (⟨("sums" : Str), s37, g39⟩ : (T3 Str (List Int) Int))) (mv_PM (pe_cst (v := ("sums" : Str)) rfl) (mv_PM (pe_mv (v := s37) rfl) (mv_M (me_opM (k := fun (g38 : Int) => ((.ok (((cutL columns14 (some many13) none).sum) + g38)) : M Int)) (mo_PM (pe_op (v := ((cutL columns14 (some many13) none).sum)) (po_cons (pe_op (v := (cutL columns14 (some many13) none)) (po_cons (pe_var (v := columns14) rfl) (po_cons (pe_var (v := many13) rfl) po_nil)) q_sl10) po_nil) q_sum) (mo_M (me_op (po_cons (pe_cst (v := (4 : Int)) rfl) (po_cons (pe_op (v := ((cutL columns14 none (some many13)).sum)) (po_cons (pe_op (v := (cutL columns14 none (some many13))) (po_cons (pe_var (v := columns14) rfl) (po_cons (pe_var (v := many13) rfl) po_nil)) q_sl01) po_nil) q_sum) po_nil)) r_mul) po_nil)) (fun g38 => rfl)) pv_nil))) (fun _ => rfl) (fun _ => rfl)) (fun _ => hp_F) xt))))))))))) rfl (sr trivial) (fun h => by cases h)
def m_l_cell_at_1 (script43 : List Int) (k_44 : Int) : M Int := (if (decide (k_44 < (script43.length : Int))) then (((atM script43 k_44).bind fun (g45 : Int) => (.ok (g45 % ((10 : Int) ^ (60 : Nat))))).bind fun (v46 : Int) => .ok v46) else (M.ok (0 : Int)))
theorem s_l_cell_at_1 {k : Nat} (hk : 1 ≤ k) (script43 : List Int) (k_44 : Int) : CS (m_l_cell_at_1 script43 k_44) (pvF Pg Ag k i_l_cell_at_1 [] [enc script43, enc k_44]) := by
  rw [at_l_cell_at_1 (by omega) _ _ rfl rfl]
  exact cs_of (σ := [some (enc script43), some (enc k_44)]) (ks_if (pe_op (v := (decide (k_44 < (script43.length : Int)))) (po_cons (pe_var (v := k_44) rfl) (po_cons (pe_op (v := (script43.length : Int)) (po_cons (pe_var (v := script43) rfl) po_nil) q_lenL) po_nil)) rfl) (ks_retM (w := fun (v46 : Int) => v46) (me_opM (k := fun (g45 : Int) => ((.ok (g45 % ((10 : Int) ^ (60 : Nat)))) : M Int)) (mo_M (me_op (po_cons (pe_var (v := script43) rfl) (po_cons (pe_var (v := k_44) rfl) po_nil)) r_ixL) (po_cons (pe_op (v := ((10 : Int) ^ (60 : Nat))) (po_cons (pe_cst (v := (10 : Int)) rfl) (po_cons (pe_cst (v := (60 : Int)) rfl) po_nil)) (q_pow (n := 60) rfl)) po_nil)) (fun g45 => (q_mod rfl))) (fun _ => hp_F) xt) (ks_nil (ks_retP (pe_cst (v := (0 : Int)) rfl) hp_F))) rfl (sr (sr trivial)) (fun _ _ => ⟨_, rfl⟩)
def m_l_whole (found47 : Int) : M Bool := (M.ok (true && (!false)))
theorem s_l_whole {k : Nat} (hk : 1 ≤ k) (found47 : Int) : CS (m_l_whole found47) (pvF Pg Ag k i_l_whole [] [enc found47]) := by
  rw [at_l_whole (by omega) _ _ rfl rfl]
  exact cs_of (σ := [some (enc found47)]) (ks_retP (pe_and (pe_op (v := true) (po_cons (pe_var (v := found47) rfl) po_nil) rfl) (pe_not (pe_op (v := false) (po_cons (pe_var (v := found47) rfl) po_nil) rfl))) hp_F) rfl (sr trivial) (fun _ _ => ⟨_, rfl⟩)
def m_l_mixed_1 (cell48 : Int) : M Int := (((mulM ((cell48 % (2147483647 : Int)) + (11 : Int)) (48271 : Int)).bind fun (g49 : Int) => (.ok (g49 % (2147483647 : Int)))).bind fun (v50 : Int) => .ok v50)
theorem s_l_mixed_1 {k : Nat} (hk : 1 ≤ k) (cell48 : Int) : CS (m_l_mixed_1 cell48) (pvF Pg Ag k i_l_mixed_1 [] [enc cell48]) := by
  rw [at_l_mixed_1 (by omega) _ _ rfl rfl]
  exact cs_of (σ := [some (enc cell48)]) (ks_retM (w := fun (v50 : Int) => v50) (me_opM (k := fun (g49 : Int) => ((.ok (g49 % (2147483647 : Int))) : M Int)) (mo_M (me_op (po_cons (pe_op (v := ((cell48 % (2147483647 : Int)) + (11 : Int))) (po_cons (pe_op (v := (cell48 % (2147483647 : Int))) (po_cons (pe_var (v := cell48) rfl) (po_cons (pe_cst (v := (2147483647 : Int)) rfl) po_nil)) (q_mod rfl)) (po_cons (pe_cst (v := (11 : Int)) rfl) po_nil)) rfl) (po_cons (pe_cst (v := (48271 : Int)) rfl) po_nil)) r_mul) (po_cons (pe_cst (v := (2147483647 : Int)) rfl) po_nil)) (fun g49 => (q_mod rfl))) (fun _ => hp_F) xt) rfl (sr trivial) (fun _ _ => ⟨_, rfl⟩)
def m_l_sign_1 (digit51 : Int) : M Int := (if (decide ((digit51 % (2 : Int)) = (1 : Int))) then (M.ok ((-(1 : Int)) - (digit51 / (2 : Int)))) else (M.ok ((1 : Int) + (digit51 / (2 : Int)))))
theorem s_l_sign_1 {k : Nat} (hk : 1 ≤ k) (digit51 : Int) : CS (m_l_sign_1 digit51) (pvF Pg Ag k i_l_sign_1 [] [enc digit51]) := by
  rw [at_l_sign_1 (by omega) _ _ rfl rfl]
  exact cs_of (σ := [some (enc digit51)]) (ks_if (pe_op (v := (decide ((digit51 % (2 : Int)) = (1 : Int)))) (po_cons (pe_op (v := (digit51 % (2 : Int))) (po_cons (pe_var (v := digit51) rfl) (po_cons (pe_cst (v := (2 : Int)) rfl) po_nil)) (q_mod rfl)) (po_cons (pe_cst (v := (1 : Int)) rfl) po_nil)) q_eqI) (ks_retP (pe_op (v := ((-(1 : Int)) - (digit51 / (2 : Int)))) (po_cons (pe_op (v := (-(1 : Int))) (po_cons (pe_cst (v := (1 : Int)) rfl) po_nil) rfl) (po_cons (pe_op (v := (digit51 / (2 : Int))) (po_cons (pe_var (v := digit51) rfl) (po_cons (pe_cst (v := (2 : Int)) rfl) po_nil)) (q_fdiv rfl)) po_nil)) rfl) hp_F) (ks_nil (ks_retP (pe_op (v := ((1 : Int) + (digit51 / (2 : Int)))) (po_cons (pe_cst (v := (1 : Int)) rfl) (po_cons (pe_op (v := (digit51 / (2 : Int))) (po_cons (pe_var (v := digit51) rfl) (po_cons (pe_cst (v := (2 : Int)) rfl) po_nil)) (q_fdiv rfl)) po_nil)) rfl) hp_F))) rfl (sr trivial) (fun _ _ => ⟨_, rfl⟩)
def m_l_rows_3 (cells52 : List Int) (many53 : Int) : M (List (Tup Int)) := ((mulM (2 : Int) many53).bind fun (base54 : Int) => (M.lt (α := (List (Tup Int))) ([] : (List (Tup Int))) fun (rows_here55 : (List (Tup Int))) => ((M.ok cells52).bind fun (xs73 : List Int) => (foldM (fun (x57 : Int) (s56 : (List (Tup Int))) => ((m_l_mixed_1 x57).bind fun (number58 : Int) => ((((modM number58 base54).bind fun v65 => (((fdivM number58 base54).bind fun (g59 : Int) => (modM g59 base54)).bind fun v63 => (((mulM base54 base54).bind fun (g60 : Int) => (fdivM number58 g60)).bind fun (g61 : Int) => (modM g61 base54)).bind fun v64 => .ok (v63, v64)).bind fun v66 => .ok (v65, v66)).bind fun (g62 : Int × Int × Int) => .ok ([g62.1, g62.2.1, g62.2.2] : (List Int))).bind fun (digits67 : (List Int)) => ((((M.ok digits67).bind (compF fun (x69 : Int) => nx (m_l_sign_1 x69))).bind fun (g70 : (List Int)) => (.ok (Tup.mk g70))).bind fun (v71 : (Tup Int)) => (app s56 v71).bind fun (rows_here68 : (List (Tup Int))) => (M.ok rows_here68))))) xs73 rows_here55).bind fun (s72 : (List (Tup Int))) => (M.ok s72))))
theorem s_l_rows_3 {k : Nat} (hk : 2 ≤ k) (cells52 : List Int) (many53 : Int) : CS (m_l_rows_3 cells52 many53) (pvF Pg Ag k i_l_rows_3 [] [enc cells52, enc many53]) := by
  rw [at_l_rows_3 (by omega) _ _ rfl rfl]
  exact cs_of (σ := [some (enc cells52), some (enc many53), none, none, none, none, none, none]) (ks_asgM (me_op (po_cons (pe_cst (v := (2 : Int)) rfl) (po_cons (pe_var (v := many53) rfl) po_nil)) r_mul) rfl xt (fun base54 => (ks_asgP (pe_lst (v := ([] : (List (Tup Int)))) pv_nil rfl rfl) rfl (fun rows_here55 => (ks_for (st := fun (s56 : (List (Tup Int))) => [none, none, some (enc base54), some (enc s56), none, none, none, none]) rows_here55 (im_of (it_seq (xs := cells52) (pe_var (v := cells52) rfl) rfl)) xt (sr (sr trivial)) (fun _ => rfl) (fun x57 s56 => tb_of (tg_one rfl) (ks_asgM (me_call (po_cons (pe_var (v := x57) rfl) po_nil) (s_l_mixed_1 (by omega) _)) rfl xt (fun number58 => (ks_asgM (me_lst (w := fun (g62 : Int × Int × Int) => ([g62.1, g62.2.1, g62.2.2] : (List Int))) (mv_MM (me_op (po_cons (pe_var (v := number58) rfl) (po_cons (pe_var (v := base54) rfl) po_nil)) r_mod) (mv_MM (me_opM (k := fun (g59 : Int) => ((modM g59 base54) : M Int)) (mo_M (me_op (po_cons (pe_var (v := number58) rfl) (po_cons (pe_var (v := base54) rfl) po_nil)) r_fdiv) (po_cons (pe_var (v := base54) rfl) po_nil)) (fun g59 => r_mod)) (mv_M (me_opM (k := fun (g61 : Int) => ((modM g61 base54) : M Int)) (mo_M (me_opM (k := fun (g60 : Int) => ((fdivM number58 g60) : M Int)) (mo_PM (pe_var (v := number58) rfl) (mo_M (me_op (po_cons (pe_var (v := base54) rfl) (po_cons (pe_var (v := base54) rfl) po_nil)) r_mul) po_nil)) (fun g60 => r_fdiv)) (po_cons (pe_var (v := base54) rfl) po_nil)) (fun g61 => r_mod)) pv_nil))) (fun _ => rfl) (fun _ => rfl)) rfl xt (fun digits67 => (ks_app (xs := s56) rfl (me_opM (k := fun (g70 : (List Int)) => ((.ok (Tup.mk g70)) : M (Tup Int))) (mo_M (me_compF (im_of (it_seq (xs := digits67) (pe_var (v := digits67) rfl) rfl)) rfl (fun x69 => bf_M (tg_one rfl) (sr (sr (sr (sr (sr trivial))))) (me_call (po_cons (pe_var (v := x69) rfl) po_nil) (s_l_sign_1 (by omega) _)))) po_nil) (fun g70 => q_tuple1)) xt (fun rows_here68 => (ks_nil (ke_L (sr (sr trivial))))))))))) (fun s72 => (ks_retP (pe_mv (v := s72) rfl) hp_F))))))) rfl (sr (sr trivial)) (fun h => by cases h)
def m_l_figures_1 (number74 : Int) (due_here75 : List Int) : M Bool := ((((m_l_whole number74).bind fun v76 => .ok (!v76)).bind fun v77 => (if v77 then .ok true else (M.ok (decide (number74 < (0 : Int)))))).bind fun v83 => if v83 then (M.ok false) else ((M.ok due_here75).bind fun (xs82 : List Int) => (foldR (fun (x79 : Int) (s78 : Int) => (((dvmM s78 (10 : Int)).bind fun (p80 : (T2 Int Int)) => (if (!decide (p80.b = x79)) then (M.ok (.ret false)) else (M.ok (.go p80.a)))) : M (Stp (Int) Bool))) xs82 number74).lp (fun (s81 : Int) => (M.ok (decide (s81 = (0 : Int))))) (fun (v : Bool) => .ok v)))
theorem s_l_figures_1 {k : Nat} (hk : 2 ≤ k) (number74 : Int) (due_here75 : List Int) : CS (m_l_figures_1 number74 due_here75) (pvF Pg Ag k i_l_figures_1 [] [enc number74, enc due_here75]) := by
  rw [at_l_figures_1 (by omega) _ _ rfl rfl]
  exact cs_of (σ := [some (enc number74), some (enc due_here75), none, none]) (ks_ifM (me_orM (me_not (me_call (po_cons (pe_var (v := number74) rfl) po_nil) (s_l_whole (by omega) _))) (me_of (pe_op (v := (decide (number74 < (0 : Int)))) (po_cons (pe_var (v := number74) rfl) (po_cons (pe_cst (v := (0 : Int)) rfl) po_nil)) rfl))) xt (ks_retP (pe_cst (v := false) rfl) hp_F) (ks_nil (ks_forR (st := fun (s78 : Int) => [some (enc s78), none, none, none]) number74 (im_of (it_seq (xs := due_here75) (pe_var (v := due_here75) rfl) rfl)) xt (sr trivial) (fun _ => rfl) (fun x79 s78 => tb_of (tg_one rfl) (ks_asgT (me_op (po_cons (pe_var (v := s78) rfl) (po_cons (pe_cst (v := (10 : Int)) rfl) po_nil)) r_dvm) (fun _ => (tg_two rfl rfl)) (fun _ => ⟨_, rfl⟩) xt (fun p80 => (ks_if (pe_op (v := (!decide (p80.b = x79))) (po_cons (pe_var (v := p80.b) rfl) (po_cons (pe_var (v := x79) rfl) po_nil)) q_neI) (ks_retP (pe_cst (v := false) rfl) hp_S) (ks_nil (ks_nil (ke_S (sr trivial)))))))) hh_F (fun s81 => (ks_retP (pe_op (v := (decide (s81 = (0 : Int)))) (po_cons (pe_var (v := s81) rfl) (po_cons (pe_cst (v := (0 : Int)) rfl) po_nil)) q_eqI) hp_F))))) rfl (sr (sr trivial)) (fun _ _ => ⟨_, rfl⟩)
def m_l_due_9 (at_84 : Int) (many85 : Int) (rows_here86 : List (Tup Int)) : M (List Int) := (((mulM (2 : Int) many85).bind fun (g87 : Int) => (.ok (decide (at_84 < g87)))).bind fun v107 => if v107 then ((m_l_sign_1 at_84).bind fun (sign_here88 : Int) => (((((M.ok rows_here86).bind (compF fun (x89 : (Tup Int)) => nx ((inM sign_here88 x89).bind fun (g90 : Bool) => (.ok (if g90 then (1 : Int) else 0))))).bind fun v93 => ((rngM [many85]).bind (compF fun (x91 : Int) => nx (M.ok (if (decide (x91 = (at_84 / (2 : Int)))) then (1 : Int) else 0)))).bind fun v94 => .ok (v93, v94)).bind fun (g92 : (List Int) × (List Int)) => (ext g92.1 g92.2)).bind fun (v95 : (List Int)) => .ok v95)) else (((((mulM (2 : Int) many85).bind fun (g96 : Int) => (.ok (at_84 - g96))).bind fun (g97 : Int) => (.ok (g97 / (2 : Int)))).bind fun (v98 : Int) => .ok (enc v98 : D)).bind fun (row99 : D) => (((((rngM [(rows_here86.length : Int)]).bind (compF fun (x100 : Int) => nx (((deqM x100 row99).bind fun (g101 : Bool) => (.ok (if g101 then (1 : Int) else 0))).bind fun (g102 : Int) => (mulM g102 ((1 : Int) + (at_84 % (2 : Int))))))).bind fun v104 => (repM ([(0 : Int)] : (List Int)) many85).bind fun v105 => .ok (v104, v105)).bind fun (g103 : (List Int) × (List Int)) => (ext g103.1 g103.2)).bind fun (v106 : (List Int)) => .ok v106)))
theorem s_l_due_9 {k : Nat} (hk : 2 ≤ k) (at_84 : Int) (many85 : Int) (rows_here86 : List (Tup Int)) : CS (m_l_due_9 at_84 many85 rows_here86) (pvF Pg Ag k i_l_due_9 [] [enc at_84, enc many85, enc rows_here86]) := by
  rw [at_l_due_9 (by omega) _ _ rfl rfl]
  exact cs_of (σ := [some (enc at_84), some (enc many85), some (enc rows_here86), none, none, none, none]) (ks_ifM (me_opM (k := fun (g87 : Int) => ((.ok (decide (at_84 < g87))) : M Bool)) (mo_PM (pe_var (v := at_84) rfl) (mo_M (me_op (po_cons (pe_cst (v := (2 : Int)) rfl) (po_cons (pe_var (v := many85) rfl) po_nil)) r_mul) po_nil)) (fun g87 => rfl)) xt (ks_asgM (me_call (po_cons (pe_var (v := at_84) rfl) po_nil) (s_l_sign_1 (by omega) _)) rfl xt (fun sign_here88 => (ks_retM (w := fun (v95 : (List Int)) => v95) (me_opM (k := fun (g92 : (List Int) × (List Int)) => ((ext g92.1 g92.2) : M (List Int))) (mo_MM (me_compF (im_of (it_seq (xs := rows_here86) (pe_var (v := rows_here86) rfl) rfl)) rfl (fun x89 => bf_M (tg_one rfl) (sr (sr (sr (sr trivial)))) (me_opM (k := fun (g90 : Bool) => ((.ok (if g90 then (1 : Int) else 0)) : M Int)) (mo_M (me_op (po_cons (pe_var (v := sign_here88) rfl) (po_cons (pe_var (v := x89) rfl) po_nil)) r_in) po_nil) (fun g90 => op_int1B)))) (mo_M (me_compF (im_rng (ns := [many85]) (po_cons (pe_var (v := many85) rfl) po_nil) rfl) rfl (fun x91 => bf_M (tg_one rfl) (sr (sr (sr (sr trivial)))) (me_of (pe_op (v := (if (decide (x91 = (at_84 / (2 : Int)))) then (1 : Int) else 0)) (po_cons (pe_op (v := (decide (x91 = (at_84 / (2 : Int))))) (po_cons (pe_var (v := x91) rfl) (po_cons (pe_op (v := (at_84 / (2 : Int))) (po_cons (pe_var (v := at_84) rfl) (po_cons (pe_cst (v := (2 : Int)) rfl) po_nil)) (q_fdiv rfl)) po_nil)) q_eqI) po_nil) op_int1B)))) po_nil)) (fun g92 => r_addL)) (fun _ => hp_F) xt))) (ks_nil (ks_asgM (me_as (w := fun (v98 : Int) => (enc v98 : D)) (me_opM (k := fun (g97 : Int) => ((.ok (g97 / (2 : Int))) : M Int)) (mo_M (me_opM (k := fun (g96 : Int) => ((.ok (at_84 - g96)) : M Int)) (mo_PM (pe_var (v := at_84) rfl) (mo_M (me_op (po_cons (pe_cst (v := (2 : Int)) rfl) (po_cons (pe_var (v := many85) rfl) po_nil)) r_mul) po_nil)) (fun g96 => rfl)) (po_cons (pe_cst (v := (2 : Int)) rfl) po_nil)) (fun g97 => (q_fdiv rfl))) (fun _ => rfl)) rfl xt (fun row99 => (ks_retM (w := fun (v106 : (List Int)) => v106) (me_opM (k := fun (g103 : (List Int) × (List Int)) => ((ext g103.1 g103.2) : M (List Int))) (mo_MM (me_compF (im_rng (ns := [(rows_here86.length : Int)]) (po_cons (pe_op (v := (rows_here86.length : Int)) (po_cons (pe_var (v := rows_here86) rfl) po_nil) q_lenL) po_nil) rfl) rfl (fun x100 => bf_M (tg_one rfl) (sr (sr (sr (sr trivial)))) (me_opM (k := fun (g102 : Int) => ((mulM g102 ((1 : Int) + (at_84 % (2 : Int)))) : M Int)) (mo_M (me_opM (k := fun (g101 : Bool) => ((.ok (if g101 then (1 : Int) else 0)) : M Int)) (mo_M (me_op (po_cons (pe_var (v := x100) rfl) (po_cons (pe_var (v := row99) rfl) po_nil)) r_eq) po_nil) (fun g101 => op_int1B)) (po_cons (pe_op (v := ((1 : Int) + (at_84 % (2 : Int)))) (po_cons (pe_cst (v := (1 : Int)) rfl) (po_cons (pe_op (v := (at_84 % (2 : Int))) (po_cons (pe_var (v := at_84) rfl) (po_cons (pe_cst (v := (2 : Int)) rfl) po_nil)) (q_mod rfl)) po_nil)) rfl) po_nil)) (fun g102 => r_mul)))) (mo_M (me_op (po_cons (pe_lst (v := ([(0 : Int)] : (List Int))) (pv_cons (pe_cst (v := (0 : Int)) rfl) pv_nil) rfl rfl) (po_cons (pe_var (v := many85) rfl) po_nil)) r_rep) po_nil)) (fun g103 => r_addL)) (fun _ => hp_F) xt))))) rfl (sr (sr (sr trivial))) (fun h => by cases h)
def m_l_told_4 (found108 : T3 Str (List Int) Int) (many109 : Int) (rows_here110 : List (Tup Int)) : M Bool := (if ((!true) || ((!decide ((3 : Int) = (3 : Int))) || ((!(found108.a == ("sums" : Str))) || (!true)))) then (M.ok false) else (((((mulM (2 : Int) many109).bind fun v112 => (mulM (2 : Int) (rows_here110.length : Int)).bind fun v113 => .ok (v112, v113)).bind fun (g111 : Int × Int) => (.ok (g111.1 + g111.2))).bind fun (g114 : Int) => (.ok (!decide ((found108.b.length : Int) = g114)))).bind fun v129 => if v129 then (M.ok false) else ((rngM [(found108.b.length : Int)]).bind fun (xs128 : List Int) => (foldR (fun (x116 : Int) (s115 : Unit) => ((((((atM found108.b x116).bind fun v118 => (m_l_due_9 x116 many109 rows_here110).bind fun v119 => .ok (v118, v119)).bind fun (g117 : Int × (List Int)) => (m_l_figures_1 g117.1 g117.2)).bind fun v120 => .ok (!v120)).bind fun v121 => if v121 then (M.ok (.ret false)) else (M.ok (.go ()))) : M (Stp (Unit) Bool))) xs128 ()).lp (fun (s122 : Unit) => (((((repM ([(4 : Int)] : (List Int)) (rows_here110.length : Int)).bind fun v124 => (repM ([(1 : Int)] : (List Int)) many109).bind fun v125 => .ok (v124, v125)).bind fun (g123 : (List Int) × (List Int)) => (ext g123.1 g123.2)).bind fun (g126 : (List Int)) => (m_l_figures_1 found108.c g126)).bind fun (v127 : Bool) => .ok v127)) (fun (v : Bool) => .ok v))))
theorem s_l_told_4 {k : Nat} (hk : 3 ≤ k) (found108 : T3 Str (List Int) Int) (many109 : Int) (rows_here110 : List (Tup Int)) : CS (m_l_told_4 found108 many109 rows_here110) (pvF Pg Ag k i_l_told_4 [] [enc found108, enc many109, enc rows_here110]) := by
  rw [at_l_told_4 (by omega) _ _ rfl rfl]
  exact cs_of (σ := [some (enc found108), some (enc many109), some (enc rows_here110), none]) (ks_if (pe_or (pe_not (pe_op (v := true) (po_cons (pe_var (v := found108) rfl) po_nil) rfl)) (pe_or (pe_op (v := (!decide ((3 : Int) = (3 : Int)))) (po_cons (pe_op (v := (3 : Int)) (po_cons (pe_var (v := found108) rfl) po_nil) rfl) (po_cons (pe_cst (v := (3 : Int)) rfl) po_nil)) q_neI) (pe_or (pe_op (v := (!(found108.a == ("sums" : Str)))) (po_cons (pe_op (v := found108.a) (po_cons (pe_var (v := found108) rfl) (po_cons (pe_cst (v := (0 : Int)) rfl) po_nil)) rfl) (po_cons (pe_cst (v := ("sums" : Str)) rfl) po_nil)) q_neS) (pe_not (pe_op (v := true) (po_cons (pe_op (v := found108.b) (po_cons (pe_var (v := found108) rfl) (po_cons (pe_cst (v := (1 : Int)) rfl) po_nil)) rfl) po_nil) rfl))))) (ks_retP (pe_cst (v := false) rfl) hp_F) (ks_nil (ks_ifM (me_opM (k := fun (g114 : Int) => ((.ok (!decide ((found108.b.length : Int) = g114))) : M Bool)) (mo_PM (pe_op (v := (found108.b.length : Int)) (po_cons (pe_op (v := found108.b) (po_cons (pe_var (v := found108) rfl) (po_cons (pe_cst (v := (1 : Int)) rfl) po_nil)) rfl) po_nil) q_lenL) (mo_M (me_opM (k := fun (g111 : Int × Int) => ((.ok (g111.1 + g111.2)) : M Int)) (mo_MM (me_op (po_cons (pe_cst (v := (2 : Int)) rfl) (po_cons (pe_var (v := many109) rfl) po_nil)) r_mul) (mo_M (me_op (po_cons (pe_cst (v := (2 : Int)) rfl) (po_cons (pe_op (v := (rows_here110.length : Int)) (po_cons (pe_var (v := rows_here110) rfl) po_nil) q_lenL) po_nil)) r_mul) po_nil)) (fun g111 => rfl)) po_nil)) (fun g114 => q_neI)) xt (ks_retP (pe_cst (v := false) rfl) hp_F) (ks_nil (ks_forR (st := fun (s115 : Unit) => [some (enc found108), some (enc many109), some (enc rows_here110), none]) () (im_rng (ns := [(found108.b.length : Int)]) (po_cons (pe_op (v := (found108.b.length : Int)) (po_cons (pe_op (v := found108.b) (po_cons (pe_var (v := found108) rfl) (po_cons (pe_cst (v := (1 : Int)) rfl) po_nil)) rfl) po_nil) q_lenL) po_nil) rfl) xt (sr (sr (sr trivial))) (fun _ => rfl) (fun x116 s115 => tb_of (tg_one rfl) (ks_ifM (me_not (me_callM (k := fun (g117 : Int × (List Int)) => (m_l_figures_1 g117.1 g117.2)) (mo_MM (me_op (po_cons (pe_op (v := found108.b) (po_cons (pe_var (v := found108) rfl) (po_cons (pe_cst (v := (1 : Int)) rfl) po_nil)) rfl) (po_cons (pe_var (v := x116) rfl) po_nil)) r_ixL) (mo_M (me_call (po_cons (pe_var (v := x116) rfl) (po_cons (pe_var (v := many109) rfl) (po_cons (pe_var (v := rows_here110) rfl) po_nil))) (s_l_due_9 (by omega) _ _ _)) po_nil)) (fun g117 => (s_l_figures_1 (by omega) _ _)))) xt (ks_retP (pe_cst (v := false) rfl) hp_S) (ks_nil (ks_nil (ke_S (sr (sr (sr trivial)))))))) hh_F (fun s122 => (ks_retM (w := fun (v127 : Bool) => v127) (me_callM (k := fun (g126 : (List Int)) => (m_l_figures_1 found108.c g126)) (mo_PM (pe_op (v := found108.c) (po_cons (pe_var (v := found108) rfl) (po_cons (pe_cst (v := (2 : Int)) rfl) po_nil)) rfl) (mo_M (me_opM (k := fun (g123 : (List Int) × (List Int)) => ((ext g123.1 g123.2) : M (List Int))) (mo_MM (me_op (po_cons (pe_lst (v := ([(4 : Int)] : (List Int))) (pv_cons (pe_cst (v := (4 : Int)) rfl) pv_nil) rfl rfl) (po_cons (pe_op (v := (rows_here110.length : Int)) (po_cons (pe_var (v := rows_here110) rfl) po_nil) q_lenL) po_nil)) r_rep) (mo_M (me_op (po_cons (pe_lst (v := ([(1 : Int)] : (List Int))) (pv_cons (pe_cst (v := (1 : Int)) rfl) pv_nil) rfl rfl) (po_cons (pe_var (v := many109) rfl) po_nil)) r_rep) po_nil)) (fun g123 => r_addL)) po_nil)) (fun g126 => (s_l_figures_1 (by omega) _ _))) (fun _ => hp_F) xt))))))) rfl (sr (sr (sr trivial))) (fun _ _ => ⟨_, rfl⟩)
def m_law_34 (script130 : List Int) : M Bool := (((m_l_cell_at_1 script130 (0 : Int)).bind fun (g131 : Int) => (m_l_mixed_1 g131)).bind fun (first132 : Int) => (M.lt (α := Int) (first132 % (7 : Int)) fun (many133 : Int) => ((if (decide (((first132 / (1009 : Int)) % (8 : Int)) = (3 : Int))) then (M.lt (α := Int) ((7 : Int) + ((first132 / (8072 : Int)) % (4 : Int))) fun (many135 : Int) => (M.ok many135)) else (M.ok many133)).bind fun (s134 : Int) => (M.lt (α := (List (Tup Int))) ([] : (List (Tup Int))) fun (rows_here136 : (List (Tup Int))) => ((if (decide ((0 : Int) < s134)) then ((((M.ok (cutL script130 (some (2 : Int)) (some (42 : Int)))).bind (compF fun (x138 : Int) => nx (M.ok (x138 % ((10 : Int) ^ (60 : Nat)))))).bind fun (g139 : (List Int)) => (m_l_rows_3 g139 s134)).bind fun (rows_here140 : (List (Tup Int))) => (M.ok rows_here140)) else (M.ok rows_here136)).bind fun (s137 : (List (Tup Int))) => (M.lt (α := (T3 Str Int (List (Tup Int)))) (⟨("threes" : Str), s134, s137⟩ : (T3 Str Int (List (Tup Int)))) fun (question141 : (T3 Str Int (List (Tup Int)))) => ((m_turn_figures question141).bind fun (found142 : (T3 Str (List Int) Int)) => ((((deqM question141 (⟨("threes" : Str), s134, s137⟩ : (T3 Str Int (List (Tup Int))))).bind fun b => .ok (!b)).bind fun v144 => (if v144 then .ok true else ((m_l_told_4 found142 s134 s137).bind fun v143 => .ok (!v143)))).bind fun v148 => if v148 then (M.ok false) else (M.lt (α := (T3 Str (List Int) Int)) (⟨found142.a, ([] : (List Int)), found142.c⟩ : (T3 Str (List Int) Int)) fun (found145 : (T3 Str (List Int) Int)) => (((m_turn_figures question141).bind fun (g146 : (T3 Str (List Int) Int)) => (m_l_told_4 g146 s134 s137)).bind fun (v147 : Bool) => .ok v147))))))))))
theorem s_law_34 {k : Nat} (hk : 4 ≤ k) (script130 : List Int) : CS (m_law_34 script130) (pvF Pg Ag k i_law_34 [] [enc script130]) := by
  rw [at_law_34 (by omega) _ _ rfl rfl]
  exact cs_of (σ := [some (enc script130), none, none, none, none, none, none]) (ks_asgM (me_callM (k := fun (g131 : Int) => (m_l_mixed_1 g131)) (mo_M (me_call (po_cons (pe_var (v := script130) rfl) (po_cons (pe_cst (v := (0 : Int)) rfl) po_nil)) (s_l_cell_at_1 (by omega) _ _)) po_nil) (fun g131 => (s_l_mixed_1 (by omega) _))) rfl xt (fun first132 => (ks_asgP (pe_op (v := (first132 % (7 : Int))) (po_cons (pe_var (v := first132) rfl) (po_cons (pe_cst (v := (7 : Int)) rfl) po_nil)) (q_mod rfl)) rfl (fun many133 => (ks_ifJ (st := fun (s134 : Int) => [some (enc script130), none, some (enc s134), none, none, none, none]) (pe_op (v := (decide (((first132 / (1009 : Int)) % (8 : Int)) = (3 : Int)))) (po_cons (pe_op (v := ((first132 / (1009 : Int)) % (8 : Int))) (po_cons (pe_op (v := (first132 / (1009 : Int))) (po_cons (pe_var (v := first132) rfl) (po_cons (pe_cst (v := (1009 : Int)) rfl) po_nil)) (q_fdiv rfl)) (po_cons (pe_cst (v := (8 : Int)) rfl) po_nil)) (q_mod rfl)) (po_cons (pe_cst (v := (3 : Int)) rfl) po_nil)) q_eqI) (ks_asgP (pe_op (v := ((7 : Int) + ((first132 / (8072 : Int)) % (4 : Int)))) (po_cons (pe_cst (v := (7 : Int)) rfl) (po_cons (pe_op (v := ((first132 / (8072 : Int)) % (4 : Int))) (po_cons (pe_op (v := (first132 / (8072 : Int))) (po_cons (pe_var (v := first132) rfl) (po_cons (pe_cst (v := (8072 : Int)) rfl) po_nil)) (q_fdiv rfl)) (po_cons (pe_cst (v := (4 : Int)) rfl) po_nil)) (q_mod rfl)) po_nil)) rfl) rfl (fun many135 => (ks_nil (ke_N (sr (sr trivial)))))) (ks_nil (ke_N (sr (sr trivial)))) (fun s134 => (ks_asgP (pe_lst (v := ([] : (List (Tup Int)))) pv_nil rfl rfl) rfl (fun rows_here136 => (ks_ifJ (st := fun (s137 : (List (Tup Int))) => [none, none, some (enc s134), some (enc s137), none, none, none]) (pe_op (v := (decide ((0 : Int) < s134))) (po_cons (pe_var (v := s134) rfl) (po_cons (pe_cst (v := (0 : Int)) rfl) po_nil)) rfl) (ks_asgM (me_callM (k := fun (g139 : (List Int)) => (m_l_rows_3 g139 s134)) (mo_M (me_compF (im_of (it_seq (xs := (cutL script130 (some (2 : Int)) (some (42 : Int)))) (pe_op (v := (cutL script130 (some (2 : Int)) (some (42 : Int)))) (po_cons (pe_var (v := script130) rfl) (po_cons (pe_cst (v := (2 : Int)) rfl) (po_cons (pe_cst (v := (42 : Int)) rfl) po_nil))) q_sl11) rfl)) rfl (fun x138 => bf_M (tg_one rfl) (sr (sr (sr trivial))) (me_of (pe_op (v := (x138 % ((10 : Int) ^ (60 : Nat)))) (po_cons (pe_var (v := x138) rfl) (po_cons (pe_op (v := ((10 : Int) ^ (60 : Nat))) (po_cons (pe_cst (v := (10 : Int)) rfl) (po_cons (pe_cst (v := (60 : Int)) rfl) po_nil)) (q_pow (n := 60) rfl)) po_nil)) (q_mod rfl))))) (po_cons (pe_var (v := s134) rfl) po_nil)) (fun g139 => (s_l_rows_3 (by omega) _ _))) rfl xt (fun rows_here140 => (ks_nil (ke_N (sr (sr trivial)))))) (ks_nil (ke_N (sr (sr trivial)))) (fun s137 => (ks_asgP (pe_tup (v := (⟨("threes" : Str), s134, s137⟩ : (T3 Str Int (List (Tup Int))))) (pv_cons (pe_cst (v := ("threes" : Str)) rfl) (pv_cons (pe_var (v := s134) rfl) (pv_cons (pe_op (v := s137) (po_cons (pe_lent (pe_var (v := s137) rfl)) po_nil) q_list1L) pv_nil))) rfl rfl) rfl (fun question141 => (ks_asgM (me_call (po_cons (pe_var (v := question141) rfl) po_nil) (s_turn_figures (by omega) _)) rfl xt (fun found142 => (ks_ifM (me_orM (me_op (po_cons (pe_var (v := question141) rfl) (po_cons (pe_tup (v := (⟨("threes" : Str), s134, s137⟩ : (T3 Str Int (List (Tup Int))))) (pv_cons (pe_cst (v := ("threes" : Str)) rfl) (pv_cons (pe_var (v := s134) rfl) (pv_cons (pe_var (v := s137) rfl) pv_nil))) rfl rfl) po_nil)) r_ne) (me_not (me_call (po_cons (pe_var (v := found142) rfl) (po_cons (pe_var (v := s134) rfl) (po_cons (pe_var (v := s137) rfl) po_nil))) (s_l_told_4 (by omega) _ _ _)))) xt (ks_retP (pe_cst (v := false) rfl) hp_F) (ks_nil (ks_clrAt (x := found142) (w := (⟨found142.a, ([] : (List Int)), found142.c⟩ : (T3 Str (List Int) Int))) (c := 1) rfl (pe_cst (v := (1 : Int)) rfl) xt rfl (fun found145 => (ks_retM (w := fun (v147 : Bool) => v147) (me_callM (k := fun (g146 : (T3 Str (List Int) Int)) => (m_l_told_4 g146 s134 s137)) (mo_M (me_call (po_cons (pe_var (v := question141) rfl) po_nil) (s_turn_figures (by omega) _)) (po_cons (pe_var (v := s134) rfl) (po_cons (pe_var (v := s137) rfl) po_nil))) (fun g146 => (s_l_told_4 (by omega) _ _ _))) (fun _ => hp_F) xt))))))))))))))))))) rfl (sr trivial) (fun _ _ => ⟨_, rfl⟩)
/-! ### the script's numbers -/
def mixed (c : Int) : Int := (c % 2147483647 + 11) * 48271 % 2147483647
theorem mixed_nn {c : Int} : 0 ≤ mixed c := by unfold mixed; omega
theorem mixed_lt {c : Int} : mixed c < 2147483647 := by unfold mixed; omega
theorem r_mixed {c : Int} : m_l_mixed_1 c = .ok (mixed c) := by
  unfold m_l_mixed_1 mixed
  simp (disch := first | omega | (simp; done) | (simp; omega)) [mB_assoc]
theorem p60 : ((10 : Int) ^ (60 : Nat)) = 1000000000000000000000000000000000000000000000000000000000000 := by decide
def cut60 (c : Int) : Int := c % 1000000000000000000000000000000000000000000000000000000000000
theorem cut60_nn {c : Int} : 0 ≤ cut60 c := by unfold cut60; omega
theorem cut60_lt {c : Int} : cut60 c < 1000000000000000000000000000000000000000000000000000000000000 := by unfold cut60; omega
theorem cut60_eq {c : Int} : c % ((10 : Int) ^ (60 : Nat)) = cut60 c := by rw [p60]; rfl
def cellAt (ns : List Int) (j : Int) : Int := if j < ns.length then cut60 (nth ns j) else 0
theorem cellAt_nn {ns : List Int} {j : Int} : 0 ≤ cellAt ns j := by
  unfold cellAt
  split
  · exact cut60_nn
  · omega
theorem cellAt_lt {ns : List Int} {j : Int} : cellAt ns j < 1000000000000000000000000000000000000000000000000000000000000 := by
  unfold cellAt
  split
  · exact cut60_lt
  · omega
theorem r_cellAt {ns : List Int} {j : Int} (h0 : 0 ≤ j) : m_l_cell_at_1 ns j = .ok (cellAt ns j) := by
  unfold m_l_cell_at_1 cellAt
  simp only [cut60_eq]
  by_cases hj : j < ns.length
  · simp (disch := first | omega | (simp; done) | (simp; omega)) [mB_assoc, hj]
  · simp (disch := first | omega | (simp; done) | (simp; omega)) [mB_assoc, hj]
theorem r_cells {xs : List Int} (h : xs.length < 16777216) : compF (fun (x : Int) => nx (M.ok (x % ((10 : Int) ^ (60 : Nat))))) xs = .ok (xs.map cut60) := by
  rw [compF_mapE cut60 h]
  intro x _
  rw [cut60_eq]
  rfl

/-! ### numbers by their digits -/
def pw (j : Nat) : Int := ((10 ^ j : Nat) : Int)
theorem pw_0 : pw 0 = 1 := rfl
theorem pw_succ {j : Nat} : pw (j + 1) = 10 * pw j := by
  unfold pw
  rw [Nat.pow_succ]
  omega
theorem pw_pos {j : Nat} : 0 < pw j := by
  unfold pw
  have := Nat.pow_pos (n := j) (show 0 < 10 by omega)
  omega
theorem pw_add {i j : Nat} : pw (i + j) = pw i * pw j := by
  unfold pw
  rw [Nat.pow_add, Int.natCast_mul]
theorem pw_le {i j : Nat} (h : i ≤ j) : pw i ≤ pw j := by
  unfold pw
  have := Nat.pow_le_pow_right (n := 10) (by omega) h
  omega
theorem pw60 : pw 60 = 1000000000000000000000000000000000000000000000000000000000000 := by decide
theorem pw_lt {j : Nat} (h : j ≤ 60) : pw j ≤ 1000000000000000000000000000000000000000000000000000000000000 := pw60 ▸ pw_le h
def cols (n : Nat) : List Int := vec n pw
def val : List Int → Int
  | [] => 0
  | d :: ds => d + 10 * val ds
theorem val_app : ∀ {xs ys : List Int}, val (xs ++ ys) = val xs + pw xs.length * val ys
  | [], ys => by simp [val, pw_0]
  | x :: xs, ys => by
    show x + 10 * val (xs ++ ys) = x + 10 * val xs + pw (xs.length + 1) * val ys
    rw [val_app, pw_succ, Int.mul_add, Int.mul_assoc]
    omega
def digs (ds : List Int) : Prop := ∀ d ∈ ds, 0 ≤ d ∧ d ≤ 9
theorem val_nn : ∀ {ds : List Int}, digs ds → 0 ≤ val ds
  | [], _ => by simp [val]
  | d :: ds, h => by
    have := val_nn (ds := ds) fun x hx => h x (List.mem_cons_of_mem _ hx)
    have := h d List.mem_cons_self
    show 0 ≤ d + 10 * val ds
    omega
theorem digs_app {xs ys : List Int} (h1 : digs xs) (h2 : digs ys) : digs (xs ++ ys) := fun d hd => (List.mem_append.mp hd).elim (h1 d) (h2 d)
/-- the sum of the first powers -/
def sm : Nat → Int
  | 0 => 0
  | n + 1 => sm n + pw n
theorem sm_cols : ∀ {n : Nat}, (cols n).sum = sm n
  | 0 => rfl
  | n + 1 => by
    unfold cols vec
    rw [List.range_succ, List.map_append, List.sum_append]
    have := sm_cols (n := n)
    unfold cols vec at this
    rw [this]
    simp [sm]
theorem sm_lt : ∀ {n : Nat}, 0 ≤ sm n ∧ sm n < pw n
  | 0 => by decide
  | n + 1 => by
    have := sm_lt (n := n)
    have := pw_pos (j := n)
    rw [pw_succ]
    show 0 ≤ sm n + pw n ∧ sm n + pw n < 10 * pw n
    omega
theorem sm_add {i : Nat} : ∀ {n : Nat}, sm (i + n) = sm i + pw i * sm n
  | 0 => by simp [sm]
  | n + 1 => by
    show sm (i + n) + pw (i + n) = sm i + pw i * (sm n + pw n)
    rw [sm_add, pw_add, Int.mul_add]
    omega
theorem val_rep {c : Int} : ∀ {n : Nat}, val (List.replicate n c) = c * sm n
  | 0 => by simp [val, sm]
  | n + 1 => by
    rw [List.replicate_succ', val_app, val_rep]
    show c * sm n + pw (List.replicate n c).length * (c + 10 * 0) = c * (sm n + pw n)
    rw [List.length_replicate, Int.mul_add, Int.mul_add]
    simp [Int.mul_comm]
theorem val_one {c : Int} {k : Nat} : ∀ {n : Nat}, val (vec n fun t => if t = k then c else 0) = if k < n then c * pw k else 0
  | 0 => by simp [vec, val]
  | n + 1 => by
    have e : (vec (n + 1) fun t => if t = k then c else 0) = (vec n fun t => if t = k then c else 0) ++ [if n = k then c else 0] := by
      unfold vec
      rw [List.range_succ, List.map_append]; rfl
    rw [e, val_app, val_one, vec_len]
    show _ + pw n * ((if n = k then c else 0) + 10 * 0) = _
    by_cases h : n = k
    · subst h
      rw [if_neg (by omega), if_pos rfl, if_pos (by omega), Int.mul_comm]
      simp
    · by_cases h2 : k < n
      · rw [if_pos h2, if_neg h, if_pos (by omega)]; simp
      · rw [if_neg h2, if_neg h, if_neg (by omega)]; simp
theorem dvm10 {s : Int} : dvmM s 10 = .ok ⟨s / 10, s % 10⟩ := if_pos ⟨by decide, by decide⟩
def okF (s x : Int) : Bool := decide (s % 10 = x)
def nxF (s x : Int) : Int := s / 10
theorem chkF : ∀ {ds : List Int}, digs ds → chk okF nxF ds (val ds) = true ∧ ds.foldl nxF (val ds) = 0
  | [], _ => ⟨rfl, rfl⟩
  | d :: ds, h => by
    have hd := h d List.mem_cons_self
    have hh : digs ds := fun x hx => h x (List.mem_cons_of_mem _ hx)
    have e : val (d :: ds) = d + 10 * val ds := rfl
    obtain ⟨h1, h2⟩ := chkF hh
    have e1 : (d + 10 * val ds) % 10 = d := by omega
    have e2 : (d + 10 * val ds) / 10 = val ds := by omega
    constructor
    · show (okF (val (d :: ds)) d && chk okF nxF ds (nxF (val (d :: ds)) d)) = true
      unfold okF nxF
      rw [e, e1, e2, decide_eq_true rfl]
      exact h1
    · show ds.foldl nxF (nxF (val (d :: ds)) d) = 0
      unfold nxF at h2 ⊢
      rw [e, e2]
      exact h2
theorem r_figures {ds : List Int} (h : digs ds) : m_l_figures_1 (val ds) ds = .ok true := by
  unfold m_l_figures_1 m_l_whole
  have hn : ¬ val ds < 0 := by have := val_nn h; omega
  simp only [Bool.not_false, Bool.and_self, mB_ok, Bool.not_true, Bool.false_eq_true, if_false, hn, decide_false]
  obtain ⟨h1, h2⟩ := chkF h
  rw [foldR_chk okF nxF false (fun _ => True) trivial]
  · rw [h1, if_pos rfl, lp_fin, h2]; rfl
  · intro x _ s _
    refine ⟨?_, fun _ => trivial⟩
    unfold okF nxF
    rw [dvm10, mB_ok]
    dsimp only
    cases decide (s % 10 = x) <;> rfl
theorem r_powers {n : Nat} (h : n ≤ 60) : m_powers 10 n = .ok (cols n) := by
  suffices hh : Ok (m_powers 10 n) (fun r => r = cols n) by
    obtain ⟨r, e, rfl⟩ := hh
    exact e
  unfold m_powers
  simp only [lt_def, rngM1 (n := (n : Int)) (by omega) (by omega), mB_ok]
  refine Ok.bind (ok_fold (I := fun pre (s : List Int × Int) => s.1 = cols pre.length ∧ s.2 = pw pre.length) ⟨rfl, rfl⟩ ?_) ?_
  · rintro pre x post ⟨a, b⟩ e ⟨h1, h2⟩
    have hlen := congrArg List.length e
    simp at hlen
    dsimp only at h1 h2 ⊢
    subst h1 h2
    have hp := pw_lt (j := pre.length) (by omega)
    have hp0 := pw_pos (j := pre.length)
    have hc : (cols pre.length).length = pre.length := vec_len
    rw [appM_ok (by rw [hc]; omega), mB_ok, mulM_ok (by omega) (by omega), mB_ok]
    refine ⟨_, rfl, ?_, ?_⟩
    · show cols pre.length ++ [pw pre.length] = cols (pre ++ [x]).length
      unfold cols vec
      rw [List.length_append, List.length_singleton, List.range_succ, List.map_append]; rfl
    · show pw pre.length * 10 = pw (pre ++ [x]).length
      rw [List.length_append, List.length_singleton, pw_succ, Int.mul_comm]
  · rintro ⟨a, b⟩ ⟨h1, h2⟩
    refine ⟨_, rfl, ?_⟩
    rw [h1]
    simp
theorem cols_at {n : Nat} {i : Int} (h0 : 0 ≤ i) (h1 : i < n) : atM (cols n) i = .ok (pw i.toNat) := by
  rw [atM_ok h0 (by unfold cols; rw [vec_len]; exact h1)]
  unfold cols
  rw [vec_at h0 h1]
theorem pairs_at {α : Type} {f g : α → Int} : ∀ {xs : List α} {k : Nat}, k < 2 * xs.length → (xs.flatMap fun x => [f x, g x])[k]? = (xs[k / 2]?).map fun x => if k % 2 = 0 then f x else g x
  | [], k, h => by simp at h
  | x :: xs, k, h => by
    rw [List.flatMap_cons]
    match k, h with
    | 0, _ => rfl
    | 1, _ => rfl
    | k + 2, h =>
      show (xs.flatMap fun x => [f x, g x])[k]? = _
      rw [pairs_at (by rw [List.length_cons] at h; omega), show (k + 2) / 2 = k / 2 + 1 by omega, show (k + 2) % 2 = k % 2 by omega]
      rfl
theorem pairs_len {α : Type} {f g : α → Int} : ∀ {xs : List α}, (xs.flatMap fun x => [f x, g x]).length = 2 * xs.length
  | [] => rfl
  | x :: xs => by
    rw [List.flatMap_cons, List.length_append, pairs_len]
    show 2 + 2 * xs.length = 2 * (xs.length + 1)
    omega

/-! ### rows as figures -/
theorem r_sign {d : Int} : m_l_sign_1 d = .ok (if d % 2 = 1 then -1 - d / 2 else 1 + d / 2) := by
  unfold m_l_sign_1
  by_cases h : d % 2 = 1 <;> simp [h]
theorem r_rows {cells : List Int} {many : Int} (h0 : 0 < many) (h1 : many < 100) (hl : cells.length ≤ 40) : Ok (m_l_rows_3 cells many) (fun r => r.length ≤ 40) := by
  unfold m_l_rows_3
  rw [mulM_ok (a := 2) (b := many) (by omega) (by omega)]
  simp only [mB_ok, lt_def]
  refine Ok.bind (ok_fold (I := fun pre (s : List (Tup Int)) => s.length = pre.length) rfl ?_) fun s h => ⟨s, rfl, by omega⟩
  rintro pre x post s e h
  have hlen := congrArg List.length e
  simp at hlen
  have hbb : 2 * many * (2 * many) ≤ 200 * 200 := Int.mul_le_mul (by omega) (by omega) (by omega) (by omega)
  have hbb0 : 0 < 2 * many * (2 * many) := Int.mul_pos (by omega) (by omega)
  have hx := mixed_nn (c := x)
  obtain ⟨m, hm⟩ : ∃ m, m = mixed x := ⟨_, rfl⟩
  simp only [r_mixed, ← hm, mB_ok, modM_ok (a := m) (b := 2 * many) (by omega), fdivM_ok (a := m) (b := 2 * many) (by omega) (by omega), modM_ok (a := m / (2 * many)) (b := 2 * many) (by omega), mulM_ok (a := 2 * many) (b := 2 * many) (by omega) (by omega), fdivM_ok (a := m) (b := 2 * many * (2 * many)) hbb0 (by omega), modM_ok (a := m / (2 * many * (2 * many))) (b := 2 * many) (by omega), r_sign]
  rw [compF_nx (by simp), mB_ok, mB_ok, appM_ok (by omega), mB_ok]
  exact ⟨_, rfl, by simp [h]⟩
def ind (s : Int) (r : Tup Int) : Int := if decide (s ∈ r.l) then 1 else 0
theorem ind_digs {s : Int} {rows : List (Tup Int)} : digs (rows.map (ind s)) := by
  intro d hd
  obtain ⟨r, _, rfl⟩ := List.mem_map.mp hd
  unfold ind
  split <;> omega
theorem sum_ind {s : Int} : ∀ {rows : List (Tup Int)} {k : Nat}, ((rows.mapIdx fun j x => (⟨((j + k : Nat) : Int), x⟩ : T2 Int (Tup Int))).filterMap fun p => if decide (s ∈ p.b.l) then some (pw p.a.toNat) else none).sum = pw k * val (rows.map (ind s))
  | [], k => by simp [val]
  | r :: rows, k => by
    have ih := sum_ind (s := s) (rows := rows) (k := k + 1)
    rw [List.mapIdx_cons, List.filterMap_cons]
    have e : (rows.mapIdx fun i x => (⟨((i + 1 + k : Nat) : Int), x⟩ : T2 Int (Tup Int))) = rows.mapIdx fun j x => (⟨((j + (k + 1) : Nat) : Int), x⟩ : T2 Int (Tup Int)) := by
      congr 1
      funext i x
      rw [show i + 1 + k = i + (k + 1) by omega]
    rw [e]
    show _ = pw k * (ind s r + 10 * val (rows.map (ind s)))
    rw [Int.mul_add, show pw k * (10 * val (rows.map (ind s))) = pw (k + 1) * val (rows.map (ind s)) by rw [pw_succ, ← Int.mul_assoc, Int.mul_comm (pw k) 10], ← ih]
    unfold ind
    by_cases h : s ∈ r.l
    · simp [h]
    · simp [h]
def numOf (rows : List (Tup Int)) (s : Int) (name : Nat) : Int := val (rows.map (ind s)) + pw rows.length * pw name
def nums (rows : List (Tup Int)) (n : Nat) : List Int := ((List.range n).flatMap fun (k : Nat) => [numOf rows ((k : Int) + 1) k, numOf rows (-((k : Int) + 1)) k]) ++ (List.range rows.length).flatMap fun r => [pw r, 2 * pw r]
theorem nums_len {rows : List (Tup Int)} {n : Nat} : (nums rows n).length = 2 * n + 2 * rows.length := by
  unfold nums
  rw [List.length_append, pairs_len, pairs_len, List.length_range, List.length_range]
def totalF (R n : Nat) : Int := pw R * sm n + 4 * sm R
theorem r_turn {w : Str} {rows : List (Tup Int)} {n : Nat} (hn : n ≤ 10) (hr : rows.length ≤ 40) : m_turn_figures ⟨w, n, rows⟩ = .ok ⟨"sums", nums rows n, totalF rows.length n⟩ := by
  suffices h : Ok (m_turn_figures ⟨w, n, rows⟩) (fun r => r = ⟨"sums", nums rows n, totalF rows.length n⟩) by
    obtain ⟨r, e, rfl⟩ := h
    exact e
  unfold m_turn_figures
  have hp := r_powers (n := rows.length + n) (by omega)
  rw [show ((rows.length + n : Nat) : Int) = (rows.length : Int) + (n : Int) by omega] at hp
  simp only [lt_def, hp, mB_ok, rngM1 (n := (n : Int)) (by omega) (by omega), Int.toNat_natCast]
  have comp : ∀ s : Int, compF (fun (x21 : (T2 Int (Tup Int))) => cnd (inM s x21.b) (atM (cols (rows.length + n)) x21.a)) (enumL rows) = .ok ((enumL rows).filterMap fun p => if decide (s ∈ p.b.l) then some (pw p.a.toNat) else none) := fun s => by
    refine compF_eq _ (by rw [enumL_length]; omega) fun p hp => ?_
    obtain ⟨pre, post, e⟩ := List.append_of_mem hp
    obtain ⟨a1, a2⟩ := enumL_at e
    have hlt : pre.length < rows.length := (List.getElem?_eq_some_iff.mp a2).1
    rw [inM_T, cols_at (by omega) (by omega)]
    cases decide (s ∈ p.b.l) <;> rfl
  have sums : ∀ s : Int, ((enumL rows).filterMap fun p => if decide (s ∈ p.b.l) then some (pw p.a.toNat) else none).sum = val (rows.map (ind s)) := fun s => by
    have := sum_ind (s := s) (rows := rows) (k := 0)
    rw [pw_0, Int.one_mul] at this
    exact this
  refine Ok.bind (ok_fold (I := fun pre (s : List Int) => s = ((List.range pre.length).flatMap fun (k : Nat) => [numOf rows ((k : Int) + 1) k, numOf rows (-((k : Int) + 1)) k])) rfl ?_) ?_
  · rintro pre x post s e rfl
    obtain ⟨x0, x1, x2⟩ := mem_range_int (n := (n : Int)) (by rw [Int.toNat_natCast]; exact e)
    obtain ⟨S, hS⟩ : ∃ S, S = ((List.range pre.length).flatMap fun (k : Nat) => [numOf rows ((k : Int) + 1) k, numOf rows (-((k : Int) + 1)) k]) := ⟨_, rfl⟩
    have hSl : S.length = 2 * pre.length := by rw [hS, pairs_len, List.length_range]
    rw [← hS]
    have hpl : pre.length < n := by omega
    have step : ∀ (s : Int) (S : List Int), S.length < 1000 → ((((M.ok rows).bind fun v20 => .ok (enumL v20)).bind (compF fun (x21 : (T2 Int (Tup Int))) => cnd (inM s x21.b) (atM (cols (rows.length + n)) x21.a))).bind fun (rows22 : (List Int)) => (((atM (cols (rows.length + n)) ((rows.length : Int) + x)).bind fun (g24 : Int) => (.ok (g24 + (rows22.sum)))).bind fun (v25 : Int) => (app S v25).bind fun (numbers23 : (List Int)) => (M.ok numbers23))) = .ok (S ++ [numOf rows s pre.length]) := fun s S hl => by
      rw [mB_ok, mB_ok, comp, mB_ok, cols_at (by omega) (by omega), mB_ok, mB_ok, sums, appM_ok (by omega), mB_ok]
      unfold numOf
      rw [← pw_add, Int.add_comm, show ((rows.length : Int) + x).toNat = rows.length + pre.length by omega]
    simp only [mB_ok, mB_ret] at step ⊢
    show Ok (foldM _ [x + 1, -(x + 1)] S) _
    simp only [foldM]
    rw [step (x + 1) S (by omega), mB_ok, step (-(x + 1)) _ (by simp; omega), mB_ok]
    refine ⟨_, rfl, ?_⟩
    rw [List.length_append, List.length_singleton, List.range_succ, List.flatMap_append, ← hS, x2]
    simp
  · rintro s rfl
    simp only [List.length_map, List.length_range]
    obtain ⟨S, hS⟩ : ∃ S, S = ((List.range n).flatMap fun (k : Nat) => [numOf rows ((k : Int) + 1) k, numOf rows (-((k : Int) + 1)) k]) := ⟨_, rfl⟩
    have hSl : S.length = 2 * n := by rw [hS, pairs_len, List.length_range]
    rw [← hS, rngM1 (n := (rows.length : Int)) (by omega) (by omega), mB_ok, Int.toNat_natCast]
    refine Ok.bind (ok_fold (I := fun pre (s : List Int) => s = S ++ ((List.range pre.length).flatMap fun r => [pw r, 2 * pw r])) (by simp) ?_) ?_
    · rintro pre x post s e rfl
      obtain ⟨x0, x1, x2⟩ := mem_range_int (n := (rows.length : Int)) (by rw [Int.toNat_natCast]; exact e)
      have hb := pw_lt (j := pre.length) (by omega)
      have hb0 := pw_pos (j := pre.length)
      have ex : x.toNat = pre.length := by omega
      have hT : (S ++ ((List.range pre.length).flatMap fun r => [pw r, 2 * pw r])).length = 2 * n + 2 * pre.length := by rw [List.length_append, hSl, pairs_len, List.length_range]
      rw [cols_at (by omega) (by omega), mB_ok, mB_ok, ex, mulM_ok (by omega) (by omega), mB_ok, mB_ok, mB_ok, extM_ok (by rw [hT]; simp; omega), mB_ok]
      refine ⟨_, rfl, ?_⟩
      rw [List.length_append, List.length_singleton, List.range_succ, List.flatMap_append, List.append_assoc]
      simp
    · rintro s rfl
      have s1 := sm_lt (n := rows.length)
      have s2 := pw_lt (j := rows.length) (by omega)
      have s3 := sm_lt (n := n)
      have et : (cutL (cols (rows.length + n)) none (some (rows.length : Int))).sum = sm rows.length := by
        rw [cutL_to (by omega), Int.toNat_natCast, ← sm_cols]
        congr 1
        unfold cols vec
        rw [← List.map_take, List.take_range]
        congr 2
        omega
      have ed : (cutL (cols (rows.length + n)) (some (rows.length : Int)) none).sum = pw rows.length * sm n := by
        have hall := sm_cols (n := rows.length + n)
        rw [← List.take_append_drop rows.length (cols (rows.length + n)), List.sum_append, sm_add] at hall
        rw [cutL_to (by omega), Int.toNat_natCast] at et
        rw [cutL_from (by omega), Int.toNat_natCast]
        omega
      rw [et, ed, mulM_ok (by omega) (by omega)]
      simp only [mB_ok]
      refine ⟨_, rfl, ?_⟩
      rw [List.length_map, List.length_range, hS]
      rfl

theorem vec_ints {n : Nat} {f : Int → Int} : ((List.range n).map fun (k : Nat) => (k : Int)).map f = vec n fun t => f (t : Int) := by
  rw [List.map_map]; rfl
theorem digs_vec {n : Nat} {f : Nat → Int} (h : ∀ t, 0 ≤ f t ∧ f t ≤ 9) : digs (vec n f) := by
  intro d hd
  obtain ⟨t, _, rfl⟩ := List.mem_map.mp hd
  exact h t
theorem digs_rep {n : Nat} {c : Int} (h : 0 ≤ c ∧ c ≤ 9) : digs (List.replicate n c) := by
  intro d hd
  rw [List.eq_of_mem_replicate hd]; exact h
theorem r_due1 {rows : List (Tup Int)} {n : Nat} {x : Int} (hn : n ≤ 10) (hr : rows.length ≤ 40) (h0 : 0 ≤ x) (h1 : x < 2 * n) : Ok (m_l_due_9 x n rows) fun ds => digs ds ∧ val ds = numOf rows (if x % 2 = 1 then -1 - x / 2 else 1 + x / 2) (x / 2).toNat := by
  unfold m_l_due_9
  obtain ⟨s, hs⟩ : ∃ s, s = (if x % 2 = 1 then -1 - x / 2 else 1 + x / 2) := ⟨_, rfl⟩
  have e : compF (fun (x89 : (Tup Int)) => nx ((inM s x89).bind fun (g90 : Bool) => (.ok (if g90 then (1 : Int) else 0)))) rows = .ok (rows.map (ind s)) := compF_mapE _ (by omega) fun r _ => by
    rw [inM_T]; rfl
  simp only [mulM_ok (a := 2) (b := (n : Int)) (by omega) (by omega), mB_ok, h1, decide_true, if_true, r_sign, ← hs, e, rngM1 (n := (n : Int)) (by omega) (by omega), Int.toNat_natCast]
  rw [compF_nx (by simp; omega), vec_ints]
  have hv : (vec n fun t => if decide ((t : Int) = x / 2) = true then (1 : Int) else 0) = vec n fun t => if t = (x / 2).toNat then 1 else 0 := vec_congr fun t _ => by
    by_cases h : t = (x / 2).toNat
    · have : (t : Int) = x / 2 := by omega
      simp [h, this]
      omega
    · have : ¬ (t : Int) = x / 2 := by omega
      simp [h, this]
  rw [hv]
  simp only [mB_ok]
  rw [extM_ok (by rw [List.length_map, vec_len]; omega), mB_ok]
  refine ⟨_, rfl, digs_app ind_digs (digs_vec fun t => by split <;> omega), ?_⟩
  rw [val_app, List.length_map, val_one, if_pos (by omega), Int.one_mul]
  rfl
theorem r_due2 {rows : List (Tup Int)} {n : Nat} {x : Int} (hn : n ≤ 10) (hr : rows.length ≤ 40) (h0 : 2 * n ≤ x) (h1 : x < 2 * n + 2 * rows.length) : Ok (m_l_due_9 x n rows) fun ds => digs ds ∧ val ds = (1 + x % 2) * pw ((x - 2 * n) / 2).toNat := by
  unfold m_l_due_9
  have hx : ¬ x < 2 * (n : Int) := by omega
  obtain ⟨r, hrw⟩ : ∃ r, r = (x - 2 * n) / 2 := ⟨_, rfl⟩
  simp only [mulM_ok (a := 2) (b := (n : Int)) (by omega) (by omega), mB_ok, hx, decide_false, Bool.false_eq_true, if_false, ← hrw, rngM1 (n := (rows.length : Int)) (by omega) (by omega), Int.toNat_natCast, repM1 (v := (0 : Int)) (n := (n : Int)) (by omega) (by omega)]
  have e : compF (fun (x100 : Int) => nx (((deqM x100 (enc r : D)).bind fun (g101 : Bool) => (.ok (if g101 then (1 : Int) else 0))).bind fun (g102 : Int) => (mulM g102 ((1 : Int) + (x % (2 : Int)))))) ((List.range rows.length).map fun (k : Nat) => (k : Int)) = .ok (((List.range rows.length).map fun (k : Nat) => (k : Int)).map fun t => (if decide (t = r) then (1 : Int) else 0) * (1 + x % 2)) := compF_mapE _ (by simp; omega) fun t _ => by
    rw [deqM_Dr, deqM_eq (x := t) (y := r) (by omega), mB_ok, mB_ok, mulM_ok (by split <;> omega) (by omega)]
    rfl
  rw [e, vec_ints]
  have hv : (vec rows.length fun t => (if decide ((t : Int) = r) = true then (1 : Int) else 0) * (1 + x % 2)) = vec rows.length fun t => if t = r.toNat then 1 + x % 2 else 0 := vec_congr fun t _ => by
    by_cases h : t = r.toNat
    · have : (t : Int) = r := by omega
      rw [if_pos (by simpa using this), if_pos h]; omega
    · have : ¬ (t : Int) = r := by omega
      rw [if_neg (by simpa using this), if_neg h]; omega
  rw [hv]
  simp only [mB_ok]
  rw [extM_ok (by rw [List.length_replicate, vec_len]; omega), mB_ok]
  refine ⟨_, rfl, digs_app (digs_vec fun t => by split <;> omega) (digs_rep (by omega)), ?_⟩
  rw [val_app, val_rep, val_one, if_pos (by omega)]
  simp
theorem r_told {rows : List (Tup Int)} {n : Nat} (hn : n ≤ 10) (hr : rows.length ≤ 40) : m_l_told_4 ⟨"sums", nums rows n, totalF rows.length n⟩ n rows = .ok true := by
  unfold m_l_told_4
  have e1 : (Str.ofString "sums" == Str.ofString "sums") = true := by simp
  have hl := nums_len (rows := rows) (n := n)
  have hl' : ((nums rows n).length : Int) = 2 * n + 2 * rows.length := by omega
  simp only [decide_true, Bool.not_true, Bool.or_self, Bool.false_eq_true, if_false, e1, mB_ok, mulM_ok (a := 2) (b := (n : Int)) (by omega) (by omega), mulM_ok (a := 2) (b := (rows.length : Int)) (by omega) (by omega), hl', rngM1 (n := 2 * (n : Int) + 2 * (rows.length : Int)) (by omega) (by omega),
    repM1 (v := (4 : Int)) (n := (rows.length : Int)) (by omega) (by omega), repM1 (v := (1 : Int)) (n := (n : Int)) (by omega) (by omega), Int.toNat_natCast]
  rw [foldR_find (fun _ => false) false]
  · simp only [List.any_eq_false.mpr (fun _ _ => Bool.false_ne_true), Bool.false_eq_true, if_false, lp_fin]
    rw [extM_ok (by simp; omega), mB_ok]
    have ed : digs (List.replicate rows.length 4 ++ List.replicate n 1) := digs_app (digs_rep (by omega)) (digs_rep (by omega))
    have ev : totalF rows.length n = val (List.replicate rows.length 4 ++ List.replicate n 1) := by
      rw [val_app, val_rep, val_rep, List.length_replicate, Int.one_mul]
      unfold totalF
      omega
    rw [ev, r_figures ed]
    rfl
  · intro x hx
    simp only [List.mem_map, List.mem_range] at hx
    obtain ⟨k, hk, rfl⟩ := hx
    have hk2 : k < 2 * n + 2 * rows.length := by omega
    rw [atM_ok (by omega) (by omega)]
    have key : ∃ ds, m_l_due_9 (k : Int) n rows = .ok ds ∧ digs ds ∧ val ds = nth (nums rows n) (k : Int) := by
      by_cases h : k < 2 * n
      · obtain ⟨ds, e, h1, h2⟩ := r_due1 (rows := rows) (n := n) (x := (k : Int)) hn hr (by omega) (by omega)
        refine ⟨ds, e, h1, ?_⟩
        rw [h2]
        unfold nth nums
        rw [List.getElem?_append_left (by rw [pairs_len, List.length_range]; omega), Int.toNat_natCast, pairs_at (by rw [List.length_range]; omega), List.getElem?_range (by omega)]
        show _ = if k % 2 = 0 then _ else _
        by_cases h3 : k % 2 = 0
        · rw [if_pos h3, if_neg (by omega)]
          congr 1 <;> omega
        · rw [if_neg h3, if_pos (by omega)]
          congr 1 <;> omega
      · obtain ⟨ds, e, h1, h2⟩ := r_due2 (rows := rows) (n := n) (x := (k : Int)) hn hr (by omega) (by omega)
        refine ⟨ds, e, h1, ?_⟩
        rw [h2]
        unfold nth nums
        rw [Int.toNat_natCast, List.getElem?_append_right (by rw [pairs_len, List.length_range]; omega), pairs_len, List.length_range, pairs_at (by rw [List.length_range]; omega), List.getElem?_range (by omega)]
        show _ = if (k - 2 * n) % 2 = 0 then _ else _
        have e2 : (((k : Int) - 2 * (n : Int)) / 2).toNat = (k - 2 * n) / 2 := by omega
        rw [e2]
        by_cases h3 : (k - 2 * n) % 2 = 0
        · rw [if_pos h3, show (k : Int) % 2 = 0 by omega]
          omega
        · rw [if_neg h3, show (k : Int) % 2 = 1 by omega]
          rfl
    obtain ⟨ds, e, h1, h2⟩ := key
    simp only [mB_ok, e]
    rw [← h2, r_figures h1]
    rfl
/-! ### the law -/
theorem r_law {ns : List Int} : m_law_34 ns = .ok true := by
  suffices h : Ok (m_law_34 ns) (fun r => r = true) by
    obtain ⟨r, e, rfl⟩ := h
    exact e
  unfold m_law_34
  have hcut : (cutL ns (some 2) (some 42)).length ≤ 40 := by rw [cutL_mid (by omega) (by omega)]; simp; omega
  obtain ⟨c0, hc0⟩ : ∃ c0, c0 = mixed (cellAt ns 0) := ⟨_, rfl⟩
  have c00 : 0 ≤ c0 := hc0 ▸ mixed_nn
  simp only [r_cellAt (ns := ns) (j := 0) (by omega), r_mixed, mB_ok, ← hc0, r_cells (xs := cutL ns (some 2) (some 42)) (by omega), lt_def, mB_ret]
  obtain ⟨many, e1, n, hm, hn⟩ : Ok (if decide (c0 / 1009 % 8 = 3) = true then (M.ok (7 + c0 / 8072 % 4) : M Int) else .ok (c0 % 7)) (fun m => ∃ n : Nat, m = n ∧ n ≤ 10) := ok_if (fun _ => ⟨_, rfl, (7 + c0 / 8072 % 4).toNat, by omega, by omega⟩) fun _ => ⟨_, rfl, (c0 % 7).toNat, by omega, by omega⟩
  rw [e1, mB_ok]
  subst hm
  obtain ⟨rows, e2, hl⟩ : Ok (if decide ((0 : Int) < (n : Int)) = true then m_l_rows_3 ((cutL ns (some 2) (some 42)).map cut60) n else .ok []) (fun r => r.length ≤ 40) := by
    refine ok_if (fun h => r_rows (by simpa using h) (by omega) (by simp; omega)) fun _ => ⟨[], rfl, by simp⟩
  simp only [e2, mB_ok, r_turn (w := "threes") hn hl, deqM_q3 (w := "threes") (b := (n : Int)) (c := rows) (by decide +kernel) (by omega) (by omega), r_told hn hl, Bool.not_true, Bool.false_eq_true, if_false]
  exact ⟨_, rfl, rfl⟩

def top (i : Nat) : Stmt := PySem.Challenge.pw_chainturn_k46_figures_numbers.main.body.getD i (.Pass ⟨0, 0, 0, 0⟩)
def fnN : List Str := ["powers", "turn_figures", "_law_cell_at", "_law_whole", "_law_mixed", "_law_sign", "_law_rows", "_law_figures", "_law_due", "_law_told", "law"]
def glN : List Str := []
def exN : List Str := []
def frN : List Str := ["bool", "divmod", "enumerate", "int", "isinstance", "len", "list", "range", "sum", "tuple"]
abbrev st_powers : Stmt := top 1
def N_powers : List Str := ["base", "many", "found", "power", "k"]
def p_powers : List Str := ["base", "many"]
theorem bi_powers {K : W.Frag} {f : Addr} {fd : FuncData} (F : Fun K "powers" "powers" st_powers f fd) : ∀ us : List Value, us.length = p_powers.length → bindArgs fd ⟨us, []⟩ = pure (p_powers.zip us) := by
  obtain ⟨oc, od, kV, doc, pm, an, cdv, ct, osl, rfl, lk, hcd⟩ := F.ex
  exact fun us hl => match us, hl with | [_, _], _ => rfl
def e_powers : DE := ⟨st_powers, N_powers, p_powers, fd_powers⟩
theorem ok_powers : DefOk fnN glN exN frN "powers" e_powers := ⟨by decide +kernel, ⟨rfl, rfl, rfl, by decide +kernel, rfl, by decide +kernel, by decide +kernel⟩, bi_powers, rfl, rfl⟩
abbrev st_turn_figures : Stmt := top 3
def N_turn_figures : List Str := ["question", "many", "columns", "numbers", "name", "sign", "rows", "row", "signs"]
def p_turn_figures : List Str := ["question"]
theorem bi_turn_figures {K : W.Frag} {f : Addr} {fd : FuncData} (F : Fun K "turn_figures" "turn_figures" st_turn_figures f fd) : ∀ us : List Value, us.length = p_turn_figures.length → bindArgs fd ⟨us, []⟩ = pure (p_turn_figures.zip us) := by
  obtain ⟨oc, od, kV, doc, pm, an, cdv, ct, osl, rfl, lk, hcd⟩ := F.ex
  exact fun us hl => match us, hl with | [_], _ => rfl
def e_turn_figures : DE := ⟨st_turn_figures, N_turn_figures, p_turn_figures, fd_turn_figures⟩
theorem ok_turn_figures : DefOk fnN glN exN frN "turn_figures" e_turn_figures := ⟨by decide +kernel, ⟨rfl, rfl, rfl, by decide +kernel, rfl, by decide +kernel, by decide +kernel⟩, bi_turn_figures, rfl, rfl⟩
abbrev st_l_cell_at_1 : Stmt := top 5
def N_l_cell_at_1 : List Str := ["_law_script", "_law_k"]
def p_l_cell_at_1 : List Str := ["_law_script", "_law_k"]
theorem bi_l_cell_at_1 {K : W.Frag} {f : Addr} {fd : FuncData} (F : Fun K "_law_cell_at" "_law_cell_at" st_l_cell_at_1 f fd) : ∀ us : List Value, us.length = p_l_cell_at_1.length → bindArgs fd ⟨us, []⟩ = pure (p_l_cell_at_1.zip us) := by
  obtain ⟨oc, od, kV, doc, pm, an, cdv, ct, osl, rfl, lk, hcd⟩ := F.ex
  exact fun us hl => match us, hl with | [_, _], _ => rfl
def e_l_cell_at_1 : DE := ⟨st_l_cell_at_1, N_l_cell_at_1, p_l_cell_at_1, fd_l_cell_at_1⟩
theorem ok_l_cell_at_1 : DefOk fnN glN exN frN "_law_cell_at" e_l_cell_at_1 := ⟨by decide +kernel, ⟨rfl, rfl, rfl, by decide +kernel, rfl, by decide +kernel, by decide +kernel⟩, bi_l_cell_at_1, rfl, rfl⟩
abbrev st_l_whole : Stmt := top 6
def N_l_whole : List Str := ["_law_found"]
def p_l_whole : List Str := ["_law_found"]
theorem bi_l_whole {K : W.Frag} {f : Addr} {fd : FuncData} (F : Fun K "_law_whole" "_law_whole" st_l_whole f fd) : ∀ us : List Value, us.length = p_l_whole.length → bindArgs fd ⟨us, []⟩ = pure (p_l_whole.zip us) := by
  obtain ⟨oc, od, kV, doc, pm, an, cdv, ct, osl, rfl, lk, hcd⟩ := F.ex
  exact fun us hl => match us, hl with | [_], _ => rfl
def e_l_whole : DE := ⟨st_l_whole, N_l_whole, p_l_whole, fd_l_whole⟩
theorem ok_l_whole : DefOk fnN glN exN frN "_law_whole" e_l_whole := ⟨by decide +kernel, ⟨rfl, rfl, rfl, by decide +kernel, rfl, by decide +kernel, by decide +kernel⟩, bi_l_whole, rfl, rfl⟩
abbrev st_l_mixed_1 : Stmt := top 7
def N_l_mixed_1 : List Str := ["_law_cell"]
def p_l_mixed_1 : List Str := ["_law_cell"]
theorem bi_l_mixed_1 {K : W.Frag} {f : Addr} {fd : FuncData} (F : Fun K "_law_mixed" "_law_mixed" st_l_mixed_1 f fd) : ∀ us : List Value, us.length = p_l_mixed_1.length → bindArgs fd ⟨us, []⟩ = pure (p_l_mixed_1.zip us) := by
  obtain ⟨oc, od, kV, doc, pm, an, cdv, ct, osl, rfl, lk, hcd⟩ := F.ex
  exact fun us hl => match us, hl with | [_], _ => rfl
def e_l_mixed_1 : DE := ⟨st_l_mixed_1, N_l_mixed_1, p_l_mixed_1, fd_l_mixed_1⟩
theorem ok_l_mixed_1 : DefOk fnN glN exN frN "_law_mixed" e_l_mixed_1 := ⟨by decide +kernel, ⟨rfl, rfl, rfl, by decide +kernel, rfl, by decide +kernel, by decide +kernel⟩, bi_l_mixed_1, rfl, rfl⟩
abbrev st_l_sign_1 : Stmt := top 8
def N_l_sign_1 : List Str := ["_law_digit"]
def p_l_sign_1 : List Str := ["_law_digit"]
theorem bi_l_sign_1 {K : W.Frag} {f : Addr} {fd : FuncData} (F : Fun K "_law_sign" "_law_sign" st_l_sign_1 f fd) : ∀ us : List Value, us.length = p_l_sign_1.length → bindArgs fd ⟨us, []⟩ = pure (p_l_sign_1.zip us) := by
  obtain ⟨oc, od, kV, doc, pm, an, cdv, ct, osl, rfl, lk, hcd⟩ := F.ex
  exact fun us hl => match us, hl with | [_], _ => rfl
def e_l_sign_1 : DE := ⟨st_l_sign_1, N_l_sign_1, p_l_sign_1, fd_l_sign_1⟩
theorem ok_l_sign_1 : DefOk fnN glN exN frN "_law_sign" e_l_sign_1 := ⟨by decide +kernel, ⟨rfl, rfl, rfl, by decide +kernel, rfl, by decide +kernel, by decide +kernel⟩, bi_l_sign_1, rfl, rfl⟩
abbrev st_l_rows_3 : Stmt := top 9
def N_l_rows_3 : List Str := ["_law_cells", "_law_many", "_law_base", "_law_rows_here", "_law_cell", "_law_number", "_law_digits", "_law_digit"]
def p_l_rows_3 : List Str := ["_law_cells", "_law_many"]
theorem bi_l_rows_3 {K : W.Frag} {f : Addr} {fd : FuncData} (F : Fun K "_law_rows" "_law_rows" st_l_rows_3 f fd) : ∀ us : List Value, us.length = p_l_rows_3.length → bindArgs fd ⟨us, []⟩ = pure (p_l_rows_3.zip us) := by
  obtain ⟨oc, od, kV, doc, pm, an, cdv, ct, osl, rfl, lk, hcd⟩ := F.ex
  exact fun us hl => match us, hl with | [_, _], _ => rfl
def e_l_rows_3 : DE := ⟨st_l_rows_3, N_l_rows_3, p_l_rows_3, fd_l_rows_3⟩
theorem ok_l_rows_3 : DefOk fnN glN exN frN "_law_rows" e_l_rows_3 := ⟨by decide +kernel, ⟨rfl, rfl, rfl, by decide +kernel, rfl, by decide +kernel, by decide +kernel⟩, bi_l_rows_3, rfl, rfl⟩
abbrev st_l_figures_1 : Stmt := top 10
def N_l_figures_1 : List Str := ["_law_number", "_law_due_here", "_law_figure", "_law_rest"]
def p_l_figures_1 : List Str := ["_law_number", "_law_due_here"]
theorem bi_l_figures_1 {K : W.Frag} {f : Addr} {fd : FuncData} (F : Fun K "_law_figures" "_law_figures" st_l_figures_1 f fd) : ∀ us : List Value, us.length = p_l_figures_1.length → bindArgs fd ⟨us, []⟩ = pure (p_l_figures_1.zip us) := by
  obtain ⟨oc, od, kV, doc, pm, an, cdv, ct, osl, rfl, lk, hcd⟩ := F.ex
  exact fun us hl => match us, hl with | [_, _], _ => rfl
def e_l_figures_1 : DE := ⟨st_l_figures_1, N_l_figures_1, p_l_figures_1, fd_l_figures_1⟩
theorem ok_l_figures_1 : DefOk fnN glN exN frN "_law_figures" e_l_figures_1 := ⟨by decide +kernel, ⟨rfl, rfl, rfl, by decide +kernel, rfl, by decide +kernel, by decide +kernel⟩, bi_l_figures_1, rfl, rfl⟩
abbrev st_l_due_9 : Stmt := top 11
def N_l_due_9 : List Str := ["_law_at", "_law_many", "_law_rows_here", "_law_sign_here", "_law_row", "_law_j", "_law_name"]
def p_l_due_9 : List Str := ["_law_at", "_law_many", "_law_rows_here"]
theorem bi_l_due_9 {K : W.Frag} {f : Addr} {fd : FuncData} (F : Fun K "_law_due" "_law_due" st_l_due_9 f fd) : ∀ us : List Value, us.length = p_l_due_9.length → bindArgs fd ⟨us, []⟩ = pure (p_l_due_9.zip us) := by
  obtain ⟨oc, od, kV, doc, pm, an, cdv, ct, osl, rfl, lk, hcd⟩ := F.ex
  exact fun us hl => match us, hl with | [_, _, _], _ => rfl
def e_l_due_9 : DE := ⟨st_l_due_9, N_l_due_9, p_l_due_9, fd_l_due_9⟩
theorem ok_l_due_9 : DefOk fnN glN exN frN "_law_due" e_l_due_9 := ⟨by decide +kernel, ⟨rfl, rfl, rfl, by decide +kernel, rfl, by decide +kernel, by decide +kernel⟩, bi_l_due_9, rfl, rfl⟩
abbrev st_l_told_4 : Stmt := top 12
def N_l_told_4 : List Str := ["_law_found", "_law_many", "_law_rows_here", "_law_at"]
def p_l_told_4 : List Str := ["_law_found", "_law_many", "_law_rows_here"]
theorem bi_l_told_4 {K : W.Frag} {f : Addr} {fd : FuncData} (F : Fun K "_law_told" "_law_told" st_l_told_4 f fd) : ∀ us : List Value, us.length = p_l_told_4.length → bindArgs fd ⟨us, []⟩ = pure (p_l_told_4.zip us) := by
  obtain ⟨oc, od, kV, doc, pm, an, cdv, ct, osl, rfl, lk, hcd⟩ := F.ex
  exact fun us hl => match us, hl with | [_, _, _], _ => rfl
def e_l_told_4 : DE := ⟨st_l_told_4, N_l_told_4, p_l_told_4, fd_l_told_4⟩
theorem ok_l_told_4 : DefOk fnN glN exN frN "_law_told" e_l_told_4 := ⟨by decide +kernel, ⟨rfl, rfl, rfl, by decide +kernel, rfl, by decide +kernel, by decide +kernel⟩, bi_l_told_4, rfl, rfl⟩
abbrev st_law_34 : Stmt := top 13
def N_law_34 : List Str := ["_law_script", "_law_first", "_law_many", "_law_rows_here", "_law_question", "_law_found", "_law_cell"]
def p_law_34 : List Str := ["_law_script"]
theorem bi_law_34 {K : W.Frag} {f : Addr} {fd : FuncData} (F : Fun K "law" "law" st_law_34 f fd) : ∀ us : List Value, us.length = p_law_34.length → bindArgs fd ⟨us, []⟩ = pure (p_law_34.zip us) := by
  obtain ⟨oc, od, kV, doc, pm, an, cdv, ct, osl, rfl, lk, hcd⟩ := F.ex
  exact fun us hl => match us, hl with | [_], _ => rfl
def e_law_34 : DE := ⟨st_law_34, N_law_34, p_law_34, fd_law_34⟩
theorem ok_law_34 : DefOk fnN glN exN frN "law" e_law_34 := ⟨by decide +kernel, ⟨rfl, rfl, rfl, by decide +kernel, rfl, by decide +kernel, by decide +kernel⟩, bi_law_34, rfl, rfl⟩
def tb : List DE := [e_powers, e_turn_figures, e_l_cell_at_1, e_l_whole, e_l_mixed_1, e_l_sign_1, e_l_rows_3, e_l_figures_1, e_l_due_9, e_l_told_4, e_law_34]
theorem tb_ok : DefsOk fnN glN exN frN fnN tb := ⟨ok_powers, ok_turn_figures, ok_l_cell_at_1, ok_l_whole, ok_l_mixed_1, ok_l_sign_1, ok_l_rows_3, ok_l_figures_1, ok_l_due_9, ok_l_told_4, ok_law_34, trivial⟩
theorem law_ok : ∀ ns : List Int, ns.length ≤ 63 → ∃ outs, evF Pg 210 10 [] [⟨.no, true, .lst (ns.map D.int)⟩] = .ok ⟨.no, false, .bl true⟩ outs := fun ns hn =>
  law_pv ab_ok (k := 210) (f := i_law_34) (outs := []) (by decide) (show pvF Pg Ag 210 i_law_34 [] [.nd .lst (ns.map D.int)] = .ok (.bl true) [] from cs_law (s_law_34 (by decide) ns) r_law)
end Px
open PySem PySem.W PyProof.Rows
set_option maxRecDepth 100000 in
set_option maxHeartbeats 0 in
theorem PySem.Challenge.cw_chainturn_k46_figures_numbers_holds : PySem.Challenge.rw_chainturn_k46_figures_numbers.Holds := by
  w_on; o_law; k_head; (case hw => w_witness2)
  k_fill
  refine' Px.walk_px (l := PySem.Challenge.rw_chainturn_k46_figures_numbers) (k := 210) (x := "_law_script") rfl rfl ⟨rfl, by decide, by decide⟩ (fun w h Y => PySem.W.kIn_of Y) ?F
  case F =>
    intro w mg fa h KX G hmg
    refine' Px.law_end ?hn KX G hmg (tb := Px.tb) (f := 10) (e := Px.e_law_34) (cs := []) rfl Px.tb_ok rfl rfl rfl Px.law_ok ?hd ?hf ?hg ?he ?hm
    (case hn => rfl)
    (case hd =>
      refine' ⟨?d0, ?d1, ?d2, ?d3, ?d4, ?d5, ?d6, ?d7, ?d8, ?d9, ?d10, trivial⟩
      (case d0 => refine' Px.dh_mk ?a0 ?l0 ?c0 ?k0; (case a0 => k_is); (case l0 => k_is); (case c0 => k_is); (case k0 => k_is))
      (case d1 => refine' Px.dh_mk ?a1 ?l1 ?c1 ?k1; (case a1 => k_is); (case l1 => k_is); (case c1 => k_is); (case k1 => k_is))
      (case d2 => refine' Px.dh_mk ?a2 ?l2 ?c2 ?k2; (case a2 => k_is); (case l2 => k_is); (case c2 => k_is); (case k2 => k_is))
      (case d3 => refine' Px.dh_mk ?a3 ?l3 ?c3 ?k3; (case a3 => k_is); (case l3 => k_is); (case c3 => k_is); (case k3 => k_is))
      (case d4 => refine' Px.dh_mk ?a4 ?l4 ?c4 ?k4; (case a4 => k_is); (case l4 => k_is); (case c4 => k_is); (case k4 => k_is))
      (case d5 => refine' Px.dh_mk ?a5 ?l5 ?c5 ?k5; (case a5 => k_is); (case l5 => k_is); (case c5 => k_is); (case k5 => k_is))
      (case d6 => refine' Px.dh_mk ?a6 ?l6 ?c6 ?k6; (case a6 => k_is); (case l6 => k_is); (case c6 => k_is); (case k6 => k_is))
      (case d7 => refine' Px.dh_mk ?a7 ?l7 ?c7 ?k7; (case a7 => k_is); (case l7 => k_is); (case c7 => k_is); (case k7 => k_is))
      (case d8 => refine' Px.dh_mk ?a8 ?l8 ?c8 ?k8; (case a8 => k_is); (case l8 => k_is); (case c8 => k_is); (case k8 => k_is))
      (case d9 => refine' Px.dh_mk ?a9 ?l9 ?c9 ?k9; (case a9 => k_is); (case l9 => k_is); (case c9 => k_is); (case k9 => k_is))
      (case d10 => refine' Px.dh_mk ?a10 ?l10 ?c10 ?k10; (case a10 => k_is); (case l10 => k_is); (case c10 => k_is); (case k10 => k_is))
    )
    (case hf =>
      refine' ⟨?z0, ?z1, ?z2, ?z3, ?z4, ?z5, ?z6, ?z7, ?z8, ?z9, trivial⟩
      (case z0 => k_is)
      (case z1 => k_is)
      (case z2 => k_is)
      (case z3 => k_is)
      (case z4 => k_is)
      (case z5 => k_is)
      (case z6 => k_is)
      (case z7 => k_is)
      (case z8 => k_is)
      (case z9 => k_is)
    )
    (case hg => exact Px.glob_nil)
    (case he => trivial)
    (case hm => exact Px.em_nil)
