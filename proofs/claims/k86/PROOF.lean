import PyProof.Rows.All
import PySem.Challenge.RW_mildwarden_k86_texts_written
import Wide.All
import OpenK.AllK
import Wide.FinOn
import HandS.ForMost
import HandS.ForExc
import HandS.Defaults
import HandS.CallSlots
import HandS.CallLocal
import HandS.Nested
import HandS.Wide
import HandS.TupAny
import HandS.TupMul
import HandS.Deep
import HandS.IsInst
import HandS.FStr
import HandS.Text
import HandS.Walk
import HandS.Zip
import HandS.NoneIn
import KE.GoesEnum
import KE.KUnpackStar
import HandS.Ends
import HandS.Exc
import HandS.EndTab
import HandS.HeadWalk
import HandS.Head0
import HandS.Head1
import HandS.Head2
import HandS.HeadEnd
import HandS.HeadHook1
import HandS.HeadHook2
set_option Elab.async false
set_option linter.all false
set_option maxRecDepth 100000
set_option maxHeartbeats 0
namespace MP
open PySem PySem.Spec L2
/-- a value, told as a tree -/
inductive D where
  | non | bl (b : Bool) | int (i : Int) | str (s : Str) | tup (l : List D) | lst (l : List D) | dct (ks vs : List D)
  | fz (l : List D) | ref (n : Nat) | fn (x : Str) | clo (k : Nat) (caps : List D) | exn (c : Str)

structure Gp where
  P : Program
  w : World
  K : PySem.W.Frag
  mg : Str → Option Value
  base : Heap

def Sub (G H : Hp) : Prop := ∀ a o, G a = some o → H a = some o

mutual
def rep (g : Gp) (μ : List Addr) (G : Hp) : D → V → Prop
  | .non, v => v = .non
  | .bl b, v => v = .bl b
  | .int i, v => v = .int i
  | .str s, v => v = .str s
  | .tup l, v => ∃ a vs, v = .ref a ∧ SqT g.K G a vs ∧ reps g μ G l vs
  | .lst l, v => ∃ a vs, v = .ref a ∧ G a = some (.lst vs) ∧ reps g μ G l vs
  | .fz l, v => ∃ a vs, v = .ref a ∧ SqL g.K G a vs ∧ reps g μ G l vs
  | .ref n, v => ∃ a, v = .ref a ∧ μ[n]? = some a
  | .fn x, v => ∃ a, v = .ref a ∧ g.mg x = some (.ref a) ∧ PySem.W.keepIn g.K (.ref a) = true
  | .dct _ _, _ => False
  | .clo _ _, _ => False
  | .exn _, _ => False
def reps (g : Gp) (μ : List Addr) (G : Hp) : List D → List V → Prop
  | [], vs => vs = []
  | d :: ds, vs => ∃ v r, vs = v :: r ∧ rep g μ G d v ∧ reps g μ G ds r
end
theorem rep_tup {g : Gp} {μ G l v} : rep g μ G (.tup l) v ↔ ∃ a vs, v = .ref a ∧ SqT g.K G a vs ∧ reps g μ G l vs := Iff.rfl
mutual
theorem rep_mono {g : Gp} {μ μ' : List Addr} {G G' : Hp} (hG : Sub G G') (hμ : ∀ (n : Nat) (a : Addr), μ[n]? = some a → μ'[n]? = some a) : ∀ (d : D) (v : V), rep g μ G d v → rep g μ' G' d v
  | .non, v, h => h
  | .bl b, v, h => h
  | .int i, v, h => h
  | .str s, v, h => h
  | .tup l, v, ⟨a, vs, e, q, r⟩ => ⟨a, vs, e, by
      rcases q with q | q
      · exact .inl (q.elim (fun z => .inl (hG _ _ z)) fun ⟨o, z⟩ => .inr ⟨o, hG _ _ z⟩)
      · exact .inr q, reps_mono hG hμ l vs r⟩
  | .lst l, v, ⟨a, vs, e, q, r⟩ => ⟨a, vs, e, hG _ _ q, reps_mono hG hμ l vs r⟩
  | .fz l, v, ⟨a, vs, e, q, r⟩ => ⟨a, vs, e, by
      rcases q with q | q
      · exact .inl (q.elim (fun z => .inl (hG _ _ z)) fun ⟨o, z⟩ => .inr ⟨o, hG _ _ z⟩)
      · exact .inr q, reps_mono hG hμ l vs r⟩
  | .ref n, v, ⟨a, e, q⟩ => ⟨a, e, hμ _ _ q⟩
  | .fn x, v, h => h
  | .dct _ _, _, h => h
  | .clo _ _, _, h => h
  | .exn _, _, h => h
theorem reps_mono {g : Gp} {μ μ' : List Addr} {G G' : Hp} (hG : Sub G G') (hμ : ∀ (n : Nat) (a : Addr), μ[n]? = some a → μ'[n]? = some a) : ∀ (ds : List D) (vs : List V), reps g μ G ds vs → reps g μ' G' ds vs
  | [], vs, h => h
  | d :: ds, vs, ⟨v, r, e, h1, h2⟩ => ⟨v, r, e, rep_mono hG hμ d v h1, reps_mono hG hμ ds r h2⟩
end
end MP

namespace MP
open PySem PySem.Spec L2
/-- a thing that changes -/
inductive MO where
  | lst (l : List D) | dct (ks vs : List D) | ins (C : Str) (fs : List (Str × D))
inductive Slot where
  | none | val (d : D) | own (o : MO) | lck (o : MO)
abbrev Fr := List Slot
abbrev Store := List MO
structure Bs where
  H0 : Hp
  G0 : Hp
  μ0 : List Addr
  pin : Addr → Option (List V) := fun _ => Option.none
def mrep (g : Gp) (μ : List Addr) (G H : Hp) (a : Addr) : MO → Prop
  | .lst l => ∃ vs, H a = some (.lst vs) ∧ reps g μ G l vs
  | .dct _ _ => False
  | .ins _ _ => False
theorem mrep_some {g : Gp} {μ G H a o} (h : mrep g μ G H a o) : ∃ u, H a = some u ∧ ∀ ps, u ≠ .tbl ps := by
  cases o with
  | lst l => obtain ⟨vs, e, _⟩ := h; exact ⟨_, e, fun ps z => nomatch z⟩
  | dct _ _ => exact h.elim
  | ins _ _ => exact h.elim
theorem mrep_mono {g : Gp} {μ μ' : List Addr} {G G' H H' : Hp} {a : Addr} {o : MO} (hG : Sub G G') (hμ : ∀ (n : Nat) (b : Addr), μ[n]? = some b → μ'[n]? = some b) (hH : H' a = H a) (h : mrep g μ G H a o) : mrep g μ' G' H' a o := by
  cases o with
  | lst l => obtain ⟨vs, e, r⟩ := h; exact ⟨vs, hH.trans e, reps_mono hG hμ _ _ r⟩
  | dct _ _ => exact h.elim
  | ins _ _ => exact h.elim
def slotOk (g : Gp) (B : Bs) (G : Hp) (μ : List Addr) (σ : St) (H : Hp) (i : Nat) : Slot → Prop
  | .none => True
  | .val d => ∃ v, σ[i]? = some (some v) ∧ rep g μ G d v
  | .own o => ∃ a, σ[i]? = some (some (.ref a)) ∧ mrep g μ G H a o ∧ a ∉ μ ∧ G a = none ∧ B.H0 a = none
  | .lck o => ∃ a, σ[i]? = some (some (.ref a)) ∧ mrep g μ G B.H0 a o ∧ a ∉ B.μ0
structure Sim (g : Gp) (T : List NdefX.NTab) (B : Bs) (G : Hp) (μ : List Addr) (ρ : Fr) (S : Store) (σ : St) (H : Hp) : Prop where
  gh : Sub G H
  base : ∀ a o, B.H0 a = some o → a ∉ B.μ0 → (∀ ps, o ≠ .tbl ps) → H a = some o
  gone : ∀ a, H a = none → B.H0 a = none
  g0 : Sub B.G0 G
  gnew : ∀ a o, G a = some o → B.G0 a = some o ∨ B.H0 a = none
  mu0 : ∃ more, μ = B.μ0 ++ more ∧ ∀ a ∈ more, B.H0 a = none
  munod : μ.Nodup
  muG : ∀ a ∈ μ, G a = none
  slen : S.length = μ.length
  store : ∀ (n : Nat) o a, S[n]? = some o → μ[n]? = some a → mrep g μ G H a o
  len : ρ.length = σ.length
  slots : ∀ (i : Nat) sl, ρ[i]? = some sl → slotOk g B G μ σ H i sl
  dis : ∀ (i j : Nat) m m', ρ[i]? = some (.own m) → ρ[j]? = some (.own m') → i ≠ j → σ[i]? ≠ σ[j]?
  tabs : NdefX.TabsN T H
  notbl : ∀ a ps, G a ≠ some (.tbl ps)
  pins : ∀ a vs, B.pin a = some vs → H a = some (.lst vs) ∧ a ∉ μ ∧ G a = none ∧ B.H0 a = none ∧ ∀ (i : Nat) m, ρ[i]? = some (.own m) → σ[i]? ≠ some (some (.ref a))
theorem Sub.refl (G : Hp) : Sub G G := fun _ _ h => h
theorem Sub.trans {G G1 G2 : Hp} (a : Sub G G1) (b : Sub G1 G2) : Sub G G2 := fun x o h => b x o (a x o h)
theorem Sub.add {G : Hp} {p : Addr} {o : HO} (h : G p = none) : Sub G (upd G p o) := fun a u e => by
  rw [upd_ne (ne_of_none e h)]; exact e
theorem Sub.both {G H : Hp} {p : Addr} {o : HO} (s : Sub G H) : Sub (upd G p o) (upd H p o) := fun a u e => by
  by_cases h : a = p
  · subst h; rw [upd_same] at e ⊢; exact e
  · rw [upd_ne h] at e ⊢; exact s _ _ e
theorem Sub.none {G H : Hp} {p : Addr} (s : Sub G H) (h : H p = none) : G p = none := by
  cases e : G p with
  | none => rfl
  | some o => rw [s _ _ e] at h; cases h
section
variable {g : Gp} {T : List NdefX.NTab} {B : Bs} {G : Hp} {μ : List Addr} {ρ : Fr} {S : Store} {σ : St} {H : Hp}
theorem Sim.muH (I : Sim g T B G μ ρ S σ H) {a : Addr} (h : a ∈ μ) : ∃ u, H a = some u ∧ ∀ ps, u ≠ .tbl ps := by
  obtain ⟨n, hn⟩ := List.mem_iff_getElem?.mp h
  have hl : n < S.length := by rw [I.slen]; exact (List.getElem?_eq_some_iff.mp hn).1
  exact mrep_some (I.store n S[n] a (List.getElem?_eq_getElem hl) hn)
theorem Sim.nmu (I : Sim g T B G μ ρ S σ H) {p : Addr} (hp : H p = none) : p ∉ μ := fun h => by
  obtain ⟨u, e, _⟩ := I.muH h
  rw [hp] at e; cases e
theorem Sim.mu0sub (I : Sim g T B G μ ρ S σ H) {a : Addr} (h : a ∈ B.μ0) : a ∈ μ := by
  obtain ⟨more, e, _⟩ := I.mu0
  rw [e]; exact List.mem_append_left _ h
theorem Sim.own_ne (I : Sim g T B G μ ρ S σ H) {p : Addr} {i : Nat} {m : MO} (hp : H p = none) (h : ρ[i]? = some (.own m)) : σ[i]? ≠ some (some (.ref p)) := fun e => by
  obtain ⟨a, e1, e2, _⟩ := I.slots i _ h
  rw [e] at e1
  cases e1
  obtain ⟨u, q, _⟩ := mrep_some e2
  rw [hp] at q; cases q
/-- H changes off G, the store and the frame's own -/
theorem Sim.heap {H' : Hp} (I : Sim g T B G μ ρ S σ H) (k : ∀ a o, H a = some o → H' a = some o) : Sim g T B G μ ρ S σ H' := by
  refine ⟨I.gh.trans k, fun a o e1 e2 e3 => k _ _ (I.base a o e1 e2 e3), fun a e => I.gone a ?_, I.g0, I.gnew, I.mu0, I.munod, I.muG, I.slen, fun n o a e1 e2 => ?_, I.len, fun i sl e => ?_, I.dis, I.tabs.ext k, I.notbl, fun a vs e => let z := I.pins a vs e; ⟨k _ _ z.1, z.2⟩⟩
  · cases q : H a with
    | none => rfl
    | some u => rw [k _ _ q] at e; cases e
  · have z := I.store n o a e1 e2
    obtain ⟨u, q, _⟩ := mrep_some z
    exact mrep_mono (Sub.refl _) (fun _ _ h => h) ((k _ _ q).trans q.symm) z
  · have z := I.slots i sl e
    cases sl with
    | none => trivial
    | val d => exact z
    | own o =>
      obtain ⟨a, e1, e2, e3, e4, e5⟩ := z
      obtain ⟨u, q, _⟩ := mrep_some e2
      exact ⟨a, e1, mrep_mono (Sub.refl _) (fun _ _ h => h) ((k _ _ q).trans q.symm) e2, e3, e4, e5⟩
    | lck o => exact z
theorem Sim.fresh {p : Addr} {o : HO} (I : Sim g T B G μ ρ S σ H) (hp : H p = none) : Sim g T B G μ ρ S σ (upd H p o) := I.heap (Sub.add hp)
/-- a thing is frozen -/
theorem Sim.freeze {p : Addr} {o : HO} (I : Sim g T B G μ ρ S σ H) (h1 : H p = some o) (h2 : p ∉ μ) (h3 : G p = none) (h4 : B.H0 p = none)
    (h5 : ∀ (i : Nat) m, ρ[i]? = some (.own m) → σ[i]? ≠ some (some (.ref p))) (h6 : ∀ ps, o ≠ .tbl ps) (h7 : B.pin p = none) : Sim g T B (upd G p o) μ ρ S σ H := by
  have sg : Sub G (upd G p o) := Sub.add h3
  refine ⟨fun a u e => ?_, I.base, I.gone, I.g0.trans sg, fun a u e => ?_, I.mu0, I.munod, fun a ha => ?_, I.slen, fun n m a e1 e2 => mrep_mono sg (fun _ _ h => h) rfl (I.store n m a e1 e2), I.len, fun i sl e => ?_, I.dis, I.tabs, fun a ps e => ?_, fun a vs e => ?_⟩
  · by_cases ha : a = p
    · subst ha; rw [upd_same] at e; cases e; exact h1
    · rw [upd_ne ha] at e; exact I.gh _ _ e
  · by_cases ha : a = p
    · subst ha; exact .inr h4
    · rw [upd_ne ha] at e; exact I.gnew _ _ e
  · have ne : a ≠ p := fun z => h2 (z ▸ ha)
    rw [upd_ne ne]; exact I.muG a ha
  · have z := I.slots i sl e
    cases sl with
    | none => trivial
    | val d => obtain ⟨v, e1, r⟩ := z; exact ⟨v, e1, rep_mono sg (fun _ _ h => h) _ _ r⟩
    | own m =>
      obtain ⟨a, e1, e2, e3, e4, e5⟩ := z
      have ne : a ≠ p := fun q => h5 i m e (by rw [e1, q])
      exact ⟨a, e1, mrep_mono sg (fun _ _ h => h) rfl e2, e3, by rw [upd_ne ne]; exact e4, e5⟩
    | lck m => obtain ⟨a, e1, e2, e3⟩ := z; exact ⟨a, e1, mrep_mono sg (fun _ _ h => h) rfl e2, e3⟩
  · by_cases ha : a = p
    · subst ha; rw [upd_same] at e; cases e; exact h6 ps rfl
    · rw [upd_ne ha] at e; exact I.notbl _ _ e
  · obtain ⟨z1, z2, z3, z4, z5⟩ := I.pins a vs e
    exact ⟨z1, z2, by rw [upd_ne (fun q => by rw [q, h7] at e; cases e)]; exact z3, z4, z5⟩
theorem Sim.npin (I : Sim g T B G μ ρ S σ H) {p : Addr} (hp : H p = none) : B.pin p = none := by
  cases e : B.pin p with
  | none => rfl
  | some vs => rw [(I.pins p vs e).1] at hp; cases hp
/-- a new thing, frozen at once -/
theorem Sim.newG {p : Addr} {o : HO} (I : Sim g T B G μ ρ S σ H) (hp : H p = none) (h6 : ∀ ps, o ≠ .tbl ps) : Sim g T B (upd G p o) μ ρ S σ (upd H p o) :=
  (I.fresh hp).freeze upd_same (I.nmu hp) (I.gh.none hp) (I.gone p hp) (fun i m h => I.own_ne hp h) h6 (I.npin hp)
theorem Sim.setval {i : Nat} {d : D} {v : V} (I : Sim g T B G μ ρ S σ H) (r : rep g μ G d v) : Sim g T B G μ (ρ.set i (.val d)) S (σ.set i (some v)) H := by
  refine ⟨I.gh, I.base, I.gone, I.g0, I.gnew, I.mu0, I.munod, I.muG, I.slen, I.store, by simpa using I.len, fun j sl e => ?_, fun j k m m' e1 e2 ne => ?_, I.tabs, I.notbl, fun a vs e => ?_⟩
  · by_cases hj : j = i
    · subst hj
      rw [List.getElem?_set] at e
      simp only [if_true] at e
      split at e
      · rename_i hl
        cases e
        exact ⟨v, by rw [List.getElem?_set_self (by rw [← I.len]; exact hl)], r⟩
      · cases e
    · rw [List.getElem?_set_ne (Ne.symm hj)] at e
      have z := I.slots j sl e
      have es : (σ.set i (some v))[j]? = σ[j]? := List.getElem?_set_ne (Ne.symm hj)
      cases sl with
      | none => trivial
      | val d => obtain ⟨w, e1, r⟩ := z; exact ⟨w, es.trans e1, r⟩
      | own m => obtain ⟨a, e1, z⟩ := z; exact ⟨a, es.trans e1, z⟩
      | lck m => obtain ⟨a, e1, z⟩ := z; exact ⟨a, es.trans e1, z⟩
  · have hj : j ≠ i := fun q => by
      subst q; rw [List.getElem?_set] at e1; simp only [if_true] at e1; split at e1 <;> cases e1
    have hk : k ≠ i := fun q => by
      subst q; rw [List.getElem?_set] at e2; simp only [if_true] at e2; split at e2 <;> cases e2
    rw [List.getElem?_set_ne (Ne.symm hj)] at e1 ⊢
    rw [List.getElem?_set_ne (Ne.symm hk)] at e2 ⊢
    exact I.dis j k m m' e1 e2 ne
  · obtain ⟨z1, z2, z3, z4, z5⟩ := I.pins a vs e
    refine ⟨z1, z2, z3, z4, fun j m q => ?_⟩
    have hj : j ≠ i := fun q2 => by
      subst q2; rw [List.getElem?_set] at q; simp only [if_true] at q; split at q <;> cases q
    rw [List.getElem?_set_ne (Ne.symm hj)] at q ⊢
    exact z5 j m q
/-- a new list of the frame's own -/
theorem Sim.setown {i : Nat} {m : MO} {p : Addr} (I : Sim g T B G μ ρ S σ H) (r : mrep g μ G H p m) (h2 : p ∉ μ) (h3 : G p = none) (h4 : B.H0 p = none)
    (h5 : ∀ (i : Nat) m, ρ[i]? = some (.own m) → σ[i]? ≠ some (some (.ref p))) (h7 : B.pin p = none) : Sim g T B G μ (ρ.set i (.own m)) S (σ.set i (some (.ref p))) H := by
  refine ⟨I.gh, I.base, I.gone, I.g0, I.gnew, I.mu0, I.munod, I.muG, I.slen, I.store, by simpa using I.len, fun j sl e => ?_, fun j k m1 m2 e1 e2 ne => ?_, I.tabs, I.notbl, fun a vs e => ?_⟩
  · by_cases hj : j = i
    · subst hj
      rw [List.getElem?_set] at e
      simp only [if_true] at e
      split at e
      · rename_i hl
        cases e
        exact ⟨p, by rw [List.getElem?_set_self (by rw [← I.len]; exact hl)], r, h2, h3, h4⟩
      · cases e
    · rw [List.getElem?_set_ne (Ne.symm hj)] at e
      have z := I.slots j sl e
      have es : (σ.set i (some (.ref p)))[j]? = σ[j]? := List.getElem?_set_ne (Ne.symm hj)
      cases sl with
      | none => trivial
      | val d => obtain ⟨w, e1, r⟩ := z; exact ⟨w, es.trans e1, r⟩
      | own m => obtain ⟨a, e1, z⟩ := z; exact ⟨a, es.trans e1, z⟩
      | lck m => obtain ⟨a, e1, z⟩ := z; exact ⟨a, es.trans e1, z⟩
  · by_cases hj : j = i
    · have hk : k ≠ i := fun q => ne (hj.trans q.symm)
      subst hj
      rw [List.getElem?_set_ne (Ne.symm hk)] at e2 ⊢
      have hl : j < σ.length := by
        rw [List.getElem?_set] at e1
        simp only [if_true] at e1
        split at e1
        · rename_i hl; rw [← I.len]; exact hl
        · cases e1
      rw [List.getElem?_set_self hl]
      exact fun q => h5 k m2 e2 q.symm
    · rw [List.getElem?_set_ne (Ne.symm hj)] at e1 ⊢
      by_cases hk : k = i
      · subst hk
        have hl : k < σ.length := by
          rw [List.getElem?_set] at e2
          simp only [if_true] at e2
          split at e2
          · rename_i hl; rw [← I.len]; exact hl
          · cases e2
        rw [List.getElem?_set_self hl]
        exact h5 j m1 e1
      · rw [List.getElem?_set_ne (Ne.symm hk)] at e2 ⊢
        exact I.dis j k m1 m2 e1 e2 ne
  · obtain ⟨z1, z2, z3, z4, z5⟩ := I.pins a vs e
    refine ⟨z1, z2, z3, z4, fun j m q => ?_⟩
    by_cases hj : j = i
    · subst hj
      have hl : j < σ.length := by
        rw [List.getElem?_set] at q
        simp only [if_true] at q
        split at q
        · rename_i hl; rw [← I.len]; exact hl
        · cases q
      rw [List.getElem?_set_self hl]
      intro q2
      cases q2
      rw [h7] at e; cases e
    · rw [List.getElem?_set_ne (Ne.symm hj)] at q ⊢
      exact z5 j m q
/-- a thing of the frame's own is written -/
theorem Sim.ownwrite {i : Nat} {m m' : MO} {a : Addr} {o : HO} (I : Sim g T B G μ ρ S σ H) (hi : ρ[i]? = some (.own m)) (ha : σ[i]? = some (some (.ref a))) (r : mrep g μ G (upd H a o) a m') : Sim g T B G μ (ρ.set i (.own m')) S σ (upd H a o) := by
  obtain ⟨a', e1, e2, e3, e4, e5⟩ := I.slots i _ hi
  rw [ha] at e1; cases e1
  have off : ∀ b, b ≠ a → upd H a o b = H b := fun b h => upd_ne h
  obtain ⟨u0, q0, nt0⟩ := mrep_some e2
  obtain ⟨u1, q1, nt1⟩ := mrep_some r
  rw [upd_same] at q1; cases q1
  refine ⟨fun b u e => ?_, fun b u z1 z2 z3 => ?_, fun b e => ?_, I.g0, I.gnew, I.mu0, I.munod, I.muG, I.slen, fun n k b z1 z2 => ?_, by simpa using I.len, fun j sl e => ?_, fun j k m1 m2 z1 z2 ne => ?_, ?_, I.notbl, fun b vs e => ?_⟩
  · rw [off b (fun q => by rw [q, e4] at e; cases e)]; exact I.gh _ _ e
  · rw [off b (fun q => by rw [q, e5] at z1; cases z1)]; exact I.base b u z1 z2 z3
  · by_cases hb : b = a
    · subst hb; exact e5
    · rw [off b hb] at e; exact I.gone b e
  · have z := I.store n k b z1 z2
    have hb : b ≠ a := fun q => e3 (q ▸ List.mem_of_getElem? z2)
    exact mrep_mono (Sub.refl _) (fun _ _ h => h) (off b hb) z
  · by_cases hj : j = i
    · subst hj
      rw [List.getElem?_set] at e
      simp only [if_true] at e
      split at e
      · cases e
        exact ⟨a, ha, r, e3, e4, e5⟩
      · cases e
    · rw [List.getElem?_set_ne (Ne.symm hj)] at e
      have z := I.slots j sl e
      cases sl with
      | none => trivial
      | val d => exact z
      | own k =>
        obtain ⟨b, z1, z2, z3⟩ := z
        have hb : b ≠ a := fun q => I.dis i j m k hi e (Ne.symm hj) (by rw [ha, z1, q])
        exact ⟨b, z1, mrep_mono (Sub.refl _) (fun _ _ h => h) (off b hb) z2, z3⟩
      | lck k => exact z
  · have f1 : ∃ n1, ρ[j]? = some (.own n1) := by
      by_cases hj : j = i
      · rw [hj]; exact ⟨_, hi⟩
      · rw [List.getElem?_set_ne (Ne.symm hj)] at z1; exact ⟨_, z1⟩
    have f2 : ∃ n1, ρ[k]? = some (.own n1) := by
      by_cases hk : k = i
      · rw [hk]; exact ⟨_, hi⟩
      · rw [List.getElem?_set_ne (Ne.symm hk)] at z2; exact ⟨_, z2⟩
    obtain ⟨n1, y1⟩ := f1
    obtain ⟨n2, y2⟩ := f2
    exact I.dis j k n1 n2 y1 y2 ne
  · refine fun p hp => ?_
    obtain ⟨ps, h1, h2, h3⟩ := I.tabs p hp
    have np : p.1 ≠ a := fun q => by rw [q, q0] at h1; cases h1; exact nt0 _ rfl
    refine ⟨ps, (off _ np).trans h1, h2, fun pos cv hc => ?_⟩
    obtain ⟨c, y1, y2⟩ := h3 pos cv hc
    refine ⟨c, y1, ?_⟩
    by_cases hc : c = a
    · exfalso
      subst hc
      rw [y2] at q0
      cases m with
      | lst l => obtain ⟨vs, q, _⟩ := e2; rw [y2] at q; cases q
      | dct _ _ => exact e2.elim
      | ins _ _ => exact e2.elim
    · rw [off c hc]; exact y2
  · obtain ⟨z1, z2, z3, z4, z5⟩ := I.pins b vs e
    refine ⟨(off b fun q => z5 i m hi (by rw [ha, q])).trans z1, z2, z3, z4, fun j k q => ?_⟩
    by_cases hj : j = i
    · subst hj; exact z5 j m hi
    · rw [List.getElem?_set_ne (Ne.symm hj)] at q; exact z5 j k q
/-- a thing of the store is written -/
theorem Sim.stwrite {n : Nat} {m m' : MO} {a : Addr} {o : HO} (I : Sim g T B G μ ρ S σ H) (hn : S[n]? = some m) (ha : μ[n]? = some a) (r : mrep g μ G (upd H a o) a m') : Sim g T B G μ ρ (S.set n m') σ (upd H a o) := by
  have e2 := I.store n m a hn ha
  have hin : a ∈ μ := List.mem_of_getElem? ha
  have e4 := I.muG a hin
  have off : ∀ b, b ≠ a → upd H a o b = H b := fun b h => upd_ne h
  obtain ⟨u0, q0, nt0⟩ := mrep_some e2
  obtain ⟨more, em, hm⟩ := I.mu0
  refine ⟨fun b u e => ?_, fun b u z1 z2 z3 => ?_, fun b e => ?_, I.g0, I.gnew, ⟨more, em, hm⟩, I.munod, I.muG, by simpa using I.slen, fun k x b z1 z2 => ?_, I.len, fun j sl e => ?_, I.dis, ?_, I.notbl, fun b vs e => ?_⟩
  · rw [off b (fun q => by rw [q, e4] at e; cases e)]; exact I.gh _ _ e
  · refine (off b fun q => ?_).trans (I.base b u z1 z2 z3)
    rw [em] at hin
    rcases List.mem_append.mp hin with h | h
    · exact z2 (q ▸ h)
    · rw [q, hm a h] at z1; cases z1
  · by_cases hb : b = a
    · subst hb; rw [upd_same] at e; cases e
    · rw [off b hb] at e; exact I.gone b e
  · by_cases hk : k = n
    · subst hk
      rw [ha] at z2; cases z2
      have hl : k < S.length := (List.getElem?_eq_some_iff.mp hn).1
      rw [List.getElem?_set_self hl] at z1
      cases z1
      exact r
    · rw [List.getElem?_set_ne (Ne.symm hk)] at z1
      have hb : b ≠ a := fun q => by
        subst q
        obtain ⟨h1, y1⟩ := List.getElem?_eq_some_iff.mp ha
        obtain ⟨h2, y2⟩ := List.getElem?_eq_some_iff.mp z2
        exact hk ((List.getElem_inj I.munod).mp (y2.trans y1.symm))
      exact mrep_mono (Sub.refl _) (fun _ _ h => h) (off b hb) (I.store k x b z1 z2)
  · have z := I.slots j sl e
    cases sl with
    | none => trivial
    | val d => exact z
    | own k =>
      obtain ⟨b, z1, z2, z3, z4⟩ := z
      have hb : b ≠ a := fun q => z3 (q ▸ hin)
      exact ⟨b, z1, mrep_mono (Sub.refl _) (fun _ _ h => h) (off b hb) z2, z3, z4⟩
    | lck k => exact z
  · refine fun p hp => ?_
    obtain ⟨ps, h1, h2, h3⟩ := I.tabs p hp
    have np : p.1 ≠ a := fun q => by rw [q, q0] at h1; cases h1; exact nt0 _ rfl
    refine ⟨ps, (off _ np).trans h1, h2, fun pos cv hc => ?_⟩
    obtain ⟨c, y1, y2⟩ := h3 pos cv hc
    refine ⟨c, y1, ?_⟩
    by_cases hc : c = a
    · exfalso
      subst hc
      rw [y2] at q0
      cases m with
      | lst l => obtain ⟨vs, q, _⟩ := e2; rw [y2] at q; cases q
      | dct _ _ => exact e2.elim
      | ins _ _ => exact e2.elim
    · rw [off c hc]; exact y2
  · obtain ⟨z1, z2, z3, z4, z5⟩ := I.pins b vs e
    exact ⟨(off b fun q => z2 (q ▸ hin)).trans z1, z2, z3, z4, z5⟩
/-- a new thing of the store -/
theorem Sim.stnew {m : MO} {p : Addr} {o : HO} (I : Sim g T B G μ ρ S σ H) (hp : H p = none) (r : ∀ μ', (∀ (n : Nat) (b : Addr), μ[n]? = some b → μ'[n]? = some b) → mrep g μ' G (upd H p o) p m) : Sim g T B G (μ ++ [p]) ρ (S ++ [m]) σ (upd H p o) := by
  have hmu : ∀ (n : Nat) (b : Addr), μ[n]? = some b → (μ ++ [p])[n]? = some b := fun n b e => by
    rw [List.getElem?_append_left (List.getElem?_eq_some_iff.mp e).1]; exact e
  have J := I.fresh (o := o) hp
  have hG : G p = none := I.gh.none hp
  have off : ∀ b u, H b = some u → upd H p o b = some u := Sub.add hp
  obtain ⟨more, em, hm⟩ := I.mu0
  refine ⟨J.gh, J.base, J.gone, I.g0, I.gnew, ⟨more ++ [p], by rw [em, List.append_assoc], fun a ha => ?_⟩, ?_, fun a ha => ?_, by simp [I.slen], fun n x b e1 e2 => ?_, I.len, fun i sl e => ?_, I.dis, J.tabs, I.notbl, fun b vs e => ?_⟩
  · rcases List.mem_append.mp ha with h | h
    · exact hm a h
    · rw [List.mem_singleton.mp h]; exact I.gone p hp
  · rw [List.nodup_append]
    refine ⟨I.munod, by simp, fun a ha b hb => ?_⟩
    rw [List.mem_singleton.mp hb]
    exact fun q => I.nmu hp (q ▸ ha)
  · rcases List.mem_append.mp ha with h | h
    · exact I.muG a h
    · rw [List.mem_singleton.mp h]; exact hG
  · by_cases hn : n < S.length
    · rw [List.getElem?_append_left hn] at e1
      rw [List.getElem?_append_left (by rw [← I.slen]; exact hn)] at e2
      exact mrep_mono (Sub.refl _) hmu rfl (J.store n x b e1 e2)
    · have en : n = S.length := by
        have := (List.getElem?_eq_some_iff.mp e1).1
        rw [List.length_append, List.length_singleton] at this
        omega
      subst en
      rw [I.slen, List.getElem?_append_right (Nat.le_refl _)] at e2
      rw [List.getElem?_append_right (Nat.le_refl _)] at e1
      simp at e1 e2
      subst e1 e2
      exact r _ hmu
  · have z := J.slots i sl e
    cases sl with
    | none => trivial
    | val d => obtain ⟨v, e1, q⟩ := z; exact ⟨v, e1, rep_mono (Sub.refl _) hmu _ _ q⟩
    | own k =>
      obtain ⟨a, e1, e2, e3, e4⟩ := z
      refine ⟨a, e1, mrep_mono (Sub.refl _) hmu rfl e2, fun ha => ?_, e4⟩
      rcases List.mem_append.mp ha with h | h
      · exact e3 h
      · rw [List.mem_singleton.mp h] at e1
        exact I.own_ne hp e e1
    | lck k => obtain ⟨a, e1, e2, e3⟩ := z; exact ⟨a, e1, mrep_mono (Sub.refl _) hmu rfl e2, e3⟩
  · obtain ⟨z1, z2, z3, z4, z5⟩ := J.pins b vs e
    refine ⟨z1, fun q => ?_, z3, z4, z5⟩
    rcases List.mem_append.mp q with q | q
    · exact z2 q
    · rw [List.mem_singleton.mp q, I.npin hp] at e; cases e
/-- the list of a slot is frozen -/
theorem Sim.frzslot {i : Nat} {l : List D} (I : Sim g T B G μ ρ S σ H) (hi : ρ[i]? = some (.own (.lst l))) : ∃ a vs, σ[i]? = some (some (.ref a)) ∧ Sub G (upd G a (.lst vs)) ∧ Sim g T B (upd G a (.lst vs)) μ (ρ.set i (.val (.lst l))) S σ H ∧ rep g μ (upd G a (.lst vs)) (.lst l) (.ref a) := by
  obtain ⟨a, e1, ⟨vs, e2, r⟩, e3, e4, e5⟩ := I.slots i _ hi
  have hl : i < ρ.length := (List.getElem?_eq_some_iff.mp hi).1
  have sg : Sub G (upd G a (.lst vs)) := Sub.add e4
  have hs : σ.set i (some (.ref a)) = σ := by
    obtain ⟨h, q⟩ := List.getElem?_eq_some_iff.mp e1
    rw [← q, List.set_getElem_self]
  have J : Sim g T B G μ (ρ.set i .none) S σ H := by
    refine ⟨I.gh, I.base, I.gone, I.g0, I.gnew, I.mu0, I.munod, I.muG, I.slen, I.store, by simpa using I.len, fun j sl e => ?_, fun j k m m' z1 z2 ne => ?_, I.tabs, I.notbl, fun b vs e => ?_⟩
    · by_cases hj : j = i
      · subst hj; rw [List.getElem?_set_self hl] at e; cases e; trivial
      · rw [List.getElem?_set_ne (Ne.symm hj)] at e; exact I.slots j sl e
    · have hj : j ≠ i := fun q => by subst q; rw [List.getElem?_set_self hl] at z1; cases z1
      have hk : k ≠ i := fun q => by subst q; rw [List.getElem?_set_self hl] at z2; cases z2
      rw [List.getElem?_set_ne (Ne.symm hj)] at z1
      rw [List.getElem?_set_ne (Ne.symm hk)] at z2
      exact I.dis j k m m' z1 z2 ne
    · obtain ⟨z1, z2, z3, z4, z5⟩ := I.pins b vs e
      refine ⟨z1, z2, z3, z4, fun j m q => ?_⟩
      have hj : j ≠ i := fun q2 => by subst q2; rw [List.getElem?_set_self hl] at q; cases q
      rw [List.getElem?_set_ne (Ne.symm hj)] at q
      exact z5 j m q
  have pn : B.pin a = none := by
    cases e : B.pin a with
    | none => rfl
    | some vs => exact absurd e1 ((I.pins a vs e).2.2.2.2 i _ hi)
  have J2 := J.freeze (o := .lst vs) e2 e3 e4 e5 (fun j m z q => by
    have hj : j ≠ i := fun q => by subst q; rw [List.getElem?_set_self hl] at z; cases z
    rw [List.getElem?_set_ne (Ne.symm hj)] at z
    exact I.dis j i m _ z hi hj (q.trans e1.symm)) (fun ps z => nomatch z) pn
  have rl : rep g μ (upd G a (.lst vs)) (.lst l) (.ref a) := ⟨a, vs, rfl, upd_same, reps_mono sg (fun _ _ h => h) _ _ r⟩
  have J3 := J2.setval (i := i) rl
  rw [hs, List.set_set] at J3
  exact ⟨a, vs, e1, sg, J3, rl⟩
/-- into a callee, into a block -/
def lockS : Slot → Slot
  | .own o => .lck o
  | s => s
def lockF (ρ : Fr) : Fr := ρ.map lockS
theorem Sim.mono_base {pin : Addr → Option (List V)} {ρ' : Fr} {S' : Store} {σ' : St} {G' H' : Hp} {μ' : List Addr} (I : Sim g T B G μ ρ S σ H) (J : Sim g T ⟨H, G, μ, pin⟩ G' μ' ρ' S' σ' H') : Sim g T B G' μ' ρ S' σ H' ∧ Sub G G' ∧ (∀ (n : Nat) (b : Addr), μ[n]? = some b → μ'[n]? = some b) := by
  obtain ⟨more, em, hm⟩ := I.mu0
  obtain ⟨more', em', hm'⟩ := J.mu0
  have em' : μ' = μ ++ more' := em'
  have hmu : ∀ (n : Nat) (b : Addr), μ[n]? = some b → μ'[n]? = some b := fun n b e => by
    rw [em', List.getElem?_append_left (List.getElem?_eq_some_iff.mp e).1]; exact e
  refine ⟨⟨J.gh, fun a o e1 e2 e3 => ?_, fun a e => I.gone a (J.gone a e), I.g0.trans J.g0, fun a o e => ?_, ⟨more ++ more', by rw [em', em, List.append_assoc], fun a ha => ?_⟩, J.munod, J.muG, J.slen, J.store, I.len, fun i sl e => ?_, I.dis, J.tabs, J.notbl, fun b vs e => ?_⟩, J.g0, hmu⟩
  · have h1 := I.base a o e1 e2 e3
    refine J.base a o h1 (fun h => ?_) e3
    have h : a ∈ μ := h
    rw [em] at h
    rcases List.mem_append.mp h with h | h
    · exact e2 h
    · rw [hm a h] at e1; cases e1
  · rcases J.gnew a o e with h | h
    · exact I.gnew a o h
    · exact .inr (I.gone a h)
  · rcases List.mem_append.mp ha with h | h
    · exact hm a h
    · exact I.gone a (hm' a h)
  · have z := I.slots i sl e
    cases sl with
    | none => trivial
    | val d => obtain ⟨v, e1, q⟩ := z; exact ⟨v, e1, rep_mono J.g0 hmu _ _ q⟩
    | own k =>
      obtain ⟨a, e1, e2, e3, e4, e5⟩ := z
      obtain ⟨u, q, nt⟩ := mrep_some e2
      refine ⟨a, e1, mrep_mono J.g0 hmu ((J.base a u q e3 nt).trans q.symm) e2, fun h => ?_, ?_, e5⟩
      · rw [em'] at h
        rcases List.mem_append.mp h with h | h
        · exact e3 h
        · have z : H a = none := hm' a h
          rw [q] at z; cases z
      · cases y : G' a with
        | none => rfl
        | some u' =>
          rcases J.gnew a u' y with h | h
          · have h : G a = some u' := h
            rw [e4] at h; cases h
          · have h : H a = none := h
            rw [q] at h; cases h
    | lck k =>
      obtain ⟨a, e1, e2, e3⟩ := z
      exact ⟨a, e1, mrep_mono J.g0 hmu rfl e2, e3⟩
  · obtain ⟨z1, z2, z3, z4, z5⟩ := I.pins b vs e
    refine ⟨J.base b _ z1 z2 (fun ps z => nomatch z), fun q => ?_, ?_, z4, z5⟩
    · rw [em'] at q
      rcases List.mem_append.mp q with q | q
      · exact z2 q
      · have z : H b = none := hm' b q
        rw [z1] at z; cases z
    · cases y : G' b with
      | none => rfl
      | some u' =>
        rcases J.gnew b u' y with h | h
        · have h : G b = some u' := h
          rw [z3] at h; cases h
        · have h : H b = none := h
          rw [z1] at h; cases h
/-- the frame of a callee -/
theorem Sim.enter {ρ' : Fr} {σ' : St} (I : Sim g T B G μ ρ S σ H) (hl : ρ'.length = σ'.length) (h : ∀ (i : Nat) sl, ρ'[i]? = some sl → sl = .none ∨ ∃ d v, sl = .val d ∧ σ'[i]? = some (some v) ∧ rep g μ G d v) : Sim g T ⟨H, G, μ, fun _ => Option.none⟩ G μ ρ' S σ' H := by
  refine ⟨I.gh, fun a o e _ _ => e, fun a e => e, Sub.refl _, fun a o e => .inl e, ⟨[], by simp, fun a ha => by cases ha⟩, I.munod, I.muG, I.slen, I.store, hl, fun i sl e => ?_, fun i j m m' e1 e2 ne => ?_, I.tabs, I.notbl, fun b vs e => nomatch e⟩
  · rcases h i sl e with q | ⟨d, v, q, e1, r⟩
    · subst q; trivial
    · subst q; exact ⟨v, e1, r⟩
  · rcases h i _ e1 with q | ⟨d, v, q, _⟩ <;> cases q
/-- a block of this frame: the slots vs are forgotten -/
theorem Sim.block {ρ' : Fr} {σ' : St} (I : Sim g T B G μ ρ S σ H) (hl : ρ'.length = σ'.length) (h : ∀ (i : Nat) sl, ρ'[i]? = some sl → sl = .none ∨ (∃ sl', ρ[i]? = some sl' ∧ sl = lockS sl' ∧ σ'[i]? = σ[i]?)) : Sim g T ⟨H, G, μ, fun _ => Option.none⟩ G μ ρ' S σ' H := by
  refine ⟨I.gh, fun a o e _ _ => e, fun a e => e, Sub.refl _, fun a o e => .inl e, ⟨[], by simp, fun a ha => by cases ha⟩, I.munod, I.muG, I.slen, I.store, hl, fun i sl e => ?_, fun i j m m' e1 e2 ne => ?_, I.tabs, I.notbl, fun b vs e => nomatch e⟩
  · rcases h i sl e with q | ⟨sl', e1, q, es⟩
    · subst q; trivial
    · subst q
      have z := I.slots i sl' e1
      cases sl' with
      | none => trivial
      | val d => obtain ⟨v, z1, r⟩ := z; exact ⟨v, es.trans z1, r⟩
      | own k =>
        obtain ⟨a, z1, z2, z3, _⟩ := z
        exact ⟨a, es.trans z1, z2, z3⟩
      | lck k =>
        obtain ⟨a, z1, z2, z3⟩ := z
        obtain ⟨u, q, nt⟩ := mrep_some z2
        have qH := I.base a u q z3 nt
        refine ⟨a, es.trans z1, mrep_mono (Sub.refl _) (fun _ _ h => h) (qH.trans q.symm) z2, fun h => ?_⟩
        obtain ⟨more, em, hm⟩ := I.mu0
        have h : a ∈ μ := h
        rw [em] at h
        rcases List.mem_append.mp h with h | h
        · exact z3 h
        · rw [hm a h] at q; cases q
  · rcases h i _ e1 with q | ⟨sl', _, q, _⟩
    · cases q
    · cases sl' <;> cases q
/-- a slot is forgotten -/
theorem Sim.clear (I : Sim g T B G μ ρ S σ H) (i : Nat) : Sim g T B G μ (ρ.set i .none) S (σ.set i Option.none) H := by
  have key : ∀ {j : Nat} {sl : Slot}, (ρ.set i .none)[j]? = some sl → sl = .none ∨ (j ≠ i ∧ ρ[j]? = some sl) := fun {j sl} e => by
    by_cases hj : j = i
    · subst hj
      rw [List.getElem?_set] at e
      simp only [if_true] at e
      split at e
      · cases e; exact .inl rfl
      · cases e
    · rw [List.getElem?_set_ne (Ne.symm hj)] at e; exact .inr ⟨hj, e⟩
  have es : ∀ {j : Nat}, j ≠ i → (σ.set i Option.none)[j]? = σ[j]? := fun hj => List.getElem?_set_ne (Ne.symm hj)
  refine ⟨I.gh, I.base, I.gone, I.g0, I.gnew, I.mu0, I.munod, I.muG, I.slen, I.store, by simpa using I.len, fun j sl e => ?_, fun j k m m' z1 z2 ne => ?_, I.tabs, I.notbl, fun b vs e => ?_⟩
  · rcases key e with q | ⟨hj, q⟩
    · subst q; trivial
    · have z := I.slots j sl q
      cases sl with
      | none => trivial
      | val d => obtain ⟨w, e1, r⟩ := z; exact ⟨w, (es hj).trans e1, r⟩
      | own m => obtain ⟨a, e1, z⟩ := z; exact ⟨a, (es hj).trans e1, z⟩
      | lck m => obtain ⟨a, e1, z⟩ := z; exact ⟨a, (es hj).trans e1, z⟩
  · rcases key z1 with q | ⟨hj, q⟩
    · cases q
    rcases key z2 with q2 | ⟨hk, q2⟩
    · cases q2
    rw [es hj, es hk]
    exact I.dis j k m m' q q2 ne
  · obtain ⟨z1, z2, z3, z4, z5⟩ := I.pins b vs e
    refine ⟨z1, z2, z3, z4, fun j m q => ?_⟩
    rcases key q with q | ⟨hj, q⟩
    · cases q
    · rw [es hj]; exact z5 j m q
/-- a list that is being built stands anew -/
theorem Sim.repin {D : Addr} {vs : List V} (I : Sim g T B G μ ρ S σ H) (h1 : D ∉ μ) (h2 : G D = none) (h3 : B.H0 D = none) (h4 : ∀ (i : Nat) m, ρ[i]? = some (.own m) → σ[i]? ≠ some (some (.ref D))) (h5 : H D = none ∨ ∃ us, H D = some (.lst us)) :
    Sim g T { B with pin := fun a => if a = D then some vs else B.pin a } G μ ρ S σ (upd H D (.lst vs)) := by
  have off : ∀ b, b ≠ D → upd H D (.lst vs) b = H b := fun b h => upd_ne h
  refine ⟨fun b u e => ?_, fun b u z1 z2 z3 => ?_, fun b e => ?_, I.g0, I.gnew, I.mu0, I.munod, I.muG, I.slen, fun n k b z1 z2 => ?_, I.len, fun j sl e => ?_, I.dis, ?_, I.notbl, fun b us e => ?_⟩
  · rw [off b (fun q => by rw [q, h2] at e; cases e)]; exact I.gh _ _ e
  · rw [off b (fun q => by rw [q] at z1; exact nomatch (show none = some u from h3.symm.trans z1))]; exact I.base b u z1 z2 z3
  · by_cases hb : b = D
    · subst hb; exact h3
    · rw [off b hb] at e; exact I.gone b e
  · have hb : b ≠ D := fun q => h1 (q ▸ List.mem_of_getElem? z2)
    exact mrep_mono (Sub.refl _) (fun _ _ h => h) (off b hb) (I.store n k b z1 z2)
  · have z := I.slots j sl e
    cases sl with
    | none => trivial
    | val d => exact z
    | own k =>
      obtain ⟨b, y1, y2, y3⟩ := z
      have hb : b ≠ D := fun q => h4 j k e (by rw [y1, q])
      exact ⟨b, y1, mrep_mono (Sub.refl _) (fun _ _ h => h) (off b hb) y2, y3⟩
    | lck k => exact z
  · refine fun p hp => ?_
    obtain ⟨ps, y1, y2, y3⟩ := I.tabs p hp
    have nt : ∀ b u, H b = some u → (∀ us, u ≠ .lst us) → b ≠ D := fun b u e n q => by
      subst q
      rcases h5 with h | ⟨us, h⟩
      · rw [h] at e; cases e
      · rw [h] at e; cases e; exact n us rfl
    refine ⟨ps, (off _ (nt _ _ y1 fun us z => nomatch z)).trans y1, y2, fun pos cv hc => ?_⟩
    obtain ⟨c, x1, x2⟩ := y3 pos cv hc
    exact ⟨c, x1, (off _ (nt _ _ x2 fun us z => nomatch z)).trans x2⟩
  · by_cases hb : b = D
    · subst hb
      have e : (if b = b then some vs else B.pin b) = some us := e
      rw [if_pos rfl] at e
      cases e
      exact ⟨upd_same, h1, h2, h3, h4⟩
    · have e : (if b = D then some vs else B.pin b) = some us := e
      rw [if_neg hb] at e
      obtain ⟨z1, z⟩ := I.pins b us e
      exact ⟨(off b hb).trans z1, z⟩
/-- back to the frame of an earlier place of the same block -/
theorem Sim.reframe {B' : Bs} {ρ' : Fr} {S' : Store} {σ' : St} {G' H' : Hp} {μ' : List Addr} (I : Sim g T B G μ ρ S σ H) (J : Sim g T B' G' μ' ρ' S' σ' H') (h1 : B'.H0 = B.H0) (h3 : B'.μ0 = B.μ0) (hG : Sub G G') (hμ : ∀ (n : Nat) (b : Addr), μ[n]? = some b → μ'[n]? = some b)
    (no : ∀ (i : Nat) m, ρ[i]? ≠ some (.own m)) : Sim g T B' G' μ' ρ S' σ H' := by
  refine ⟨J.gh, J.base, J.gone, J.g0, J.gnew, J.mu0, J.munod, J.muG, J.slen, J.store, I.len, fun j sl e => ?_, fun j k m m' e => absurd e (no j m), J.tabs, J.notbl, fun b vs e => ?_⟩
  · have z := I.slots j sl e
    cases sl with
    | none => trivial
    | val d => obtain ⟨w, e1, r⟩ := z; exact ⟨w, e1, rep_mono hG hμ _ _ r⟩
    | own m => exact absurd e (no j m)
    | lck m => obtain ⟨a, e1, e2, e3⟩ := z; exact ⟨a, e1, mrep_mono hG hμ (by rw [h1]) e2, by rw [h3]; exact e3⟩
  · obtain ⟨z1, z2, z3, z4, z5⟩ := J.pins b vs e
    exact ⟨z1, z2, z3, z4, fun i m q => absurd q (no i m)⟩
end
end MP

namespace MP
open PySem PySem.Spec L2
/-! ### operations on trees -/
mutual
/-- == -/
def deq : D → D → Bool
  | .non, .non => true
  | .bl a, .bl b => a == b
  | .bl a, .int j => (if a then 1 else 0) == j
  | .int i, .bl b => i == (if b then 1 else 0)
  | .int i, .int j => i == j
  | .str x, .str y => x == y
  | .lst xs, .lst ys => deqs xs ys
  | .tup xs, .tup ys => deqs xs ys
  | _, _ => false
def deqs : List D → List D → Bool
  | [], [] => true
  | x :: xs, y :: ys => deq x y && deqs xs ys
  | _, _ => false
end
mutual
/-- what == may be asked of -/
def lay : D → Bool
  | .non | .bl _ | .int _ => true
  | .str x => PyData.strOk x
  | .lst xs | .tup xs => lays xs
  | _ => false
def lays : List D → Bool
  | [] => true
  | x :: xs => lay x && lays xs
end
mutual
def dep : D → Nat
  | .lst xs | .tup xs => deps xs + 1
  | _ => 0
def deps : List D → Nat
  | [] => 0
  | x :: xs => max (dep x) (deps xs)
end
def shp (d : D) : Bool := lay d && decide (dep d ≤ 64)
def okLen (n : Nat) : Bool := decide (n ≤ 16777216)
def opBin : Operator → D → D → Option D
  | .Add, .int a, .int b => some (.int (a + b))
  | .Add, .str a, .str b => if okLen (a.length + b.length) then some (.str (a ++ b)) else none
  | .Add, .tup a, .tup b => if okLen (a.length + b.length) then some (.tup (a ++ b)) else none
  | .Sub, .int a, .int b => some (.int (a - b))
  | .Mult, .int a, .int b => if decide (a.natAbs.log2 + b.natAbs.log2 < 1000000) then some (.int (a * b)) else none
  | .Mult, .tup a, .int k => if decide (a ≠ [] ∧ 2 ≤ k ∧ k ≤ 1000 ∧ a.length ≤ 1000) then some (.tup (List.replicate k.toNat a).flatten) else none
  | .FloorDiv, .int a, .int b => if decide (0 < b ∧ b.natAbs.log2 < 9000) then some (.int (a / b)) else none
  | .Mod, .int a, .int b => if decide (0 < b) then some (.int (a % b)) else none
  | .Pow, .int a, .int b => if decide (0 ≤ b ∧ (Builtin.Int.intBits a : Int) * b ≤ 134217728) then some (.int (a ^ b.toNat)) else none
  | _, _, _ => none
/-- op= -/
def opAug : Operator → D → D → Option D
  | .Add, .int a, .int b => some (.int (a + b))
  | .Add, .str a, .str b => if okLen (a.length + b.length) then some (.str (a ++ b)) else none
  | .Sub, .int a, .int b => some (.int (a - b))
  | .Mult, .int a, .int b => if decide ((-(2 ^ 64) < a ∧ a < 2 ^ 64) ∨ (-(2 ^ 64) < b ∧ b < 2 ^ 64)) then some (.int (a * b)) else none
  | _, _, _ => none
/-- lists made by + and * -/
def opBinL : Operator → D → D → Option (List D)
  | .Add, .lst a, .lst b => if okLen (a.length + b.length) then some (a ++ b) else none
  | .Mult, .lst a, .int k => if decide (0 ≤ k ∧ k ≤ 1000000 ∧ a.length * k.toNat ≤ 16777216) then some (List.replicate k.toNat a).flatten else none
  | _, _, _ => none
def isNon : D → Bool
  | .non => true
  | _ => false
def opCmp : CmpOp → D → D → Option Bool
  | .Eq, a, b => if shp a && shp b then some (deq a b) else none
  | .NotEq, a, b => if shp a && shp b then some (!deq a b) else none
  | .Lt, .int a, .int b => some (decide (a < b))
  | .LtE, .int a, .int b => some (decide (a ≤ b))
  | .Gt, .int a, .int b => some (decide (b < a))
  | .GtE, .int a, .int b => some (decide (b ≤ a))
  | .Is, a, .non => some (isNon a)
  | .IsNot, a, .non => some (!isNon a)
  | .In, .str a, .str b => some (!(Builtin.Str.occurrences b a 0 b.length 1).isEmpty)
  | .NotIn, .str a, .str b => some ((Builtin.Str.occurrences b a 0 b.length 1).isEmpty)
  | .In, a, .lst l => if shp a && shp (.lst l) then some (l.any fun z => deq z a) else none
  | .NotIn, a, .lst l => if shp a && shp (.lst l) then some (!l.any fun z => deq z a) else none
  | .In, a, .tup l => if shp a && shp (.tup l) then some (l.any fun z => deq z a) else none
  | .NotIn, a, .tup l => if shp a && shp (.tup l) then some (!l.any fun z => deq z a) else none
  | _, _, _ => none
/-- truth -/
def tru : D → Option Bool
  | .non => some false
  | .bl b => some b
  | .int i => some (i != 0)
  | .str s => if okLen s.length then some ((s.length : Int) != 0) else none
  | .lst l => some (!l.isEmpty)
  | .tup l => some (!l.isEmpty)
  | _ => none
/-- the place that an index says -/
def ixD (n : Nat) (i : Int) : Option Nat := if 0 ≤ i then (if i < n then some i.toNat else none) else (if -(n : Int) ≤ i then some (i + n).toNat else none)
def atD (l : List D) (i : Int) : Option D := (ixD l.length i).bind fun k => l[k]?
def opIdx : D → D → Option D
  | .lst l, .int i => atD l i
  | .tup l, .int i => atD l i
  | .fz l, .int i => atD l i
  | .str s, .int i => if okLen s.length then (ixD s.length i).bind fun k => (s.cps.toList[k]?).map fun c => .str ⟨#[c]⟩ else none
  | _, _ => none
/-- a slice's place -/
def slD (n : Nat) (d : Nat) : D → Option Nat
  | .non => some d
  | .int i => some (HT.sIx n d (some i))
  | _ => none
def cutD (l : List D) (lo hi : D) : Option (List D) := (slD l.length 0 lo).bind fun a => (slD l.length l.length hi).map fun b => (l.drop a).take (b - a)
inductive Ty where | int | bool | str | tuple | list | cls (x : Str)
def isiD : D → Ty → Option Bool
  | .non, .int | .non, .bool | .non, .str | .non, .tuple | .non, .list => some false
  | .bl _, .int | .bl _, .bool => some true
  | .bl _, .str | .bl _, .tuple | .bl _, .list => some false
  | .int _, .int => some true
  | .int _, .bool | .int _, .str | .int _, .tuple | .int _, .list => some false
  | .str _, .str => some true
  | .str _, .int | .str _, .bool | .str _, .tuple | .str _, .list => some false
  | .tup _, .tuple => some true
  | .tup _, .int | .tup _, .bool | .tup _, .str | .tup _, .list => some false
  | .lst _, .list => some true
  | .lst _, .int | .lst _, .bool | .lst _, .str | .lst _, .tuple => some false
  | _, _ => none
def allBl : List D → Option (List Bool)
  | [] => some []
  | .bl b :: r => (allBl r).map (b :: ·)
  | _ :: _ => none
def allInt : List D → Option (List Int)
  | [] => some []
  | .int b :: r => (allInt r).map (b :: ·)
  | _ :: _ => none
def allStr : List D → Option (List Str)
  | [] => some []
  | .str b :: r => (allStr r).map (b :: ·)
  | _ :: _ => none
def seqD : D → Option (List D)
  | .lst l => some l
  | .tup l => some l
  | _ => none
/-- built-ins that hand back a value -/
inductive Bl where | len | abs | int | all | any | max2 | min2 | tuple | str | sum | max | min
def opBl : Bl → List D → Option D
  | .len, [.lst l] => some (.int l.length)
  | .len, [.tup l] => some (.int l.length)
  | .len, [.fz l] => some (.int l.length)
  | .len, [.str s] => if okLen s.length then some (.int s.length) else none
  | .abs, [.int i] => some (.int (if i < 0 then -i else i))
  | .int, [.int i] => some (.int i)
  | .int, [.bl b] => some (.int (if b then 1 else 0))
  | .int, [.str a] => if decide (a.length ≤ 640) then (PySem.intText? a).map .int else none
  | .all, [.lst l] => (allBl l).map fun bs => .bl (bs.all id)
  | .any, [.lst l] => (allBl l).map fun bs => .bl (bs.any id)
  | .max2, [.int a, .int b] => some (.int (if b > a then b else a))
  | .min2, [.int a, .int b] => some (.int (if b < a then b else a))
  | .tuple, [.lst l] => some (.tup l)
  | .tuple, [.tup l] => some (.tup l)
  | .str, [.int i] => if decide (i.natAbs.log2 < 1920) then some (.str (toString i)) else none
  | _, _ => none
/-- built-ins, methods that hand back a new list -/
inductive Fl1 where | list
inductive MtF where | split
def opFl : Fl1 → List D → Option (List D)
  | .list, [.lst l] => some l
  | .list, [.tup l] => some l
  | _, _ => none
def opMtF : MtF → D → List D → Option (List D)
  | .split, .str a, [.str b] => if (b.length != 0) && okLen (a.length + 2) then some ((Txt.split a b).map D.str) else none
  | _, _, _ => none
inductive Mt where | join
def opMt : Mt → D → List D → Option D
  | .join, .str a, [.lst l] => (allStr l).bind fun ys => if okLen ((ys.map (·.length)).sum + ys.length * a.length) then some (.str (Txt.join a ys)) else none
  | _, _, _ => none
/-! ### runs -/
inductive Out (α : Type) where
  | ok (a : α) (ρ : Fr) (S : Store) | exc (c : Str) (ρ : Fr) (S : Store) | stk
abbrev M (α : Type) := Fr → Store → Out α
inductive Out0 where
  | ok (d : D) (S : Store) | exc (c : Str) (S : Store) | stk
section
variable {α β : Type}
def mret (a : α) : M α := fun ρ S => .ok a ρ S
def mstk : M α := fun _ _ => .stk
def mexc (c : Str) : M α := fun ρ S => .exc c ρ S
def mbind (m : M α) (k : α → M β) : M β := fun ρ S => match m ρ S with
  | .ok a ρ S => k a ρ S
  | .exc c ρ S => .exc c ρ S
  | .stk => .stk
def mopt : Option α → M α
  | some a => mret a
  | none => mstk
end
/-- a value, or a slot whose thing may change -/
inductive PV where | v (d : D) | s (i : Nat)
def moD : MO → Option D
  | .lst l => some (.lst l)
  | .dct ks vs => some (.dct ks vs)
  | .ins _ _ => none
def mres : PV → M D
  | .v d => mret d
  | .s i => fun ρ S => match ρ[i]? with
    | some (.val d) => .ok d ρ S
    | some (.own o) => (match moD o with | some d => .ok d ρ S | none => .stk)
    | some (.lck o) => (match moD o with | some d => .ok d ρ S | none => .stk)
    | _ => .stk
/-- .. a thing that stays as it is -/
def mresL : PV → M D
  | .v d => mret d
  | .s i => fun ρ S => match ρ[i]? with
    | some (.lck o) => (match moD o with | some d => .ok d ρ S | none => .stk)
    | _ => .stk
/-- the value that it is, a thing of the store as it is now -/
def mrefd : D → M D
  | .ref n => fun ρ S => match S[n]? with
    | some o => (match moD o with | some d => .ok d ρ S | none => .stk)
    | none => .stk
  | d => mret d
def mval (p : PV) : M D := mbind (mres p) mrefd
def mvals : List PV → M (List D)
  | [] => mret []
  | p :: r => mbind (mval p) fun d => mbind (mvals r) fun l => mret (d :: l)
def isiAny (d : D) : List Ty → Option Bool
  | [] => some false
  | t :: r => (isiD d t).bind fun b => if b then some true else isiAny d r
mutual
inductive E where
  | cst (d : D) | gc (x : Str) (d : D) | fnv (x : Str) | var (i : Nat)
  | bin (o : Operator) (a b : E) | binL (o : Operator) (a b : E) | cmp (o : CmpOp) (a b : E) | cmp2 (o o' : CmpOp) (a b c : E)
  | bop (o : BoolOp) (es : Es) | not_ (a : E) | neg (a : E) | ite (c : T) (a b : E)
  | tup (es : Es) | lst (es : Es) | new (es : Es)
  | idx (a b : E) | sl (a : E) (lo hi : E) | slL (a : E) (lo hi : E) | nil
  | call (x : Str) (es : Es) (ks : List Str) (kes : Es) | callv (i : Nat) (es : Es)
  | bl (b : Bl) (es : Es) | fl (b : Fl1) (es : Es) | mtF (m : MtF) (o : E) (es : Es) | isi (a : E) (ts : List Ty) | mt (m : Mt) (o : E) (es : Es)
  | lc (cl : Cl) | fs (es : Es) | fmt (e : E) | nev
inductive Es where
  | nil | cons (e : E) (es : Es)
inductive T where
  | v (e : E) | cmp (o : CmpOp) (a b : E) | cmp2 (o o' : CmpOp) (a b c : E) | not_ (t : T) | bop (o : BoolOp) (ts : Ts)
inductive Ts where
  | nil | cons (t : T) (ts : Ts)
inductive It where
  | val (e : E) | rng1 (e : E) | rng2 (a b : E) | rng3 (a b c : E) | enm (e : E) | zip (a b : E)
inductive Cl where
  | fin (e : E) | gen (t : Tg) (own : List Nat) (it : It) (cs : Ts) (r : Cl)
inductive Tg where
  | v (i : Nat) | tup (ts : Tgs) | tupS (n : Nat) (ts : Tgs)
inductive Tgs where
  | nil | cons (t : Tg) (ts : Tgs)
end
mutual
inductive C where
  | skip | seq (a b : C) | ex (e : E) | set (t : Tg) (e : E) | setO (i : Nat) (e : E) | aug (i : Nat) (o : Operator) (e : E)
  | seti (o i e : E) | app (o e : E) | ext (o e : E)
  | ret (e : E) | retN | ite (c : T) (a b : C) | for_ (t : Tg) (it : It) (b : C) | whl (n : Nat) (c : T) (b : C) | brk | cont
  | raise (x : Str) | tryc (b : C) (x : Str) (h : C) | nev
end
inductive Fl where | nx | rt (d : D) | bk | ct
/-- what calls do -/
structure Calls where
  f : Str → List D → List Str → List D → Store → Out0
  c : Nat → List D → List D → Store → Out0
def lift0 (r : Store → Out0) : M D := fun ρ S => match r S with
  | .ok d S => .ok d ρ S
  | .exc c S => .exc c ρ S
  | .stk => .stk
/-- a list of the frame's own is frozen where its name is handed on -/
def peek (i : Nat) : M PV := fun ρ S => match ρ[i]? with
  | some (.val d) => .ok (.v d) ρ S
  | some (.own _) => .ok (.s i) ρ S
  | some (.lck _) => .ok (.s i) ρ S
  | _ => .stk
def take (i : Nat) : M D := fun ρ S => match ρ[i]? with
  | some (.val d) => .ok d ρ S
  | some (.own (.lst l)) => .ok (.lst l) (ρ.set i (.val (.lst l))) S
  | _ => .stk
def asP (e : E) (m : M D) : M PV := match e with
  | .var i => peek i
  | _ => mbind m fun d => mret (.v d)
/-- a part of a slice -/
def asO (e : E) (m : M D) : M D := match e with
  | .nil => mret .non
  | _ => mbind m fun d => match d with
    | .int i => mret (.int i)
    | _ => mstk
/-- (k: a list of the frame's own is frozen) -/
def asQ (k : Bool) (e : E) (m : M D) : M PV := if k then mbind m fun d => mret (.v d) else asP e m
def shut {α : Type} (m : Fr → Store → Out α) (ρ' : Fr) : M α := fun ρ S => match m ρ' S with
  | .ok a _ S => .ok a ρ S
  | .exc _ _ _ => .stk
  | .stk => .stk
def noOwn (ρ : Fr) : Bool := ρ.all fun sl => match sl with
  | .own _ => false
  | _ => true
def wipeF (ρ : Fr) : List Nat → Fr
  | [] => ρ
  | v :: vs => (wipeF ρ vs).set v .none
mutual
/-- a value to a target -/
def bindT : Tg → D → M Unit
  | .v i, d => fun ρ S => if i < ρ.length then .ok () (ρ.set i (.val d)) S else .stk
  | .tup ts, d => match seqD d with
    | some l => bindTs ts l
    | none => mstk
  | .tupS n ts, d => match seqD d with
    | some l => if decide (n ≤ l.length) then bindTs ts (l.take n ++ [.lst (l.drop n)]) else mstk
    | none => mstk
def bindTs : Tgs → List D → M Unit
  | .nil, [] => mret ()
  | .cons t ts, d :: l => mbind (bindT t d) fun _ => bindTs ts l
  | _, _ => mstk
end
def flatM {α : Type} (f : α → M (List D)) : List α → M (List D)
  | [] => mret []
  | a :: r => mbind (f a) fun x => mbind (flatM f r) fun y => mret (x ++ y)
def intsFrom (lo : Int) : Nat → List D
  | 0 => []
  | n + 1 => .int lo :: intsFrom (lo + 1) n
def rngD (lo hi : Int) : Option (List D) := if decide (-1000000000 ≤ lo ∧ lo ≤ 1000000000 ∧ -1000000000 ≤ hi ∧ hi ≤ 1000000000) then some (intsFrom lo (hi - lo).toNat) else none
def stepsFrom (lo c : Int) : Nat → List D
  | 0 => []
  | n + 1 => .int lo :: stepsFrom (lo + c) c n
def rngD3 (lo hi c : Int) : Option (List D) := if decide (1 ≤ c ∧ c ≤ 1000000) && Builtin.Range.small lo hi c then some (stepsFrom lo c (Builtin.Range.rangeSize lo hi c).toNat) else none
def enumD (l : List D) (k : Int) : List D := match l with
  | [] => []
  | d :: r => .tup [.int k, d] :: enumD r (k + 1)
def zipD : List D → List D → List D
  | a :: r, b :: s => .tup [a, b] :: zipD r s
  | _, _ => []
def zipO : D → D → Option (List D)
  | .lst a, .lst b => some (zipD a b)
  | .tup a, .tup b => some (zipD a b)
  | _, _ => none
def iterD : D → Option (List D)
  | .lst l => some l
  | .fz l => some l
  | .tup l => some l
  | .str s => if okLen s.length then some (s.cps.toList.map fun c => .str ⟨#[c]⟩) else none
  | _ => none
def okItems (l : List D) : M (List D) := if okLen l.length then mret l else mstk
def fLst (ml : M (List D)) : M (List D) := mbind ml fun l => if okLen l.length then mret l else mstk
def fBinL (o : Operator) (pa pb : M PV) : M (List D) := mbind pa fun p => mbind pb fun q => mbind (mval p) fun x => mbind (mval q) fun y => mopt (opBinL o x y)
def fSlL (pa : M PV) (ml mh : M D) : M (List D) := mbind pa fun p => mbind ml fun i => mbind mh fun j => mbind (mval p) fun x => match x with
    | .lst l => mopt (cutD l i j)
    | _ => mstk
def fFl (b : Fl1) (ml : M (List PV)) : M (List D) := mbind ml fun ps => mbind (mvals ps) fun ds => mopt (opFl b ds)
def fMtF (m : MtF) (mo : M D) (ml : M (List PV)) : M (List D) := mbind mo fun x => match x with
    | .str a => mbind ml fun ps => mbind (mvals ps) fun ds => mopt (opMtF m (.str a) ds)
    | _ => mstk
def fLc (m : M (List D)) : M (List D) := fun ρ S => mbind (shut m (lockF ρ)) okItems ρ S
def asL (m : M (List D)) : M D := mbind m fun l => mret (.lst l)
section
variable (cl : Calls)
mutual
def evE : E → M D
  | .cst d => mret d
  | .gc _ d => mret d
  | .fnv x => mret (.fn x)
  | .var i => take i
  | .bin o a b => mbind (asP a (evE a)) fun p => mbind (asP b (evE b)) fun q => mbind (mval p) fun x => mbind (mval q) fun y => mopt (opBin o x y)
  | .binL o a b => asL (fBinL o (asP a (evE a)) (asP b (evE b)))
  | .cmp o a b => mbind (asP a (evE a)) fun p => mbind (asP b (evE b)) fun q => mbind (mval p) fun x => mbind (mval q) fun y => mopt ((opCmp o x y).map .bl)
  | .cmp2 o o' a b c => mbind (asP a (evE a)) fun p => mbind (asP b (evE b)) fun q => mbind (mval p) fun x => mbind (mval q) fun y => mbind (mopt (opCmp o x y)) fun k =>
      if k then mbind (asP c (evE c)) fun r => mbind (mval q) fun y => mbind (mval r) fun z => mopt ((opCmp o' y z).map .bl) else mret (.bl false)
  | .bop o es => evB o es
  | .not_ a => mbind (evE a) fun d => match d with
    | .bl b => mret (.bl (!b))
    | _ => mstk
  | .neg a => mbind (evE a) fun d => match d with
    | .int i => mret (.int (-i))
    | _ => mstk
  | .ite c a b => mbind (evT c) fun k => if k then evE a else evE b
  | .tup es => mbind (evEs es) fun l => if okLen l.length then mret (.tup l) else mstk
  | .lst es => asL (fLst (evEs es))
  | .new es => mbind (evEs es) fun l => if okLen l.length then (fun ρ S => .ok (.ref S.length) ρ (S ++ [.lst l])) else mstk
  | .idx a b => mbind (asP a (evE a)) fun p => mbind (evE b) fun i => mbind (mval p) fun x => mopt (opIdx x i)
  | .sl a lo hi => mbind (asP a (evE a)) fun p => mbind (asO lo (evE lo)) fun i => mbind (asO hi (evE hi)) fun j => mbind (mval p) fun x => match x with
    | .tup l => mopt ((cutD l i j).map .tup)
    | _ => mstk
  | .slL a lo hi => asL (fSlL (asP a (evE a)) (asO lo (evE lo)) (asO hi (evE hi)))
  | .nil => mret .non
  | .call x es ks kes => mbind (evEs es) fun ds => mbind (evEs kes) fun kds => lift0 (cl.f x ds ks kds)
  | .callv i es => mbind (peek i) fun p => match p with
    | .v (.fn x) => mbind (evEs es) fun ds => lift0 (cl.f x ds [] [])
    | .v (.clo k caps) => mbind (evEs es) fun ds => lift0 (cl.c k caps ds)
    | _ => mstk
  | .bl b es => mbind (evPs es) fun ps => mbind (mvals ps) fun ds => mopt (opBl b ds)
  | .fl b es => asL (fFl b (evPs es))
  | .mtF m o es => asL (fMtF m (evE o) (evPs es))
  | .isi a ts => mbind (asP a (evE a)) fun p => mbind (mval p) fun d => mopt ((isiAny d ts).map .bl)
  | .mt m o es => mbind (evE o) fun x => match x with
    | .str a => mbind (evPs es) fun ps => mbind (mvals ps) fun ds => mopt (opMt m (.str a) ds)
    | _ => mstk
  | .lc c => asL (fLc (evCl c))
  | .fmt e => mbind (evE e) fun d => match d with
    | .str y => if okLen y.length then mret (.str y) else mstk
    | .int i => if decide (i.natAbs.log2 < 1920) then mret (.str (toString i)) else mstk
    | _ => mstk
  | .fs es => mbind (evJ es Str.empty) fun y => mret (.str y)
  | .nev => mstk
/-- the items of a new list -/
def evF : E → M (List D)
  | .lst es => fLst (evEs es)
  | .binL o a b => fBinL o (asP a (evE a)) (asP b (evE b))
  | .slL a lo hi => fSlL (asP a (evE a)) (asO lo (evE lo)) (asO hi (evE hi))
  | .fl b es => fFl b (evPs es)
  | .mtF m o es => fMtF m (evE o) (evPs es)
  | .lc c => fLc (evCl c)
  | _ => mstk
def evB : BoolOp → Es → M D
  | _, .nil => mstk
  | _, .cons e .nil => evE e
  | .And, .cons e es => mbind (evE e) fun d => match d with
    | .bl true => evB .And es
    | .bl false => mret (.bl false)
    | _ => mstk
  | .Or, .cons e es => mbind (evE e) fun d => match d with
    | .bl true => mret (.bl true)
    | .bl false => evB .Or es
    | _ => mstk
def evEs : Es → M (List D)
  | .nil => mret []
  | .cons e es => mbind (evE e) fun d => mbind (evEs es) fun l => mret (d :: l)
def evJ : Es → Str → M Str
  | .nil, acc => mret acc
  | .cons e es, acc => mbind (evE e) fun d => match d with
    | .str y => if okLen (acc ++ y).length then evJ es (acc ++ y) else mstk
    | _ => mstk
def evPs : Es → M (List PV)
  | .nil => mret []
  | .cons e es => mbind (asP e (evE e)) fun d => mbind (evPs es) fun l => mret (d :: l)
def evT : T → M Bool
  | .v e => mbind (asP e (evE e)) fun p => mbind (mval p) fun d => mopt (tru d)
  | .cmp o a b => mbind (asP a (evE a)) fun p => mbind (asP b (evE b)) fun q => mbind (mval p) fun x => mbind (mval q) fun y => mopt (opCmp o x y)
  | .cmp2 o o' a b c => mbind (asP a (evE a)) fun p => mbind (asP b (evE b)) fun q => mbind (mval p) fun x => mbind (mval q) fun y => mbind (mopt (opCmp o x y)) fun k =>
      if k then mbind (asP c (evE c)) fun r => mbind (mval q) fun y => mbind (mval r) fun z => mopt (opCmp o' y z) else mret false
  | .not_ t => mbind (evT t) fun b => mret (!b)
  | .bop o ts => evTs o ts
def evTs : BoolOp → Ts → M Bool
  | .And, .nil => mret true
  | .Or, .nil => mret false
  | .And, .cons t ts => mbind (evT t) fun b => if b then evTs .And ts else mret false
  | .Or, .cons t ts => mbind (evT t) fun b => if b then mret true else evTs .Or ts
def evI : Bool → It → M (List D)
  | k, .val e => mbind (asQ k e (evE e)) fun p => mbind (mresL p) fun d => mopt (iterD d)
  | _, .rng1 e => mbind (evE e) fun d => match d with
    | .int n => mopt (rngD 0 n)
    | _ => mstk
  | _, .rng2 a b => mbind (evE a) fun x => mbind (evE b) fun y => match x, y with
    | .int lo, .int hi => mopt (rngD lo hi)
    | _, _ => mstk
  | _, .rng3 a b c => mbind (evE a) fun x => mbind (evE b) fun y => mbind (evE c) fun z => match x, y, z with
    | .int lo, .int hi, .int st => mopt (rngD3 lo hi st)
    | _, _, _ => mstk
  | k, .enm e => mbind (asQ k e (evE e)) fun p => mbind (mresL p) fun d => mopt ((seqD d).map fun l => enumD l 0)
  | k, .zip a b => mbind (asQ k a (evE a)) fun p => mbind (asQ k b (evE b)) fun q => mbind (mresL p) fun x => mbind (mresL q) fun y => mopt (zipO x y)
def evCl : Cl → M (List D)
  | .fin e => mbind (evE e) fun d => mret [d]
  | .gen t own it cs r => mbind (evI false it) fun l => fun ρ S => if noOwn ρ then flatM (fun d => fun ρ S =>
      shut (mbind (bindT t d) fun _ => mbind (evTs .And cs) fun k => if k then evCl r else mret []) (wipeF ρ own) ρ S) l ρ S else .stk
end
/-! ### statements -/
def forM (t : Tg) (body : M Fl) : List D → M Fl
  | [] => mret .nx
  | d :: r => mbind (bindT t d) fun _ => mbind body fun f => match f with
    | .nx => forM t body r
    | .ct => forM t body r
    | .bk => mret .nx
    | .rt d => mret (.rt d)
def whlM (c : M Bool) (body : M Fl) : Nat → M Fl
  | 0 => mstk
  | n + 1 => mbind c fun b => if b then mbind body fun f => (match f with
    | .nx => whlM c body n
    | .ct => whlM c body n
    | .bk => mret .nx
    | .rt d => mret (.rt d)) else mret .nx
/-- a thing of the frame's own, or of the store, is changed -/
def chg (p : PV) (f : MO → Option MO) : M Fl := match p with
  | .s i => fun ρ S => match ρ[i]? with
    | some (.own o) => (match f o with | some o' => .ok .nx (ρ.set i (.own o')) S | none => .stk)
    | _ => .stk
  | .v (.ref n) => fun ρ S => match S[n]? with
    | some o => (match f o with | some o' => .ok .nx ρ (S.set n o') | none => .stk)
    | none => .stk
  | _ => mstk
def putAt (i : D) (d : D) : MO → Option MO
  | .lst l => match i with
    | .int k => (ixD l.length k).map fun j => .lst (l.set j d)
    | _ => none
  | _ => none
def addTo (l' : List D) : MO → Option MO
  | .lst l => if okLen (l.length + l'.length) then some (.lst (l ++ l')) else none
  | _ => none
def evC (sub : Str → Str → Bool) : C → M Fl
  | .skip => mret .nx
  | .seq a b => mbind (evC sub a) fun f => match f with
    | .nx => evC sub b
    | f => mret f
  | .ex e => mbind (evE cl e) fun _ => mret .nx
  | .set t e => mbind (evE cl e) fun d => mbind (bindT t d) fun _ => mret .nx
  | .setO i e => mbind (evF cl e) fun l => fun ρ S => if i < ρ.length then .ok .nx (ρ.set i (.own (.lst l))) S else .stk
  | .aug i o e => mbind (peek i) fun p => match p with
    | .v x => mbind (evE cl e) fun y => mbind (mopt (opAug o x y)) fun d => mbind (bindT (.v i) d) fun _ => mret .nx
    | _ => mstk
  | .seti o i e => mbind (evE cl e) fun d => mbind (asP o (evE cl o)) fun p => mbind (evE cl i) fun k => chg p (putAt k d)
  | .app o e => mbind (asP o (evE cl o)) fun p => mbind (mval p) fun x => match x with
    | .lst _ => mbind (evE cl e) fun d => chg p (addTo [d])
    | _ => mstk
  | .ext o e => mbind (asP o (evE cl o)) fun p => mbind (mval p) fun x => match x with
    | .lst _ => mbind (evE cl e) fun d => match d with
      | .lst l => chg p (addTo l)
      | _ => mstk
    | _ => mstk
  | .ret e => mbind (evE cl e) fun d => mret (.rt d)
  | .retN => mret (.rt .non)
  | .ite c a b => mbind (evT cl c) fun k => if k then evC sub a else evC sub b
  | .for_ t it b => mbind (evI cl true it) fun l => forM t (evC sub b) l
  | .whl n c b => whlM (evT cl c) (evC sub b) n
  | .brk => mret .bk
  | .cont => mret .ct
  | .raise x => mexc x
  | .nev => mstk
  | .tryc b x h => fun ρ S => match evC sub b ρ S with
    | .exc c ρ S => if sub c x then evC sub h ρ S else .exc c ρ S
    | r => r
end
/-! ### programs -/
structure Fn where
  name : Str
  ps : List Str
  npos : Nat
  kwd : List (Str × D)
  N : List Str
  body : C
structure Pgm where
  fns : List Fn
  clos : List Fn
  sub : Str → Str → Bool
def arrange (fn : Fn) (ds : List D) (ks : List Str) (kds : List D) : Option (List D) :=
  if ds.length == fn.npos && ks.all (fun k => (fn.kwd.map (·.1)).contains k) then some (ds ++ fn.kwd.map fun q => ((ks.zip kds).lookup q.1).getD q.2) else none
def frame0 (fn : Fn) (args : List D) : Fr := args.map Slot.val ++ List.replicate (fn.N.length - args.length) Slot.none
def runFn (cl : Calls) (sub : Str → Str → Bool) (fn : Fn) (args : List D) (S : Store) : Out0 := match evC cl sub fn.body (frame0 fn args) S with
  | .ok .nx _ S => .ok .non S
  | .ok (.rt d) _ S => .ok d S
  | .ok _ _ _ => .stk
  | .exc c _ S => .exc c S
  | .stk => .stk
def callF (Pg : Pgm) : Nat → Calls
  | 0 => ⟨fun _ _ _ _ _ => .stk, fun _ _ _ _ => .stk⟩
  | n + 1 => ⟨fun x ds ks kds S => match Pg.fns.find? fun f => f.name == x with
      | some fn => (match arrange fn ds ks kds with
        | some args => runFn (callF Pg n) Pg.sub fn args S
        | none => .stk)
      | none => .stk,
    fun k caps ds S => match Pg.clos[k]? with
      | some fn => if ds.length == fn.npos then runFn (callF Pg n) Pg.sub fn (ds ++ caps) S else .stk
      | none => .stk⟩
end MP

namespace MP
open PySem PySem.Spec L2
abbrev _root_.L2.Cx.gp (X : Cx) : Gp := ⟨X.prog, X.w, X.K, X.mg, X.base⟩
/-- where a run stands -/
structure Sg where
  B : Bs
  G : Hp
  μ : List Addr
  ρ : Fr
  S : Store
structure Le (s s' : Sg) : Prop where
  B : s'.B = s.B
  G : Sub s.G s'.G
  μ : ∀ (n : Nat) (a : Addr), s.μ[n]? = some a → s'.μ[n]? = some a
theorem Le.refl (s : Sg) : Le s s := ⟨rfl, Sub.refl _, fun _ _ h => h⟩
theorem Le.trans {s s1 s2 : Sg} (a : Le s s1) (b : Le s1 s2) : Le s s2 := ⟨b.B.trans a.B, a.G.trans b.G, fun n x h => b.μ n x (a.μ n x h)⟩
abbrev At (g : Gp) (T : List NdefX.NTab) (s : Sg) (σ : L2.St) (H : Hp) : Prop := Sim g T s.B s.G s.μ s.ρ s.S σ H
def gcls (g : Gp) (c : Str) : Value := (g.mg c).getD .none
section
variable {g : Gp} {T : List NdefX.NTab} {W : WX} {α β : Type} {s s' s1 : Sg} {σ : L2.St} {H H' : Hp} {m : M α} {k : α → M β}
/-- what follows a run -/
def Aft (g : Gp) (T : List NdefX.NTab) (W : WX) (m : M α) (s : Sg) (σ : L2.St) (Q : α → Sg → Hp → Prop) : Prop :=
  match m s.ρ s.S with
  | .ok a ρ S => ∀ s' H', Le s s' → s'.ρ = ρ → s'.S = S → At g T s' σ H' → Q a s' H'
  | .exc c ρ S => ∀ s' H', Le s s' → s'.ρ = ρ → s'.S = S → At g T s' σ H' → W (gcls g c) none σ H'
  | .stk => False
theorem Aft.mono {Q Q' : α → Sg → Hp → Prop} (h : Aft g T W m s σ Q) (k : ∀ a s' H', Le s s' → At g T s' σ H' → Q a s' H' → Q' a s' H') : Aft g T W m s σ Q' := by
  unfold Aft at h ⊢
  cases e : m s.ρ s.S with
  | ok a ρ S => rw [e] at h; exact fun s' H' l e1 e2 I => k a s' H' l I (h s' H' l e1 e2 I)
  | exc c ρ S => rw [e] at h; exact h
  | stk => rw [e] at h; exact h
theorem Aft.bind {Q : β → Sg → Hp → Prop} (h : Aft g T W (mbind m k) s σ Q) : Aft g T W m s σ fun a s1 H1 => Aft g T W (k a) s1 σ Q := by
  unfold Aft at h ⊢
  unfold mbind at h
  cases e : m s.ρ s.S with
  | ok a ρ S =>
    rw [e] at h
    intro s1 H1 l e1 e2 I
    subst e1 e2
    have h : (match k a s1.ρ s1.S with
      | .ok a ρ S => ∀ s' H', Le s s' → s'.ρ = ρ → s'.S = S → At g T s' σ H' → Q a s' H'
      | .exc c ρ S => ∀ s' H', Le s s' → s'.ρ = ρ → s'.S = S → At g T s' σ H' → W (gcls g c) none σ H'
      | .stk => False) := h
    show (match k a s1.ρ s1.S with
      | .ok a ρ S => ∀ s' H', Le s1 s' → s'.ρ = ρ → s'.S = S → At g T s' σ H' → Q a s' H'
      | .exc c ρ S => ∀ s' H', Le s1 s' → s'.ρ = ρ → s'.S = S → At g T s' σ H' → W (gcls g c) none σ H'
      | .stk => False)
    cases e2 : k a s1.ρ s1.S with
    | ok b ρ' S' => rw [e2] at h; exact fun s' H' l' => h s' H' (l.trans l')
    | exc c ρ' S' => rw [e2] at h; exact fun s' H' l' => h s' H' (l.trans l')
    | stk => rw [e2] at h; exact h
  | exc c ρ S => rw [e] at h; exact h
  | stk => rw [e] at h; exact h
theorem Aft.ret {Q : α → Sg → Hp → Prop} {a : α} (h : Aft g T W (mret a) s σ Q) (I : At g T s σ H) : Q a s H := h s H (Le.refl _) rfl rfl I
/-- .. at a later place of the same frame and store -/
theorem Aft.ret' {Q : α → Sg → Hp → Prop} {a : α} (h : Aft g T W (mret a) s σ Q) (l : Le s s1) (e1 : s1.ρ = s.ρ) (e2 : s1.S = s.S) (I : At g T s1 σ H) : Q a s1 H := h s1 H l e1 e2 I
theorem Aft.opt {Q : α → Sg → Hp → Prop} {o : Option α} (h : Aft g T W (mopt o) s σ Q) : ∃ a, o = some a ∧ Aft g T W (mret a) s σ Q := by
  cases o with
  | none => exact False.elim h
  | some a => exact ⟨a, rfl, h⟩
theorem Aft.stk {Q : α → Sg → Hp → Prop} (h : Aft g T W mstk s σ Q) : False := h
end
/-- what a place of values says -/
def prep (g : Gp) (s : Sg) (σ : L2.St) : PV → V → Prop
  | .v d, v => rep g s.μ s.G d v
  | .s i, v => σ[i]? = some (some v)
/-- a value as it is now -/
def wrep (g : Gp) (s : Sg) (H : Hp) (d : D) (v : V) : Prop := rep g s.μ s.G d v ∨ ∃ l a vs, d = .lst l ∧ v = .ref a ∧ H a = some (.lst vs) ∧ reps g s.μ s.G l vs
theorem wrep.lst {g : Gp} {s : Sg} {H : Hp} {l : List D} {v : V} (hg : Sub s.G H) (h : wrep g s H (.lst l) v) : ∃ a vs, v = .ref a ∧ H a = some (.lst vs) ∧ reps g s.μ s.G l vs := by
  rcases h with ⟨a, vs, e, q, r⟩ | ⟨l', a, vs, e, e2, q, r⟩
  · exact ⟨a, vs, e, hg _ _ q, r⟩
  · cases e; exact ⟨a, vs, e2, q, r⟩
theorem wrep.rep {g : Gp} {s : Sg} {H : Hp} {d : D} {v : V} (h : wrep g s H d v) (n : ∀ l, d ≠ .lst l) : rep g s.μ s.G d v := by
  rcases h with h | ⟨l', a, vs, e, _⟩
  · exact h
  · exact absurd e (n _)
theorem rep_le {g : Gp} {s s' : Sg} (l : Le s s') {d : D} {v : V} (h : rep g s.μ s.G d v) : rep g s'.μ s'.G d v := rep_mono l.G l.μ d v h
theorem reps_le {g : Gp} {s s' : Sg} (l : Le s s') {d : List D} {v : List V} (h : reps g s.μ s.G d v) : reps g s'.μ s'.G d v := reps_mono l.G l.μ d v h
theorem prep_le {g : Gp} {s s' : Sg} {σ : L2.St} (l : Le s s') {p : PV} {v : V} (h : prep g s σ p v) : prep g s' σ p v := by
  cases p with
  | v d => exact rep_le l h
  | s i => exact h
theorem reps_len {g : Gp} {μ : List Addr} {G : Hp} : ∀ {l : List D} {vs : List V}, reps g μ G l vs → l.length = vs.length
  | [], vs, h => by rw [show vs = [] from h]; rfl
  | d :: l, vs, ⟨v, r, e, _, h⟩ => by rw [e, List.length_cons, List.length_cons, reps_len h]
theorem reps_get {g : Gp} {μ : List Addr} {G : Hp} : ∀ {l : List D} {vs : List V} {i : Nat} {d : D}, reps g μ G l vs → l[i]? = some d → ∃ v, vs[i]? = some v ∧ rep g μ G d v
  | [], _, _, _, _, e => by simp at e
  | d :: l, vs, 0, d', ⟨v, r, e, h1, h2⟩, q => by simp at q; subst q; exact ⟨v, by rw [e]; rfl, h1⟩
  | d :: l, vs, i + 1, d', ⟨v, r, e, h1, h2⟩, q => by
    obtain ⟨w, a, b⟩ := reps_get (i := i) h2 (by simpa using q)
    exact ⟨w, by rw [e]; simpa using a, b⟩
theorem reps_append {g : Gp} {μ : List Addr} {G : Hp} : ∀ {l l' : List D} {vs vs' : List V}, reps g μ G l vs → reps g μ G l' vs' → reps g μ G (l ++ l') (vs ++ vs')
  | [], l', vs, vs', h, h' => by rw [show vs = [] from h]; exact h'
  | d :: l, l', vs, vs', ⟨v, r, e, h1, h2⟩, h' => ⟨v, r ++ vs', by rw [e]; rfl, h1, reps_append h2 h'⟩
theorem reps_drop {g : Gp} {μ : List Addr} {G : Hp} : ∀ {l : List D} {vs : List V} (n : Nat), reps g μ G l vs → reps g μ G (l.drop n) (vs.drop n)
  | l, vs, 0, h => h
  | [], vs, n + 1, h => by rw [show vs = [] from h]; rfl
  | d :: l, vs, n + 1, ⟨v, r, e, h1, h2⟩ => by rw [e]; exact reps_drop n h2
theorem reps_take {g : Gp} {μ : List Addr} {G : Hp} : ∀ {l : List D} {vs : List V} (n : Nat), reps g μ G l vs → reps g μ G (l.take n) (vs.take n)
  | l, vs, 0, h => rfl
  | [], vs, n + 1, h => by rw [show vs = [] from h]; rfl
  | d :: l, vs, n + 1, ⟨v, r, e, h1, h2⟩ => by rw [e]; exact ⟨v, r.take n, rfl, h1, reps_take n h2⟩
theorem reps_set {g : Gp} {μ : List Addr} {G : Hp} {d : D} {v : V} (hv : rep g μ G d v) : ∀ {l : List D} {vs : List V} (n : Nat), reps g μ G l vs → reps g μ G (l.set n d) (vs.set n v)
  | [], vs, n, h => by rw [show vs = [] from h]; rfl
  | d' :: l, vs, 0, ⟨w, r, e, h1, h2⟩ => by rw [e]; exact ⟨v, r, rfl, hv, h2⟩
  | d' :: l, vs, n + 1, ⟨w, r, e, h1, h2⟩ => by rw [e]; exact ⟨w, r.set n v, rfl, h1, reps_set hv n h2⟩
theorem reps_repl {g : Gp} {μ : List Addr} {G : Hp} {l : List D} {vs : List V} (h : reps g μ G l vs) : ∀ n : Nat, reps g μ G (List.replicate n l).flatten (List.replicate n vs).flatten
  | 0 => rfl
  | n + 1 => by
    rw [List.replicate_succ, List.replicate_succ, List.flatten_cons, List.flatten_cons]
    exact reps_append h (reps_repl h n)
/-- a list that nobody else knows -/
def Fresh (g : Gp) (s : Sg) (σ : L2.St) (H : Hp) (l : List D) (v : V) : Prop := ∃ p vs, v = .ref p ∧ H p = some (.lst vs) ∧ reps g s.μ s.G l vs ∧ p ∉ s.μ ∧ s.G p = none ∧ s.B.H0 p = none ∧ s.B.pin p = none ∧ ∀ (i : Nat) m, s.ρ[i]? = some (.own m) → σ[i]? ≠ some (some (.ref p))
section
variable (T : List NdefX.NTab) (W : WX)
def tE (g : Gp) (m : M D) : TE := fun σ H Q => ∃ s, At g T s σ H ∧ Aft g T W m s σ fun d s' H' => ∀ v, rep g s'.μ s'.G d v → Q v H'
def tP (g : Gp) (m : M PV) : TE := fun σ H Q => ∃ s, At g T s σ H ∧ Aft g T W m s σ fun p s' H' => ∀ v, prep g s' σ p v → Q v H'
def tF (g : Gp) (m : M (List D)) : TE := fun σ H Q => ∃ s, At g T s σ H ∧ Aft g T W m s σ fun l s' H' => ∀ v, Fresh g s' σ H' l v → Q v H'
def tA (g : Gp) (m : M (List D)) : TA := fun σ H Q => ∃ s, At g T s σ H ∧ Aft g T W m s σ fun l s' H' => ∀ vs, reps g s'.μ s'.G l vs → Q vs H'
def tPs (g : Gp) (m : M (List PV)) : TA := fun σ H Q => ∃ s, At g T s σ H ∧ Aft g T W m s σ fun l s' H' => ∀ vs, Paired (fun p v => prep g s' σ p v) l vs → Q vs H'
def tB (g : Gp) (m : M Bool) : TT := fun σ H Q => ∃ s, At g T s σ H ∧ Aft g T W m s σ fun b s' H' => Q b H'
def tSt (g : Gp) (m : M Fl) : TS := fun D σ H => ∃ s, At g T s σ H ∧ match m s.ρ s.S with
  | .ok f ρ S => ∀ s' σ' H', Le s s' → s'.ρ = ρ → s'.S = S → At g T s' σ' H' → (match f with
    | .nx => D.nx σ' H'
    | .bk => D.bk σ' H'
    | .ct => D.ct σ' H'
    | .rt d => ∀ v, rep g s'.μ s'.G d v → D.rt v H')
  | .exc c ρ S => ∀ s' σ' H', Le s s' → s'.ρ = ρ → s'.S = S → At g T s' σ' H' → W (gcls g c) none σ' H'
  | .stk => False
abbrev SE (X : Cx) (e : Expr) (m : M D) : Prop := PE X e (tE T W X.gp m)
abbrev SP (X : Cx) (e : Expr) (m : M PV) : Prop := PE X e (tP T W X.gp m)
abbrev SF (X : Cx) (e : Expr) (m : M (List D)) : Prop := PE X e (tF T W X.gp m)
abbrev SA (X : Cx) (es : List Expr) (m : M (List D)) : Prop := PA X es (tA T W X.gp m)
abbrev SPs (X : Cx) (es : List Expr) (m : M (List PV)) : Prop := PA X es (tPs T W X.gp m)
abbrev SB (X : Cx) (e : Expr) (m : M Bool) : Prop := PT X e (tB T W X.gp m)
abbrev SS (X : Cx) (st : Stmt) (m : M Fl) : Prop := PS X st (tSt T W X.gp m)
abbrev SSs (X : Cx) (st : List Stmt) (m : M Fl) : Prop := PSs X st (tSt T W X.gp m)
end
theorem _root_.L2.PE.weak {X : Cx} {e : Expr} {t t' : TE} (h : PE X e t) (k : ∀ σ H Q, t' σ H Q → t σ H Q) : PE X e t' := ⟨fun pins s σ H Q I q => h.run pins s σ H Q I (k σ H Q q)⟩
theorem _root_.L2.PT.weak {X : Cx} {e : Expr} {t t' : TT} (h : PT X e t) (k : ∀ σ H Q, t' σ H Q → t σ H Q) : PT X e t' := ⟨fun pins s σ H Q I q => h.run pins s σ H Q I (k σ H Q q)⟩
theorem _root_.L2.PA.weak {X : Cx} {e : List Expr} {t t' : TA} (h : PA X e t) (k : ∀ σ H Q, t' σ H Q → t σ H Q) : PA X e t' := ⟨fun pos pins s σ H Q I q => h.run pos pins s σ H Q I (k σ H Q q)⟩
theorem _root_.L2.PS.weak {X : Cx} {e : Stmt} {t t' : TS} (h : PS X e t) (k : ∀ D σ H, t' D σ H → t D σ H) : PS X e t' := ⟨fun pins s σ H D I q => h.run pins s σ H D I (k D σ H q)⟩
theorem _root_.L2.PSs.weak {X : Cx} {e : List Stmt} {t t' : TS} (h : PSs X e t) (k : ∀ D σ H, t' D σ H → t D σ H) : PSs X e t' := ⟨fun pins s σ H D I q => h.run pins s σ H D I (k D σ H q)⟩
section
variable {T : List NdefX.NTab} {W : WX} {X : Cx} {e : Expr} {s : Sg} {σ : L2.St} {H : Hp}
/-- a place's value now -/
theorem Aft.val {p : PV} {v : V} {β : Type} {k : D → M β} {Q : β → Sg → Hp → Prop} {g : Gp} (h : Aft g T W (mbind (mval p) k) s σ Q) (I : At g T s σ H) (hp : prep g s σ p v) : ∃ d, wrep g s H d v ∧ Aft g T W (k d) s σ Q := by
  have fin : ∀ d, wrep g s H d v → (mval p s.ρ s.S = .ok d s.ρ s.S) → ∃ d, wrep g s H d v ∧ Aft g T W (k d) s σ Q := fun d w e => by
    refine ⟨d, w, ?_⟩
    have h2 := h
    unfold Aft at h2
    unfold mbind at h2
    rw [e] at h2
    exact h2
  have nostk : mval p s.ρ s.S ≠ .stk := fun e => by
    unfold Aft at h
    unfold mbind at h
    rw [e] at h
    exact h
  have viaS : ∀ o a, mrep g s.μ s.G H a o → v = .ref a → ∀ d, moD o = some d → wrep g s H d v := fun o a hm ev d hd => by
    cases o with
    | lst l =>
      cases hd
      obtain ⟨vs, q, r⟩ := hm
      exact .inr ⟨l, a, vs, rfl, ev, q, r⟩
    | dct _ _ => exact hm.elim
    | ins _ _ => cases hd
  -- from a tree
  have tree : ∀ d, wrep g s H d v → (mbind (mret d) mrefd s.ρ s.S ≠ .stk) → ∃ d', wrep g s H d' v ∧ mbind (mret d) mrefd s.ρ s.S = .ok d' s.ρ s.S := fun d w ns => by
    cases d with
    | ref n =>
      have w' := w.rep (fun l z => nomatch z)
      obtain ⟨a, ev, hμ⟩ := w'
      have ns' : mrefd (.ref n) s.ρ s.S ≠ .stk := ns
      show ∃ d', wrep g s H d' v ∧ mrefd (.ref n) s.ρ s.S = .ok d' s.ρ s.S
      cases eo : s.S[n]? with
      | none => simp only [mrefd, eo] at ns'; exact absurd rfl ns'
      | some o =>
        cases em : moD o with
        | none => simp only [mrefd, eo, em] at ns'; exact absurd rfl ns'
        | some d' =>
          exact ⟨d', viaS o a (I.store n o a eo hμ) ev d' em, by simp only [mrefd, eo, em]⟩
    | _ => exact ⟨_, w, rfl⟩
  cases p with
  | v d =>
    obtain ⟨d', w, e⟩ := tree d (.inl hp) nostk
    exact fin d' w e
  | s i =>
    have hp : σ[i]? = some (some v) := hp
    have key : ∀ d, wrep g s H d v → mres (.s i) s.ρ s.S = .ok d s.ρ s.S → ∃ d, wrep g s H d v ∧ Aft g T W (k d) s σ Q := fun d w e => by
      have e2 : mval (.s i) s.ρ s.S = mbind (mret d) mrefd s.ρ s.S := by
        show mbind (mres (.s i)) mrefd s.ρ s.S = _
        unfold mbind
        rw [e]
        rfl
      obtain ⟨d', w', e'⟩ := tree d w (by rw [← e2]; exact nostk)
      exact fin d' w' (e2.trans e')
    cases es : s.ρ[i]? with
    | none =>
      exfalso
      apply nostk
      show mbind (mres (.s i)) mrefd s.ρ s.S = _
      unfold mbind mres
      simp only [es]
    | some sl =>
      have hs := I.slots i sl es
      cases sl with
      | none =>
        exfalso
        apply nostk
        show mbind (mres (.s i)) mrefd s.ρ s.S = _
        unfold mbind mres
        simp only [es]
      | val d =>
        obtain ⟨v', e1, r⟩ := hs
        rw [hp] at e1; cases e1
        exact key d (.inl r) (by unfold mres; simp only [es])
      | own o =>
        obtain ⟨a, e1, r, _⟩ := hs
        rw [hp] at e1; cases e1
        cases em : moD o with
        | none =>
          exfalso
          apply nostk
          show mbind (mres (.s i)) mrefd s.ρ s.S = _
          unfold mbind mres
          simp only [es, em]
        | some d => exact key d (viaS o a r rfl d em) (by unfold mres; simp only [es, em])
      | lck o =>
        obtain ⟨a, e1, r, nm⟩ := hs
        rw [hp] at e1; cases e1
        have r2 : mrep g s.μ s.G H a o := by
          obtain ⟨u, q, nt⟩ := mrep_some r
          exact mrep_mono (Sub.refl _) (fun _ _ h => h) ((I.base a u q nm nt).trans q.symm) r
        cases em : moD o with
        | none =>
          exfalso
          apply nostk
          show mbind (mres (.s i)) mrefd s.ρ s.S = _
          unfold mbind mres
          simp only [es, em]
        | some d => exact key d (viaS o a r2 rfl d em) (by unfold mres; simp only [es, em])
/-- a fresh list is frozen -/
theorem Fresh.freeze {g : Gp} {l : List D} {v : V} (I : At g T s σ H) (h : Fresh g s σ H l v) : ∃ s', Le s s' ∧ s'.ρ = s.ρ ∧ s'.S = s.S ∧ At g T s' σ H ∧ rep g s'.μ s'.G (.lst l) v := by
  obtain ⟨p, vs, e, q, r, h1, h2, h3, h7, h4⟩ := h
  have sg : Sub s.G (upd s.G p (.lst vs)) := Sub.add h2
  exact ⟨{ s with G := upd s.G p (.lst vs) }, ⟨rfl, sg, fun _ _ h => h⟩, rfl, rfl, I.freeze q h1 h2 h3 h4 (fun ps z => nomatch z) h7, p, vs, e, upd_same, reps_mono sg (fun _ _ h => h) _ _ r⟩
theorem se_of_sf {m : M (List D)} (h : SF T W X e m) : SE T W X e (mbind m fun l => mret (.lst l)) := h.weak fun σ H Q ⟨s, I, q⟩ => ⟨s, I, q.bind.mono fun l s1 H1 le J q1 v fr => by
  obtain ⟨s2, l2, e1, e2, J2, r⟩ := fr.freeze J
  exact q1.ret' l2 e1 e2 J2 v r⟩
theorem sp_of_se {m : M D} (h : SE T W X e m) : SP T W X e (mbind m fun d => mret (.v d)) := h.weak fun σ H Q ⟨s, I, q⟩ => ⟨s, I, q.bind.mono fun d s1 H1 le J q1 v r => q1.ret J v r⟩
end
end MP

namespace MP
open PySem PySem.Spec L2
theorem sqT_sub {K : PySem.W.Frag} {G H : Hp} {a : Addr} {xs : List V} (s : Sub G H) (h : SqT K G a xs) : SqT K H a xs := by
  rcases h with h | h
  · exact .inl (h.elim (fun z => .inl (s _ _ z)) fun ⟨o, z⟩ => .inr ⟨o, s _ _ z⟩)
  · exact .inr h
theorem sqL_sub {K : PySem.W.Frag} {G H : Hp} {a : Addr} {xs : List V} (s : Sub G H) (h : SqL K G a xs) : SqL K H a xs := by
  rcases h with h | h
  · exact .inl (h.elim (fun z => .inl (s _ _ z)) fun ⟨o, z⟩ => .inr ⟨o, s _ _ z⟩)
  · exact .inr h
/-! ### trees as the library's data -/
mutual
def toP : D → PyData
  | .bl b => .bool b
  | .int i => .int i
  | .str x => .str x
  | .lst xs => .list (toPs xs)
  | .tup xs => .tuple (toPs xs)
  | _ => .none
def toPs : List D → List PyData
  | [] => []
  | x :: xs => toP x :: toPs xs
end
mutual
theorem toP_lay : ∀ d : D, (toP d).canLay0 = true ∨ lay d = false
  | .non => .inl rfl
  | .bl _ => .inl rfl
  | .int _ => .inl rfl
  | .str x => by
    cases e : PyData.strOk x with
    | true => exact .inl e
    | false => exact .inr e
  | .lst xs => (toPs_lay xs).imp id id
  | .tup xs => (toPs_lay xs).imp id id
  | .dct _ _ => .inr rfl
  | .fz _ => .inr rfl
  | .ref _ => .inr rfl
  | .fn _ => .inr rfl
  | .clo _ _ => .inr rfl
  | .exn _ => .inr rfl
theorem toPs_lay : ∀ ds : List D, PyData.canLayAll0 (toPs ds) = true ∨ lays ds = false
  | [] => .inl rfl
  | d :: ds => by
    rcases toP_lay d with h | h
    · rcases toPs_lay ds with h2 | h2
      · exact .inl (by show ((toP d).canLay0 && PyData.canLayAll0 (toPs ds)) = true; rw [h, h2]; rfl)
      · exact .inr (by show (lay d && lays ds) = false; rw [h2]; cases lay d <;> rfl)
    · exact .inr (by show (lay d && lays ds) = false; rw [h]; rfl)
end
mutual
theorem toP_dep : ∀ d : D, (toP d).depth ≤ dep d
  | .non => Nat.le_refl _
  | .bl _ => Nat.le_refl _
  | .int _ => Nat.le_refl _
  | .str x => Nat.le_refl _
  | .lst xs => Nat.succ_le_succ (toPs_dep xs)
  | .tup xs => Nat.succ_le_succ (toPs_dep xs)
  | .dct _ _ => Nat.le_refl _
  | .fz _ => Nat.le_refl _
  | .ref _ => Nat.le_refl _
  | .fn _ => Nat.le_refl _
  | .clo _ _ => Nat.le_refl _
  | .exn _ => Nat.le_refl _
theorem toPs_dep : ∀ ds : List D, PyData.depthAll (toPs ds) ≤ deps ds
  | [] => Nat.le_refl _
  | d :: ds => by
    show max (toP d).depth (PyData.depthAll (toPs ds)) ≤ max (dep d) (deps ds)
    have h1 := toP_dep d
    have h2 := toPs_dep ds
    omega
end
theorem shaped_of {d : D} (h : shp d = true) : SeqAt.shaped (toP d) = true := by
  unfold shp at h
  obtain ⟨h1, h2⟩ := Bool.and_eq_true_iff.mp h
  unfold SeqAt.shaped
  rw [Bool.and_eq_true]
  refine ⟨(toP_lay d).elim id fun z => absurd (z.symm.trans h1) (by decide), decide_eq_true ?_⟩
  exact Nat.le_trans (toP_dep d) (of_decide_eq_true h2)
theorem lay_of_shp {d : D} (h : shp d = true) : lay d = true := (Bool.and_eq_true_iff.mp h).1
mutual
theorem eqv_toP : ∀ a b : D, lay a = true → lay b = true → PyData.eqv (toP a) (toP b) = deq a b
  | .non, b, _, hb => by cases b <;> first | rfl | cases hb
  | .bl _, b, _, hb => by cases b <;> first | rfl | cases hb
  | .int _, b, _, hb => by cases b <;> first | rfl | cases hb
  | .str _, b, _, hb => by cases b <;> first | rfl | cases hb
  | .lst xs, .lst ys, ha, hb => eqv_toPs xs ys ha hb
  | .tup xs, .tup ys, ha, hb => eqv_toPs xs ys ha hb
  | .lst xs, .non, ha, hb => rfl
  | .lst xs, .bl _, ha, hb => rfl
  | .lst xs, .int _, ha, hb => rfl
  | .lst xs, .str _, ha, hb => rfl
  | .lst xs, .tup _, ha, hb => rfl
  | .tup xs, .non, ha, hb => rfl
  | .tup xs, .bl _, ha, hb => rfl
  | .tup xs, .int _, ha, hb => rfl
  | .tup xs, .str _, ha, hb => rfl
  | .tup xs, .lst _, ha, hb => rfl
  | _, .dct _ _, _, hb => nomatch hb
  | _, .fz _, _, hb => nomatch hb
  | _, .ref _, _, hb => nomatch hb
  | _, .fn _, _, hb => nomatch hb
  | _, .clo _ _, _, hb => nomatch hb
  | _, .exn _, _, hb => nomatch hb
  | .dct _ _, _, ha, _ => nomatch ha
  | .fz _, _, ha, _ => nomatch ha
  | .ref _, _, ha, _ => nomatch ha
  | .fn _, _, ha, _ => nomatch ha
  | .clo _ _, _, ha, _ => nomatch ha
  | .exn _, _, ha, _ => nomatch ha
theorem eqv_toPs : ∀ as bs : List D, lays as = true → lays bs = true → PyData.eqvAll (toPs as) (toPs bs) = deqs as bs
  | [], [], _, _ => rfl
  | [], _ :: _, _, _ => rfl
  | _ :: _, [], _, _ => rfl
  | a :: as, b :: bs, ha, hb => by
    obtain ⟨h1, h2⟩ := Bool.and_eq_true_iff.mp (show (lay a && lays as) = true from ha)
    obtain ⟨h3, h4⟩ := Bool.and_eq_true_iff.mp (show (lay b && lays bs) = true from hb)
    show (PyData.eqv (toP a) (toP b) && PyData.eqvAll (toPs as) (toPs bs)) = (deq a b && deqs as bs)
    rw [eqv_toP a b h1 h3, eqv_toPs as bs h2 h4]
end
mutual
theorem dp_of {g : Gp} {μ : List Addr} {G H : Hp} (s : Sub G H) : ∀ (d : D) (v : V), lay d = true → rep g μ G d v → Dp g.K H v (toP d)
  | .non, v, _, h => by rw [show v = .non from h]; exact .non
  | .bl b, v, _, h => by rw [show v = .bl b from h]; exact .bl b
  | .int b, v, _, h => by rw [show v = .int b from h]; exact .int b
  | .str b, v, _, h => by rw [show v = .str b from h]; exact .str b
  | .lst l, v, hl, ⟨a, vs, e, q, r⟩ => by rw [e]; exact .lst (SqL.of (s _ _ q)) (dps_of s l vs hl r)
  | .tup l, v, hl, ⟨a, vs, e, q, r⟩ => by rw [e]; exact .tup (sqT_sub s q) (dps_of s l vs hl r)
theorem dps_of {g : Gp} {μ : List Addr} {G H : Hp} (s : Sub G H) : ∀ (ds : List D) (vs : List V), lays ds = true → reps g μ G ds vs → DpAll g.K H vs (toPs ds)
  | [], vs, _, h => by rw [show vs = [] from h]; exact .nil
  | d :: ds, vs, hl, ⟨v, r, e, h1, h2⟩ => by
    obtain ⟨l1, l2⟩ := Bool.and_eq_true_iff.mp (show (lay d && lays ds) = true from hl)
    rw [e]; exact .cons (dp_of s d v l1 h1) (dps_of s ds r l2 h2)
end
section
variable {T : List NdefX.NTab} {X : Cx} {s : Sg} {σ : L2.St} {H : Hp}
theorem wdp {g : Gp} {d : D} {v : V} (hs : Sub s.G H) (hl : lay d = true) (h : wrep g s H d v) : Dp g.K H v (toP d) := by
  rcases h with h | ⟨l, a, vs, e, e2, q, r⟩
  · exact dp_of hs d v hl h
  · subst e e2
    exact .lst (SqL.of q) (dps_of hs l vs hl r)
/-- a new tuple -/
theorem At.newtup {g : Gp} {l : List D} {vs : List V} {p : Addr} (I : At g T s σ H) (hp : H p = none) (r : reps g s.μ s.G l vs) : ∃ s', Le s s' ∧ s'.ρ = s.ρ ∧ s'.S = s.S ∧ At g T s' σ (upd H p (.tup vs)) ∧ rep g s'.μ s'.G (.tup l) (.ref p) := by
  have sg : Sub s.G (upd s.G p (.tup vs)) := Sub.add (I.gh.none hp)
  exact ⟨{ s with G := upd s.G p (.tup vs) }, ⟨rfl, sg, fun _ _ h => h⟩, rfl, rfl, I.newG hp (fun ps z => nomatch z), p, vs, rfl, .inl (.inl upd_same), reps_mono sg (fun _ _ h => h) _ _ r⟩
theorem At.newlst {g : Gp} {l : List D} {vs : List V} {p : Addr} (I : At g T s σ H) (hp : H p = none) (r : reps g s.μ s.G l vs) : At g T s σ (upd H p (.lst vs)) ∧ Fresh g s σ (upd H p (.lst vs)) l (.ref p) :=
  ⟨I.fresh hp, p, vs, rfl, upd_same, r, I.nmu hp, I.gh.none hp, I.gone p hp, I.npin hp, fun i m h => I.own_ne hp h⟩
/-- what follows an operation -/
def Fin1 (g : Gp) (T : List NdefX.NTab) (s : Sg) (σ : L2.St) (d : D) (Q : VK) : Prop := ∀ s' H' v, Le s s' → s'.ρ = s.ρ → s'.S = s.S → At g T s' σ H' → rep g s'.μ s'.G d v → Q v H'
theorem Fin1.here {g : Gp} {d : D} {v : V} {Q : VK} (h : Fin1 g T s σ d Q) (I : At g T s σ H) (r : rep g s.μ s.G d v) : Q v H := h s H v (Le.refl _) rfl rfl I r
theorem Fin1.tup {g : Gp} {l : List D} {vs : List V} {p : Addr} {Q : VK} (h : Fin1 g T s σ (.tup l) Q) (I : At g T s σ H) (hp : H p = none) (r : reps g s.μ s.G l vs) : Q (.ref p) (upd H p (.tup vs)) := by
  obtain ⟨s', l, e1, e2, J, r'⟩ := I.newtup hp r
  exact h s' _ _ l e1 e2 J r'
def Fin2 (g : Gp) (T : List NdefX.NTab) (s : Sg) (σ : L2.St) (l : List D) (Q : VK) : Prop := ∀ s' H' v, Le s s' → s'.ρ = s.ρ → s'.S = s.S → At g T s' σ H' → Fresh g s' σ H' l v → Q v H'
theorem Fin2.lst {g : Gp} {l : List D} {vs : List V} {p : Addr} {Q : VK} (h : Fin2 g T s σ l Q) (I : At g T s σ H) (hp : H p = none) (r : reps g s.μ s.G l vs) : Q (.ref p) (upd H p (.lst vs)) := by
  obtain ⟨J, f⟩ := I.newlst hp r
  exact h s _ _ (Le.refl _) rfl rfl J f
/-! ### operators -/
def rBin (T : List NdefX.NTab) (g : Gp) (o : Operator) : R2 := fun x y H Q => ∃ σ s dx dy d, At g T s σ H ∧ wrep g s H dx x ∧ wrep g s H dy y ∧ opBin o dx dy = some d ∧ Fin1 g T s σ d Q
theorem wint {g : Gp} {i : Int} {v : V} (h : wrep g s H (.int i) v) : v = .int i := h.rep fun _ z => nomatch z
theorem wstr {g : Gp} {i : Str} {v : V} (h : wrep g s H (.str i) v) : v = .str i := h.rep fun _ z => nomatch z
theorem wbl {g : Gp} {i : Bool} {v : V} (h : wrep g s H (.bl i) v) : v = .bl i := h.rep fun _ z => nomatch z
theorem wnon {g : Gp} {v : V} (h : wrep g s H .non v) : v = .non := h.rep fun _ z => nomatch z
theorem wtup {g : Gp} {l : List D} {v : V} (h : wrep g s H (.tup l) v) : ∃ a vs, v = .ref a ∧ SqT g.K s.G a vs ∧ reps g s.μ s.G l vs := h.rep fun _ z => nomatch z
theorem wfz {g : Gp} {l : List D} {v : V} (h : wrep g s H (.fz l) v) : ∃ a vs, v = .ref a ∧ SqL g.K s.G a vs ∧ reps g s.μ s.G l vs := h.rep fun _ z => nomatch z
theorem okl {n : Nat} (h : okLen n = true) : n ≤ sizeLine := by rw [sizeLine_eq]; exact of_decide_eq_true h
theorem op_bin (o : Operator) : OpR X (binaryOp o) (rBin T X.gp o) := by
  intro pins st σ H x y v u Q I rx ry h
  obtain ⟨σ', s, dx, dy, d, A, wx, wy, e, fin⟩ := h
  unfold opBin at e
  split at e
  · obtain rfl := wint wx; obtain rfl := wint wy; cases e
    exact op_add pins st σ H _ _ v u Q I rx ry ⟨_, _, rfl, rfl, fin.here A rfl⟩
  · obtain rfl := wstr wx; obtain rfl := wstr wy
    split at e
    · rename_i hl
      cases e
      exact op_add_str pins st σ H _ _ v u Q I rx ry ⟨_, _, rfl, rfl, okl hl, fin.here A rfl⟩
    · cases e
  · obtain ⟨p, xs, rfl, q1, r1⟩ := wtup wx; obtain ⟨p2, ys, rfl, q2, r2⟩ := wtup wy
    split at e
    · rename_i hl
      cases e
      have e1 := reps_len r1
      have e2 := reps_len r2
      refine op_catA pins st σ H _ _ v u Q I rx ry ⟨p, p2, xs, ys, rfl, rfl, sqT_sub A.gh q1, sqT_sub A.gh q2, by rw [← e1, ← e2]; exact okl hl, fun ex => ?_, fun nx ey => ?_, fun nx ny p hp => fin.tup A hp (reps_append r1 r2)⟩
      · have : ∀ l, reps X.gp s.μ s.G l xs → l = [] := fun l r => List.eq_nil_of_length_eq_zero ((reps_len r).trans (by rw [ex]; rfl))
        rw [this _ r1, List.nil_append] at fin
        exact fin.here A ⟨p2, ys, rfl, q2, r2⟩
      · have : ∀ l, reps X.gp s.μ s.G l ys → l = [] := fun l r => List.eq_nil_of_length_eq_zero ((reps_len r).trans (by rw [ey]; rfl))
        rw [this _ r2, List.append_nil] at fin
        exact fin.here A ⟨p, xs, rfl, q1, r1⟩
    · cases e
  · obtain rfl := wint wx; obtain rfl := wint wy; cases e
    exact op_sub pins st σ H _ _ v u Q I rx ry ⟨_, _, rfl, rfl, fin.here A rfl⟩
  · obtain rfl := wint wx; obtain rfl := wint wy
    split at e
    · rename_i hl
      cases e
      exact op_mulW pins st σ H _ _ v u Q I rx ry ⟨_, _, rfl, rfl, (by unfold CMulW; exact of_decide_eq_true hl), fin.here A rfl⟩
    · cases e
  · obtain ⟨p, xs, rfl, q1, r1⟩ := wtup wx; obtain rfl := wint wy
    split at e
    · rename_i hl
      cases e
      obtain ⟨n1, n2, n3, n4⟩ := of_decide_eq_true hl
      refine op_repT pins st σ H _ _ v u Q I rx ry ⟨_, _, xs, rfl, rfl, sqT_sub A.gh q1, fun z => ?_, n2, n3, by rw [← reps_len r1]; exact n4, fun p hp => fin.tup A hp (reps_repl r1 _)⟩
      exact n1 (List.eq_nil_of_length_eq_zero ((reps_len r1).trans (by rw [z]; rfl)))
    · cases e
  · obtain rfl := wint wx; obtain rfl := wint wy
    split at e
    · rename_i hl
      cases e
      exact op_fdivW pins st σ H _ _ v u Q I rx ry ⟨_, _, rfl, rfl, (by unfold CDivW; exact of_decide_eq_true hl), fin.here A rfl⟩
    · cases e
  · obtain rfl := wint wx; obtain rfl := wint wy
    split at e
    · rename_i hl
      cases e
      exact op_mod pins st σ H _ _ v u Q I rx ry ⟨_, _, rfl, rfl, of_decide_eq_true hl, fin.here A rfl⟩
    · cases e
  · obtain rfl := wint wx; obtain rfl := wint wy
    split at e
    · rename_i hl
      cases e
      obtain ⟨n1, n2⟩ := of_decide_eq_true hl
      obtain ⟨t, rfl⟩ := rx
      obtain ⟨t', rfl⟩ := ry
      exact PyProof.Rows.pow_int n1 (by omega) ⟨.int _, H, I.tok _, ⟨_, rfl⟩, fin.here A rfl⟩
    · cases e
  · cases e
def rBinL (T : List NdefX.NTab) (g : Gp) (o : Operator) : R2 := fun x y H Q => ∃ σ s dx dy l, At g T s σ H ∧ wrep g s H dx x ∧ wrep g s H dy y ∧ opBinL o dx dy = some l ∧ Fin2 g T s σ l Q
theorem op_binL (o : Operator) : OpR X (binaryOp o) (rBinL T X.gp o) := by
  intro pins st σ H x y v u Q I rx ry h
  obtain ⟨σ', s, dx, dy, d, A, wx, wy, e, fin⟩ := h
  unfold opBinL at e
  split at e
  · obtain ⟨p, xs, rfl, q1, r1⟩ := wx.lst A.gh; obtain ⟨p2, ys, rfl, q2, r2⟩ := wy.lst A.gh
    split at e
    · rename_i hl
      cases e
      exact op_cat pins st σ H _ _ v u Q I rx ry ⟨p, p2, xs, ys, rfl, rfl, q1, q2, by rw [← reps_len r1, ← reps_len r2]; exact okl hl, fun p hp => fin.lst A hp (reps_append r1 r2)⟩
    · cases e
  · obtain ⟨p, xs, rfl, q1, r1⟩ := wx.lst A.gh; obtain rfl := wint wy
    split at e
    · rename_i hl
      cases e
      obtain ⟨n1, n2, n3⟩ := of_decide_eq_true hl
      exact op_rep pins st σ H _ _ v u Q I rx ry ⟨p, _, xs, rfl, rfl, q1, by omega, by omega, by rw [← reps_len r1, sizeLine_eq]; exact n3, fun p hp => fin.lst A hp (reps_repl r1 _)⟩
    · cases e
  · cases e
def rCmp (T : List NdefX.NTab) (g : Gp) (o : CmpOp) : R2 := fun x y H Q => ∃ σ s dx dy b, At g T s σ H ∧ wrep g s H dx x ∧ wrep g s H dy y ∧ opCmp o dx dy = some b ∧ Q (.bl b) H
theorem isnon {g : Gp} {d : D} {v : V} (h : wrep g s H d v) : decide (v = .non) = isNon d := by
  rcases h with h | ⟨l, a, vs, e, e2, q, r⟩
  · cases d with
    | non => rw [show v = .non from h]; rfl
    | bl b => rw [show v = .bl b from h]; rfl
    | int b => rw [show v = .int b from h]; rfl
    | str b => rw [show v = .str b from h]; rfl
    | tup l => obtain ⟨a, vs, e, _⟩ := h; rw [e]; rfl
    | lst l => obtain ⟨a, vs, e, _⟩ := h; rw [e]; rfl
    | fz l => obtain ⟨a, vs, e, _⟩ := h; rw [e]; rfl
    | ref l => obtain ⟨a, e, _⟩ := h; rw [e]; rfl
    | fn l => obtain ⟨a, e, _⟩ := h; rw [e]; rfl
    | dct _ _ => exact h.elim
    | clo _ _ => exact h.elim
    | exn _ => exact h.elim
  · subst e e2; rfl
theorem any_toPs (a : D) (ha : lay a = true) : ∀ l : List D, lays l = true → (toPs l).any (fun z => PyData.eqv z (toP a)) = l.any fun z => deq z a
  | [], _ => rfl
  | d :: l, h => by
    obtain ⟨h1, h2⟩ := Bool.and_eq_true_iff.mp (show (lay d && lays l) = true from h)
    show (PyData.eqv (toP d) (toP a) || (toPs l).any _) = (deq d a || l.any _)
    rw [eqv_toP d a h1 ha, any_toPs a ha l h2]
theorem room_in {A : Around} {d : D} {l : List PyData} (h : shp d = true) (hu : A.units + 70 < cLine) : A.units + 1 + min (PyData.depthAll l) (toP d).depth < cLine := by
  have h1 := SeqAt.depth_of_shaped (shaped_of h)
  have h2 : min (PyData.depthAll l) (toP d).depth ≤ (toP d).depth := Nat.min_le_right _ _
  omega
theorem op_cmp (hu : X.A.units + 70 < cLine) (o : CmpOp) : OpR X (compareOp o) (rCmp T X.gp o) := by
  intro pins st σ H x y v u Q I rx ry h
  obtain ⟨σ', s, dx, dy, b, A, wx, wy, e, fin⟩ := h
  unfold opCmp at e
  split at e
  · split at e
    · rename_i hl
      cases e
      obtain ⟨h1, h2⟩ := Bool.and_eq_true_iff.mp hl
      have q1 := wdp A.gh (lay_of_shp h1) wx
      have q2 := wdp A.gh (lay_of_shp h2) wy
      exact op_eqD (by omega) pins st σ H _ _ v u Q I rx ry ⟨_, _, q1, q2, shaped_of h1, shaped_of h2, by rw [eqv_toP _ _ (lay_of_shp h1) (lay_of_shp h2)]; exact fin⟩
    · cases e
  · split at e
    · rename_i hl
      cases e
      obtain ⟨h1, h2⟩ := Bool.and_eq_true_iff.mp hl
      have q1 := wdp A.gh (lay_of_shp h1) wx
      have q2 := wdp A.gh (lay_of_shp h2) wy
      exact op_neD (by omega) pins st σ H _ _ v u Q I rx ry ⟨_, _, q1, q2, shaped_of h1, shaped_of h2, by rw [eqv_toP _ _ (lay_of_shp h1) (lay_of_shp h2)]; exact fin⟩
    · cases e
  · obtain rfl := wint wx; obtain rfl := wint wy; cases e
    exact op_lt pins st σ H _ _ v u Q I rx ry ⟨_, _, rfl, rfl, fin⟩
  · obtain rfl := wint wx; obtain rfl := wint wy; cases e
    exact op_le pins st σ H _ _ v u Q I rx ry ⟨_, _, rfl, rfl, fin⟩
  · obtain rfl := wint wx; obtain rfl := wint wy; cases e
    exact op_gt pins st σ H _ _ v u Q I rx ry ⟨_, _, rfl, rfl, fin⟩
  · obtain rfl := wint wx; obtain rfl := wint wy; cases e
    exact op_ge pins st σ H _ _ v u Q I rx ry ⟨_, _, rfl, rfl, fin⟩
  · obtain rfl := wnon wy; cases e
    exact op_isN pins st σ H _ _ v u Q I rx ry ⟨rfl, by rw [isnon wx]; exact fin⟩
  · obtain rfl := wnon wy; cases e
    exact op_notN pins st σ H _ _ v u Q I rx ry ⟨rfl, by rw [isnon wx]; exact fin⟩
  · obtain rfl := wstr wx; obtain rfl := wstr wy; cases e
    exact op_in_str pins st σ H _ _ v u Q I rx ry ⟨_, _, rfl, rfl, fin⟩
  · obtain rfl := wstr wx; obtain rfl := wstr wy; cases e
    exact op_notIn_str pins st σ H _ _ v u Q I rx ry ⟨_, _, rfl, rfl, by rw [Bool.not_not]; exact fin⟩
  · split at e
    · rename_i hl
      cases e
      obtain ⟨h1, h2⟩ := Bool.and_eq_true_iff.mp hl
      have q1 := wdp A.gh (lay_of_shp h1) wx
      have q2 := wdp A.gh (lay_of_shp h2) wy
      exact op_inD (by omega) pins st σ H _ _ v u Q I rx ry ⟨_, _, q1, q2, shaped_of h1, shaped_of h2, by rw [any_toPs _ (lay_of_shp h1) _ (lay_of_shp h2)]; exact fin⟩
    · cases e
  · split at e
    · rename_i hl
      cases e
      obtain ⟨h1, h2⟩ := Bool.and_eq_true_iff.mp hl
      have q1 := wdp A.gh (lay_of_shp h1) wx
      have q2 := wdp A.gh (lay_of_shp h2) wy
      exact op_notInD (by omega) pins st σ H _ _ v u Q I rx ry ⟨_, _, q1, q2, shaped_of h1, shaped_of h2, by rw [any_toPs _ (lay_of_shp h1) _ (lay_of_shp h2)]; exact fin⟩
    · cases e
  · split at e
    · rename_i hl
      cases e
      obtain ⟨h1, h2⟩ := Bool.and_eq_true_iff.mp hl
      obtain ⟨as, r1⟩ := Dp.reads I _ _ _ (wdp A.gh (lay_of_shp h1) wx) rx
      obtain ⟨bs, r2⟩ := Dp.reads I _ _ _ (wdp A.gh (lay_of_shp h2) wy) ry
      exact SeqAt.in_tuple_reads r2 r1 (SeqAt.canLay_of_shaped (shaped_of h2)) (SeqAt.canLay_of_shaped (shaped_of h1)) (room_in h1 hu) ⟨.bl _, H, I, rfl, by rw [any_toPs _ (lay_of_shp h1) _ (lay_of_shp h2)]; exact fin⟩
    · cases e
  · split at e
    · rename_i hl
      cases e
      obtain ⟨h1, h2⟩ := Bool.and_eq_true_iff.mp hl
      obtain ⟨as, r1⟩ := Dp.reads I _ _ _ (wdp A.gh (lay_of_shp h1) wx) rx
      obtain ⟨bs, r2⟩ := Dp.reads I _ _ _ (wdp A.gh (lay_of_shp h2) wy) ry
      exact SeqAt.notIn_tuple_reads r2 r1 (SeqAt.canLay_of_shaped (shaped_of h2)) (SeqAt.canLay_of_shaped (shaped_of h1)) (room_in h1 hu) ⟨.bl _, H, I, rfl, by rw [any_toPs _ (lay_of_shp h1) _ (lay_of_shp h2)]; exact fin⟩
    · cases e
  · cases e
end
end MP

namespace MP
open PySem PySem.Spec L2
section
variable {T : List NdefX.NTab} {X : Cx} {s : Sg} {σ : L2.St} {H : Hp}
theorem tru_of {d : D} {v : V} {k : Bool} (hs : Sub s.G H) (h : wrep X.gp s H d v) (e : tru d = some k) : TruV X.K v H k := by
  cases d with
  | non => cases e; rw [wnon h]; exact rfl
  | bl b => cases e; rw [wbl h]; exact rfl
  | int b => cases e; rw [wint h]; exact rfl
  | str b =>
    rw [wstr h]
    unfold tru at e
    simp only at e
    split at e
    · rename_i hl; cases e; exact ⟨okl hl, rfl⟩
    · cases e
  | tup l =>
    cases e
    obtain ⟨a, vs, rfl, q, r⟩ := wtup h
    refine .inr (.inl ⟨vs, sqT_sub hs q, ?_⟩)
    cases l with
    | nil => rw [show vs = [] from r]; rfl
    | cons d l => obtain ⟨_, _, e, _⟩ := r; rw [e]; rfl
  | lst l =>
    cases e
    obtain ⟨a, vs, rfl, q, r⟩ := h.lst hs
    refine .inl ⟨vs, SqL.of q, ?_⟩
    cases l with
    | nil => rw [show vs = [] from r]; rfl
    | cons d l => obtain ⟨_, _, e, _⟩ := r; rw [e]; rfl
  | fz _ => cases e
  | dct _ _ => cases e
  | ref _ => cases e
  | fn _ => cases e
  | clo _ _ => cases e
  | exn _ => cases e
/-! ### items -/
theorem ixD_eq (n : Nat) (i : Int) : ixD n i = ixN n i := rfl
theorem atD_at {g : Gp} {l : List D} {vs : List V} {i : Int} {d : D} (r : reps g s.μ s.G l vs) (e : atD l i = some d) : ∃ v, atI vs i = some v ∧ rep g s.μ s.G d v := by
  unfold atD at e
  obtain ⟨j, e1, e2⟩ := Option.bind_eq_some_iff.mp e
  obtain ⟨v, h1, h2⟩ := reps_get r e2
  refine ⟨v, ?_, h2⟩
  unfold atI
  rw [← reps_len r, ← ixD_eq, e1]
  exact h1
def rIdx (T : List NdefX.NTab) (g : Gp) : R2 := fun x y H Q => ∃ σ s dx dy d, At g T s σ H ∧ wrep g s H dx x ∧ wrep g s H dy y ∧ opIdx dx dy = some d ∧ Fin1 g T s σ d Q
theorem ix_idx : IxR X (rIdx T X.gp) := by
  intro value slice pins st σ H x y v u Q I rx ry h hs
  obtain ⟨σ', s, dx, dy, d, A, wx, wy, e, fin⟩ := h
  unfold opIdx at e
  split at e
  · obtain ⟨p, xs, rfl, q1, r1⟩ := wx.lst A.gh; obtain rfl := wint wy
    obtain ⟨z, h1, h2⟩ := atD_at r1 e
    exact ix_list value slice pins st σ H _ _ v u Q I rx ry ⟨p, xs, _, z, rfl, rfl, SqL.of q1, h1, fin.here A h2⟩ hs
  · obtain ⟨p, xs, rfl, q1, r1⟩ := wtup wx; obtain rfl := wint wy
    obtain ⟨z, h1, h2⟩ := atD_at r1 e
    exact ix_tup value slice pins st σ H _ _ v u Q I rx ry ⟨p, xs, _, z, rfl, rfl, sqT_sub A.gh q1, h1, fin.here A h2⟩ hs
  · obtain ⟨p, xs, rfl, q1, r1⟩ := wfz wx; obtain rfl := wint wy
    obtain ⟨z, h1, h2⟩ := atD_at r1 e
    exact ix_list value slice pins st σ H _ _ v u Q I rx ry ⟨p, xs, _, z, rfl, rfl, sqL_sub A.gh q1, h1, fin.here A h2⟩ hs
  · obtain rfl := wstr wx; obtain rfl := wint wy
    split at e
    · rename_i hl
      obtain ⟨j, e1, e2⟩ := Option.bind_eq_some_iff.mp e
      obtain ⟨c, e3, e4⟩ := Option.map_eq_some_iff.mp e2
      subst e4
      refine ix_str value slice pins st σ H _ _ v u Q I rx ry ⟨_, _, c, rfl, rfl, okl hl, ?_, fin.here A rfl⟩ hs
      unfold atI
      rw [show (Array.toList _).length = _ from Array.length_toList, ← ixD_eq, show ixD (Array.size _) _ = some j from e1]
      exact e3
    · cases e
  · cases e
/-! ### slices -/
def partD : D → Option Int → Prop
  | .non, o => o = none
  | .int i, o => o = some i
  | _, _ => False
theorem slD_of {n d k : Nat} {x : D} {o : Option Int} (h : partD x o) (e : slD n d x = some k) : HT.sIx n d o = k := by
  cases x <;> first | exact h.elim | skip
  · rw [show o = none from h]; cases e; rfl
  · rw [show o = some _ from h]; cases e; rfl
theorem cut_of {l l' : List D} {vs : List V} {g : Gp} {i j : D} {lo hi : Option Int} (r : reps g s.μ s.G l vs) (e : cutD l i j = some l') (h1 : partD i lo) (h2 : partD j hi) : reps g s.μ s.G l' (cutV vs lo hi) := by
  unfold cutD at e
  obtain ⟨a, e1, e2⟩ := Option.bind_eq_some_iff.mp e
  obtain ⟨b, e3, e4⟩ := Option.map_eq_some_iff.mp e2
  subst e4
  unfold cutV
  rw [← reps_len r, slD_of h1 e1, slD_of h2 e3]
  exact reps_take _ (reps_drop _ r)
def rSlc (T : List NdefX.NTab) (g : Gp) : V → Option Int → Option Int → Hp → VK → Prop := fun x lo hi H Q => ∃ σ s l i j l', At g T s σ H ∧ wrep g s H (.tup l) x ∧ partD i lo ∧ partD j hi ∧ cutD l i j = some l' ∧ Fin1 g T s σ (.tup l') Q
theorem sl_slc : SlR X (rSlc T X.gp) := by
  intro pins st σ H x v vl vu lo hi sl Q I rx hs pl pu h
  obtain ⟨σ', s, l, i, j, l', A, wx, h1, h2, e, fin⟩ := h
  obtain ⟨p, xs, rfl, q1, r1⟩ := wtup wx
  have rc := cut_of r1 e h1 h2
  by_cases hw : HT.sIx xs.length 0 lo = 0 ∧ HT.sIx xs.length xs.length hi = xs.length
  · refine sl_tupA pins st σ H _ v vl vu lo hi sl Q I rx hs pl pu ⟨p, xs, rfl, sqT_sub A.gh q1, fun _ => ?_, fun n => absurd hw n⟩
    have ec : cutV xs lo hi = xs := by
      unfold cutV
      rw [hw.1, hw.2]
      simp
    rw [ec] at rc
    exact fin.here A ⟨p, xs, rfl, q1, rc⟩
  · exact sl_tup pins st σ H _ v vl vu lo hi sl Q I rx hs pl pu ⟨p, xs, rfl, sqT_sub A.gh q1, hw, fun p hp => fin.tup A hp rc⟩
def rSlcL (T : List NdefX.NTab) (g : Gp) : V → Option Int → Option Int → Hp → VK → Prop := fun x lo hi H Q => ∃ σ s l i j l', At g T s σ H ∧ wrep g s H (.lst l) x ∧ partD i lo ∧ partD j hi ∧ cutD l i j = some l' ∧ Fin2 g T s σ l' Q
theorem sl_slcL : SlR X (rSlcL T X.gp) := by
  intro pins st σ H x v vl vu lo hi sl Q I rx hs pl pu h
  obtain ⟨σ', s, l, i, j, l', A, wx, h1, h2, e, fin⟩ := h
  obtain ⟨p, xs, rfl, q1, r1⟩ := wx.lst A.gh
  exact sl_list pins st σ H _ v vl vu lo hi sl Q I rx hs pl pu ⟨p, xs, rfl, SqL.of q1, fun p hp => fin.lst A hp (cut_of r1 e h1 h2)⟩
/-! ### built-ins -/
theorem blsV {g : Gp} : ∀ {l : List D} {bs : List Bool} {vs : List V}, allBl l = some bs → reps g s.μ s.G l vs → vs = bs.map V.bl
  | [], bs, vs, e, r => by cases e; rw [show vs = [] from r]; rfl
  | .bl b :: l, bs, vs, e, ⟨v, r, e2, h1, h2⟩ => by
    obtain ⟨bs', e3, e4⟩ := Option.map_eq_some_iff.mp (show (allBl l).map (b :: ·) = some bs from e)
    subst e4
    rw [e2, show v = .bl b from h1, blsV e3 h2]
    rfl
  | .non :: l, _, _, e, _ => nomatch e
  | .int _ :: l, _, _, e, _ => nomatch e
  | .str _ :: l, _, _, e, _ => nomatch e
  | .tup _ :: l, _, _, e, _ => nomatch e
  | .lst _ :: l, _, _, e, _ => nomatch e
  | .dct _ _ :: l, _, _, e, _ => nomatch e
  | .fz _ :: l, _, _, e, _ => nomatch e
  | .ref _ :: l, _, _, e, _ => nomatch e
  | .fn _ :: l, _, _, e, _ => nomatch e
  | .clo _ _ :: l, _, _, e, _ => nomatch e
  | .exn _ :: l, _, _, e, _ => nomatch e
theorem strsV {g : Gp} : ∀ {l : List D} {bs : List Str} {vs : List V}, allStr l = some bs → reps g s.μ s.G l vs → vs = bs.map V.str
  | [], bs, vs, e, r => by cases e; rw [show vs = [] from r]; rfl
  | .str b :: l, bs, vs, e, ⟨v, r, e2, h1, h2⟩ => by
    obtain ⟨bs', e3, e4⟩ := Option.map_eq_some_iff.mp (show (allStr l).map (b :: ·) = some bs from e)
    subst e4
    rw [e2, show v = .str b from h1, strsV e3 h2]
    rfl
  | .non :: l, _, _, e, _ => nomatch e
  | .int _ :: l, _, _, e, _ => nomatch e
  | .bl _ :: l, _, _, e, _ => nomatch e
  | .tup _ :: l, _, _, e, _ => nomatch e
  | .lst _ :: l, _, _, e, _ => nomatch e
  | .dct _ _ :: l, _, _, e, _ => nomatch e
  | .fz _ :: l, _, _, e, _ => nomatch e
  | .ref _ :: l, _, _, e, _ => nomatch e
  | .fn _ :: l, _, _, e, _ => nomatch e
  | .clo _ _ :: l, _, _, e, _ => nomatch e
  | .exn _ :: l, _, _, e, _ => nomatch e
theorem strs_rep {g : Gp} {μ : List Addr} {G : Hp} : ∀ ys : List Str, reps g μ G (ys.map D.str) (ys.map V.str)
  | [] => rfl
  | y :: ys => ⟨_, _, rfl, rfl, strs_rep ys⟩
abbrev wreps (g : Gp) (s : Sg) (H : Hp) : List D → List V → Prop := Paired (wrep g s H)
theorem w1 {g : Gp} {d : D} {xs : List V} (h : wreps g s H [d] xs) : ∃ x, xs = [x] ∧ wrep g s H d x := by
  cases h with
  | cons r t => cases t; exact ⟨_, rfl, r⟩
theorem w2 {g : Gp} {d d' : D} {xs : List V} (h : wreps g s H [d, d'] xs) : ∃ x y, xs = [x, y] ∧ wrep g s H d x ∧ wrep g s H d' y := by
  cases h with
  | cons r t => cases t with
    | cons r' t' => cases t'; exact ⟨_, _, rfl, r, r'⟩
def blName : Bl → Str × Value
  | .len => ("len", .builtin "len")
  | .abs => ("abs", .builtin "abs")
  | .int => ("int", .type "int")
  | .all => ("all", .builtin "all")
  | .any => ("any", .builtin "any")
  | .max2 => ("max", .builtin "max")
  | .min2 => ("min", .builtin "min")
  | .tuple => ("tuple", .type "tuple")
  | .str => ("str", .type "str")
  | .sum => ("sum", .builtin "sum")
  | .max => ("max", .builtin "max")
  | .min => ("min", .builtin "min")
def rBl (T : List NdefX.NTab) (g : Gp) (b : Bl) : List V → Hp → VK → Prop := fun xs H Q => ∃ σ s ds d, At g T s σ H ∧ wreps g s H ds xs ∧ opBl b ds = some d ∧ Fin1 g T s σ d Q
theorem call_bl (hc : X.calm = true) (b : Bl) : CallR X (blName b).2 (rBl T X.gp b) := by
  intro pins st σ H xs us Q I r h
  obtain ⟨σ', s, ds, d, A, w, e, fin⟩ := h
  unfold opBl at e
  split at e
  · obtain ⟨x, rfl, wx⟩ := w1 w
    obtain ⟨p, vs, rfl, q1, r1⟩ := wx.lst A.gh
    cases e
    exact call_len_seq pins st σ H _ us Q I r ⟨p, vs, rfl, .inl (SqL.of q1), fin.here A (by rw [reps_len r1]; exact rfl)⟩
  · obtain ⟨x, rfl, wx⟩ := w1 w
    obtain ⟨p, vs, rfl, q1, r1⟩ := wtup wx
    cases e
    exact call_len_seq pins st σ H _ us Q I r ⟨p, vs, rfl, .inr (sqT_sub A.gh q1), fin.here A (by rw [reps_len r1]; exact rfl)⟩
  · obtain ⟨x, rfl, wx⟩ := w1 w
    obtain ⟨p, vs, rfl, q1, r1⟩ := wfz wx
    cases e
    exact call_len_seq pins st σ H _ us Q I r ⟨p, vs, rfl, .inl (sqL_sub A.gh q1), fin.here A (by rw [reps_len r1]; exact rfl)⟩
  · obtain ⟨x, rfl, wx⟩ := w1 w
    obtain rfl := wstr wx
    split at e
    · rename_i hl
      cases e
      exact call_len_str pins st σ H _ us Q I r ⟨_, rfl, okl hl, fin.here A rfl⟩
    · cases e
  · obtain ⟨x, rfl, wx⟩ := w1 w
    obtain rfl := wint wx
    cases e
    exact call_abs pins st σ H _ us Q I r ⟨_, rfl, fin.here A rfl⟩
  · obtain ⟨x, rfl, wx⟩ := w1 w
    obtain rfl := wint wx
    cases e
    exact call_int1 pins st σ H _ us Q I r (.inl ⟨_, rfl, fin.here A rfl⟩)
  · obtain ⟨x, rfl, wx⟩ := w1 w
    obtain rfl := wbl wx
    cases e
    exact call_int1 pins st σ H _ us Q I r (.inr ⟨_, rfl, fin.here A rfl⟩)
  · obtain ⟨x, rfl, wx⟩ := w1 w
    obtain rfl := wstr wx
    split at e
    · rename_i hl
      obtain ⟨n, e1, e2⟩ := Option.map_eq_some_iff.mp e
      subst e2
      exact call_int_str pins st σ H _ us Q I r ⟨_, _, rfl, e1, of_decide_eq_true hl, fin.here A rfl⟩
    · cases e
  · obtain ⟨x, rfl, wx⟩ := w1 w
    obtain ⟨p, vs, rfl, q1, r1⟩ := wx.lst A.gh
    obtain ⟨bs, e1, e2⟩ := Option.map_eq_some_iff.mp e
    subst e2
    have ev := blsV e1 r1
    subst ev
    exact cr_all hc pins st σ H _ us Q I r ⟨p, bs, rfl, SqL.of q1, fin.here A rfl⟩
  · obtain ⟨x, rfl, wx⟩ := w1 w
    obtain ⟨p, vs, rfl, q1, r1⟩ := wx.lst A.gh
    obtain ⟨bs, e1, e2⟩ := Option.map_eq_some_iff.mp e
    subst e2
    have ev := blsV e1 r1
    subst ev
    exact cr_any hc pins st σ H _ us Q I r ⟨p, bs, rfl, SqL.of q1, fin.here A rfl⟩
  · obtain ⟨x, y, rfl, wx, wy⟩ := w2 w
    obtain rfl := wint wx; obtain rfl := wint wy
    cases e
    exact call_max2 hc pins st σ H _ us Q I r ⟨_, _, rfl, fin.here A rfl⟩
  · obtain ⟨x, y, rfl, wx, wy⟩ := w2 w
    obtain rfl := wint wx; obtain rfl := wint wy
    cases e
    exact call_min2 hc pins st σ H _ us Q I r ⟨_, _, rfl, fin.here A rfl⟩
  · obtain ⟨x, rfl, wx⟩ := w1 w
    obtain ⟨p, vs, rfl, q1, r1⟩ := wx.lst A.gh
    cases e
    exact call_tuple_of pins st σ H _ us Q I r ⟨p, vs, rfl, .inl ⟨SqL.of q1, fun l hl => fin.tup A hl r1⟩⟩
  · obtain ⟨x, rfl, wx⟩ := w1 w
    obtain ⟨p, vs, rfl, q1, r1⟩ := wtup wx
    cases e
    exact call_tuple_of pins st σ H _ us Q I r ⟨p, vs, rfl, .inr ⟨sqT_sub A.gh q1, fin.here A ⟨p, vs, rfl, q1, r1⟩⟩⟩
  · obtain ⟨x, rfl, wx⟩ := w1 w
    obtain rfl := wint wx
    split at e
    · rename_i hl
      cases e
      exact call_str_int pins st σ H _ us Q I r ⟨_, rfl, of_decide_eq_true hl, fin.here A rfl⟩
    · cases e
  · cases e
def rFlC (T : List NdefX.NTab) (g : Gp) (b : Fl1) : List V → Hp → VK → Prop := fun xs H Q => ∃ σ s ds l, At g T s σ H ∧ wreps g s H ds xs ∧ opFl b ds = some l ∧ Fin2 g T s σ l Q
theorem call_list : CallR X (.type "list") (rFlC T X.gp .list) := by
  intro pins st σ H xs us Q I r h
  obtain ⟨σ', s, ds, d, A, w, e, fin⟩ := h
  unfold opFl at e
  split at e
  · obtain ⟨x, rfl, wx⟩ := w1 w
    obtain ⟨p, vs, rfl, q1, r1⟩ := wx.lst A.gh
    cases e
    exact call_list_of pins st σ H _ us Q I r ⟨p, vs, rfl, .inl (SqL.of q1), fun l hl => fin.lst A hl r1⟩
  · obtain ⟨x, rfl, wx⟩ := w1 w
    obtain ⟨p, vs, rfl, q1, r1⟩ := wtup wx
    cases e
    exact call_list_of pins st σ H _ us Q I r ⟨p, vs, rfl, .inr (sqT_sub A.gh q1), fun l hl => fin.lst A hl r1⟩
  · cases e
/-! ### methods of texts -/
def rMt (T : List NdefX.NTab) (g : Gp) (m : Mt) : V → List V → Hp → VK → Prop := fun x xs H Q => ∃ σ s dx ds d, At g T s σ H ∧ wrep g s H dx x ∧ wreps g s H ds xs ∧ opMt m dx ds = some d ∧ Fin1 g T s σ d Q
theorem mt_join' : MtR X "str.join" (rMt T X.gp .join) := by
  intro pins st σ H x xs v us Q I rx r h
  obtain ⟨σ', s, dx, ds, d, A, wx, w, e, fin⟩ := h
  unfold opMt at e
  split at e
  · obtain rfl := wstr wx
    obtain ⟨y, rfl, wy⟩ := w1 w
    obtain ⟨p, vs, rfl, q1, r1⟩ := wy.lst A.gh
    obtain ⟨ys, e1, e2⟩ := Option.bind_eq_some_iff.mp e
    have ev := strsV e1 r1
    subst ev
    split at e2
    · rename_i hl
      cases e2
      exact mt_join pins st σ H _ _ v us Q I rx r ⟨_, p, ys, rfl, rfl, .inl (SqL.of q1), of_decide_eq_true hl, fin.here A rfl⟩
    · cases e2
  · cases e
def rMtF (T : List NdefX.NTab) (g : Gp) (m : MtF) : V → List V → Hp → VK → Prop := fun x xs H Q => ∃ σ s dx ds l, At g T s σ H ∧ wrep g s H dx x ∧ wreps g s H ds xs ∧ opMtF m dx ds = some l ∧ Fin2 g T s σ l Q
theorem mt_split' : MtR X "str.split" (rMtF T X.gp .split) := by
  intro pins st σ H x xs v us Q I rx r h
  obtain ⟨σ', s, dx, ds, l, A, wx, w, e, fin⟩ := h
  unfold opMtF at e
  split at e
  · obtain rfl := wstr wx
    obtain ⟨y, rfl, wy⟩ := w1 w
    obtain rfl := wstr wy
    split at e
    · rename_i hl
      cases e
      obtain ⟨h1, h2⟩ := Bool.and_eq_true_iff.mp hl
      exact mt_split pins st σ H _ _ v us Q I rx r ⟨_, _, rfl, rfl, by simpa using h1, okl h2, fun p hp => fin.lst A hp (strs_rep _)⟩
    · cases e
  · cases e
/-! ### isinstance -/
def tyOf : D → Option String
  | .non => some "NoneType"
  | .bl _ => some "bool"
  | .int _ => some "int"
  | .str _ => some "str"
  | .tup _ => some "tuple"
  | .lst _ => some "list"
  | _ => none
end
end MP

namespace MP
open PySem PySem.Spec L2
/-- what is told of the names around a body -/
structure Gam where
  N : List Str
  sc : Scope
  sto : List Str
  fns : List Str
  gcs : List (Str × D)
  blt : List Str
/-- a call that the evaluator can do, done by the machine -/
def CallsR (T : List NdefX.NTab) (X : Cx) (W : WX) (cl : Calls) : Prop :=
  ∀ (x : Str) (f : Addr) (pins : List (Addr × Obj)) (st : Shared) (σ : L2.St) (H : Hp) (ds kds : List D) (ks : List Str) (us ws : List Value) (vs zs : List V) (s : Sg) (Q : VK),
    X.mg x = some (.ref f) → Inv X pins σ H st → Vals vs us → Vals zs ws → kds.length = ks.length → At X.gp T s σ H → reps X.gp s.μ s.G ds vs → reps X.gp s.μ s.G kds zs →
    Aft X.gp T W (lift0 (cl.f x ds ks kds)) s σ (fun d s' H' => ∀ v, rep X.gp s'.μ s'.G d v → Q v H') →
    wpAny (model X.prog X.w) X.A (call (.ref f) us (ks.zip ws)) (EP X pins σ Q) X.xe st
structure Gd (T : List NdefX.NTab) (X : Cx) (Γ : Gam) (W : WX) (cl : Calls) : Prop where
  N : X.N = Γ.N
  nd : Γ.N.Nodup
  sc : X.env.scope = Γ.sc
  calm : X.calm = true
  tk : Takes X W
  own : PassesOwn (model X.prog X.w) X.A X.env X.xe
  hu : X.A.units + 70 < cLine
  gcs : ∀ q ∈ Γ.gcs, ∃ u v, X.mg q.1 = some u ∧ RelV v u ∧ ∀ μ G, rep X.gp μ G q.2 v
  fns : ∀ x ∈ Γ.fns, ∃ f, X.mg x = some (.ref f) ∧ PySem.W.keepIn X.K (.ref f) = true
  blt : ∀ x ∈ Γ.blt, X.mg x = none
  sto : ∀ x ∈ Γ.sto, Loc X.env.scope x ∧ (X.fn x = true ∨ X.env.scope.names.lookup x = some .local)
  calls : ∀ (X' : Cx) (W' : WX), X'.gp = X.gp → X'.A = X.A → Takes X' W' → CallsR T X' W' cl
section
variable {T : List NdefX.NTab} {W : WX} {X : Cx} {Γ : Gam} {cl : Calls} {e a b : Expr} {pos : Pos}
theorem r_ret {d : D} {v : V} (h : PE X e (tC v)) (r : ∀ μ G, rep X.gp μ G d v) : SE T W X e (mret d) := h.weak fun σ H Q ⟨s, I, q⟩ => q.ret I v (r _ _)
theorem r_var {i : Nat} {x : Str} (hN : X.N[i]? = some x) (hv : Vis X.env.scope x) (hd : (x == ("__debug__" : Str)) = false) (hcd : (x == ("__classdict__" : Str)) = false) : SE T W X (.Name x pos) (take i) :=
  (pe_var hN hv hd hcd).weak fun σ H Q ⟨s, I, q⟩ => by
    unfold Aft take at q
    cases es : s.ρ[i]? with
    | none => simp only [es] at q
    | some sl =>
      cases sl with
      | none => simp only [es] at q
      | lck o => simp only [es] at q
      | val d =>
        simp only [es] at q
        obtain ⟨v, e1, r⟩ := I.slots i _ es
        exact ⟨v, e1, q s H (Le.refl _) rfl rfl I v r⟩
      | own o =>
        cases o with
        | dct _ _ => simp only [es] at q
        | ins _ _ => simp only [es] at q
        | lst l =>
          simp only [es] at q
          obtain ⟨p, vs, e1, sg, J, r⟩ := I.frzslot es
          exact ⟨_, e1, q { s with G := upd s.G p (.lst vs), ρ := s.ρ.set i (.val (.lst l)) } H ⟨rfl, sg, fun _ _ h => h⟩ rfl rfl J _ r⟩
theorem r_peek {i : Nat} {x : Str} (hN : X.N[i]? = some x) (hv : Vis X.env.scope x) (hd : (x == ("__debug__" : Str)) = false) (hcd : (x == ("__classdict__" : Str)) = false) : SP T W X (.Name x pos) (peek i) :=
  (pe_var hN hv hd hcd).weak fun σ H Q ⟨s, I, q⟩ => by
    unfold Aft peek at q
    cases es : s.ρ[i]? with
    | none => simp only [es] at q
    | some sl =>
      cases sl with
      | none => simp only [es] at q
      | lck o =>
        simp only [es] at q
        obtain ⟨p, e1, _⟩ := I.slots i _ es
        exact ⟨_, e1, q s H (Le.refl _) rfl rfl I _ e1⟩
      | val d =>
        simp only [es] at q
        obtain ⟨v, e1, r⟩ := I.slots i _ es
        exact ⟨v, e1, q s H (Le.refl _) rfl rfl I v r⟩
      | own o =>
        simp only [es] at q
        obtain ⟨p, e1, _⟩ := I.slots i _ es
        exact ⟨_, e1, q s H (Le.refl _) rfl rfl I _ e1⟩
variable {ma mb : M D} {pa pb pc : M PV}
theorem r_bin {o : Operator} (ha : SP T W X a pa) (hb : SP T W X b pb) : SE T W X (.BinOp a o b pos) (mbind pa fun p => mbind pb fun q => mbind (mval p) fun x => mbind (mval q) fun y => mopt (opBin o x y)) :=
  (pe_op (op_bin (T := T) o) ha hb).weak fun σ H Q ⟨s, I, q⟩ => ⟨s, I, q.bind.mono fun p s1 H1 le J q1 v hv => ⟨s1, J, q1.bind.mono fun p2 s2 H2 le2 J2 q2 u hu => by
    obtain ⟨dx, wx, q3⟩ := q2.val J2 (prep_le le2 hv)
    obtain ⟨dy, wy, q4⟩ := q3.val J2 hu
    obtain ⟨d, e, q5⟩ := q4.opt
    exact ⟨σ, s2, dx, dy, d, J2, wx, wy, e, fun s' H' v l e1 e2 J' r => q5.ret' l e1 e2 J' v r⟩⟩⟩
theorem r_binL {o : Operator} (ha : SP T W X a pa) (hb : SP T W X b pb) : SF T W X (.BinOp a o b pos) (mbind pa fun p => mbind pb fun q => mbind (mval p) fun x => mbind (mval q) fun y => mopt (opBinL o x y)) :=
  (pe_op (op_binL (T := T) o) ha hb).weak fun σ H Q ⟨s, I, q⟩ => ⟨s, I, q.bind.mono fun p s1 H1 le J q1 v hv => ⟨s1, J, q1.bind.mono fun p2 s2 H2 le2 J2 q2 u hu => by
    obtain ⟨dx, wx, q3⟩ := q2.val J2 (prep_le le2 hv)
    obtain ⟨dy, wy, q4⟩ := q3.val J2 hu
    obtain ⟨d, e, q5⟩ := q4.opt
    exact ⟨σ, s2, dx, dy, d, J2, wx, wy, e, fun s' H' v l e1 e2 J' r => q5.ret' l e1 e2 J' v r⟩⟩⟩
theorem r_cmp {o : CmpOp} (hu : X.A.units + 70 < cLine) (ha : SP T W X a pa) (hb : SP T W X b pb) (hm : behindInMarks o b = false) : SE T W X (.Compare a [o] [b] pos) (mbind pa fun p => mbind pb fun q => mbind (mval p) fun x => mbind (mval q) fun y => mopt ((opCmp o x y).map .bl)) :=
  (pe_cmpR (op_cmp (T := T) hu o) ha hb hm).weak fun σ H Q ⟨s, I, q⟩ => ⟨s, I, q.bind.mono fun p s1 H1 le J q1 v hv => ⟨s1, J, q1.bind.mono fun p2 s2 H2 le2 J2 q2 u hu => by
    obtain ⟨dx, wx, q3⟩ := q2.val J2 (prep_le le2 hv)
    obtain ⟨dy, wy, q4⟩ := q3.val J2 hu
    obtain ⟨d, e, q5⟩ := q4.opt
    obtain ⟨k, e1, e2⟩ := Option.map_eq_some_iff.mp e
    subst e2
    exact ⟨σ, s2, dx, dy, k, J2, wx, wy, e1, q5.ret J2 _ rfl⟩⟩⟩
theorem t_cmp {o : CmpOp} (hu : X.A.units + 70 < cLine) (ha : SP T W X a pa) (hb : SP T W X b pb) (hm : behindInMarks o b = false) : SB T W X (.Compare a [o] [b] pos) (mbind pa fun p => mbind pb fun q => mbind (mval p) fun x => mbind (mval q) fun y => mopt (opCmp o x y)) :=
  (pt_cmpR (op_cmp (T := T) hu o) ha hb hm).weak fun σ H Q ⟨s, I, q⟩ => ⟨s, I, q.bind.mono fun p s1 H1 le J q1 v hv => ⟨s1, J, q1.bind.mono fun p2 s2 H2 le2 J2 q2 u hu => by
    obtain ⟨dx, wx, q3⟩ := q2.val J2 (prep_le le2 hv)
    obtain ⟨dy, wy, q4⟩ := q3.val J2 hu
    obtain ⟨k, e, q5⟩ := q4.opt
    exact ⟨σ, s2, dx, dy, k, J2, wx, wy, e, k, rfl, q5.ret J2⟩⟩⟩
/-- a comparison in a chain: the state goes on -/
def rCh (T : List NdefX.NTab) (g : Gp) (σ : L2.St) (o : CmpOp) (K : Sg → Bool → Hp → Prop) : V → V → Hp → Prop := fun x y H => ∃ s dx dy b, At g T s σ H ∧ wrep g s H dx x ∧ wrep g s H dy y ∧ opCmp o dx dy = some b ∧ K s b H
theorem r_cmp2 {o o' : CmpOp} {c : Expr} (hu : X.A.units + 70 < cLine) (ha : SP T W X a pa) (hb : SP T W X b pb) (hc : SP T W X c pc) (hm : lastMarks [o, o'] [b, c] = false) : SE T W X (.Compare a [o, o'] [b, c] pos)
    (mbind pa fun p => mbind pb fun q => mbind (mval p) fun x => mbind (mval q) fun y => mbind (mopt (opCmp o x y)) fun k =>
      if k then mbind pc fun r => mbind (mval q) fun y => mbind (mval r) fun z => mopt ((opCmp o' y z).map .bl) else mret (.bl false)) :=
  (pe_chain (op_cmp (T := T) hu o) (op_cmp (T := T) hu o') ha hb hc hm).weak fun σ H Q ⟨s, I, q⟩ => ⟨s, I, q.bind.mono fun p s1 H1 le J q1 v hv => ⟨s1, J, q1.bind.mono fun p2 s2 H2 le2 J2 q2 u hu => by
    obtain ⟨dx, wx, q3⟩ := q2.val J2 (prep_le le2 hv)
    obtain ⟨dy, wy, q4⟩ := q3.val J2 hu
    obtain ⟨k, e, q5⟩ := q4.bind.opt
    refine ⟨σ, s2, dx, dy, k, J2, wx, wy, e, k, rfl, ?_⟩
    have q6 := q5.ret J2
    cases k with
    | false => exact q6.ret J2 _ rfl
    | true =>
      exact ⟨s2, J2, q6.bind.mono fun p3 s3 H3 le3 J3 q7 w hw => by
        obtain ⟨dy', wy', q8⟩ := q7.val J3 (prep_le le3 hu)
        obtain ⟨dz, wz, q9⟩ := q8.val J3 hw
        obtain ⟨d, e', q10⟩ := q9.opt
        obtain ⟨k', e1, e2⟩ := Option.map_eq_some_iff.mp e'
        subst e2
        exact ⟨σ, s3, dy', dz, k', J3, wy', wz, e1, q10.ret J3 _ rfl⟩⟩⟩⟩
theorem t_cmp2 {o o' : CmpOp} {c : Expr} (hu : X.A.units + 70 < cLine) (ha : SP T W X a pa) (hb : SP T W X b pb) (hc : SP T W X c pc) (hm : lastMarks [o, o'] [b, c] = false) : SB T W X (.Compare a [o, o'] [b, c] pos)
    (mbind pa fun p => mbind pb fun q => mbind (mval p) fun x => mbind (mval q) fun y => mbind (mopt (opCmp o x y)) fun k =>
      if k then mbind pc fun r => mbind (mval q) fun y => mbind (mval r) fun z => mopt (opCmp o' y z) else mret false) :=
  (pt_chain (op_cmp (T := T) hu o) (op_cmp (T := T) hu o') ha hb hc hm).weak fun σ H Q ⟨s, I, q⟩ => ⟨s, I, q.bind.mono fun p s1 H1 le J q1 v hv => ⟨s1, J, q1.bind.mono fun p2 s2 H2 le2 J2 q2 u hu => by
    obtain ⟨dx, wx, q3⟩ := q2.val J2 (prep_le le2 hv)
    obtain ⟨dy, wy, q4⟩ := q3.val J2 hu
    obtain ⟨k, e, q5⟩ := q4.bind.opt
    refine ⟨σ, s2, dx, dy, k, J2, wx, wy, e, k, rfl, ?_⟩
    have q6 := q5.ret J2
    cases k with
    | false => exact ⟨false, rfl, q6.ret J2⟩
    | true =>
      exact ⟨s2, J2, q6.bind.mono fun p3 s3 H3 le3 J3 q7 w hw => by
        obtain ⟨dy', wy', q8⟩ := q7.val J3 (prep_le le3 hu)
        obtain ⟨dz, wz, q9⟩ := q8.val J3 hw
        obtain ⟨k', e1, q10⟩ := q9.opt
        exact ⟨σ, s3, dy', dz, k', J3, wy', wz, e1, k', rfl, q10.ret J3⟩⟩⟩⟩
theorem r_not (ha : SE T W X a ma) : SE T W X (.UnaryOp .Not a pos) (mbind ma fun d => match d with
    | .bl b => mret (.bl (!b))
    | _ => mstk) := (pe_not ha).weak fun σ H Q ⟨s, I, q⟩ => ⟨s, I, q.bind.mono fun d s1 H1 le J q1 v hv => by
  cases d with
  | bl k => exact ⟨k, hv, q1.ret J _ rfl⟩
  | _ => exact q1.stk.elim⟩
theorem r_neg (ha : SE T W X a ma) : SE T W X (.UnaryOp .USub a pos) (mbind ma fun d => match d with
    | .int i => mret (.int (-i))
    | _ => mstk) := (pe_un un_neg ha).weak fun σ H Q ⟨s, I, q⟩ => ⟨s, I, q.bind.mono fun d s1 H1 le J q1 v hv => by
  cases d with
  | int k => exact ⟨k, hv, q1.ret J _ rfl⟩
  | _ => exact q1.stk.elim⟩
theorem r_ite {c : Expr} {mt : M Bool} (hc : SB T W X c mt) (ha : SE T W X a ma) (hb : SE T W X b mb) : SE T W X (.IfExp c a b pos) (mbind mt fun k => if k then ma else mb) :=
  (pe_ifExp hc ha hb).weak fun σ H Q ⟨s, I, q⟩ => ⟨s, I, q.bind.mono fun k s1 H1 le J q1 => by
    cases k with
    | true => exact ⟨s1, J, q1⟩
    | false => exact ⟨s1, J, q1⟩⟩
theorem r_one {o : BoolOp} (ha : SE T W X a ma) : SE T W X (.BoolOp o [a] pos) ma := pe_one ha
theorem r_and {rest : List Expr} (ha : SE T W X a ma) (hb : SE T W X (.BoolOp .And (b :: rest) pos) mb) : SE T W X (.BoolOp .And (a :: b :: rest) pos) (mbind ma fun d => match d with
    | .bl true => mb
    | .bl false => mret (.bl false)
    | _ => mstk) := (pe_and ha hb).weak fun σ H Q ⟨s, I, q⟩ => ⟨s, I, q.bind.mono fun d s1 H1 le J q1 v hv => by
  cases d with
  | bl k =>
    refine ⟨k, hv, ?_⟩
    cases k with
    | true => exact ⟨s1, J, q1⟩
    | false => exact q1.ret J _ rfl
  | _ => exact q1.stk.elim⟩
theorem r_or {rest : List Expr} (ha : SE T W X a ma) (hb : SE T W X (.BoolOp .Or (b :: rest) pos) mb) : SE T W X (.BoolOp .Or (a :: b :: rest) pos) (mbind ma fun d => match d with
    | .bl true => mret (.bl true)
    | .bl false => mb
    | _ => mstk) := (pe_or ha hb).weak fun σ H Q ⟨s, I, q⟩ => ⟨s, I, q.bind.mono fun d s1 H1 le J q1 v hv => by
  cases d with
  | bl k =>
    refine ⟨k, hv, ?_⟩
    cases k with
    | true => exact q1.ret J _ rfl
    | false => exact ⟨s1, J, q1⟩
  | _ => exact q1.stk.elim⟩
/-! ### lists of expressions -/
theorem a_nil : SA T W X [] (mret []) := pa_nil.weak fun σ H Q ⟨s, I, q⟩ => q.ret I [] rfl
theorem a_cons {es : List Expr} {ml : M (List D)} (ha : SE T W X a ma) (hr : SA T W X es ml) (hs : starEach (a :: es) X.env = (false, eval a X.env) :: starEach es X.env) : SA T W X (a :: es) (mbind ma fun d => mbind ml fun l => mret (d :: l)) :=
  (pa_cons ha hr hs).weak fun σ H Q ⟨s, I, q⟩ => ⟨s, I, q.bind.mono fun d s1 H1 le J q1 v hv => ⟨s1, J, q1.bind.mono fun l s2 H2 le2 J2 q2 vs hvs => q2.ret J2 _ ⟨v, vs, rfl, rep_le le2 hv, hvs⟩⟩⟩
theorem ps_nil : SPs T W X [] (mret []) := pa_nil.weak fun σ H Q ⟨s, I, q⟩ => q.ret I [] .nil
theorem paired_le {s s' : Sg} {σ : L2.St} (l : Le s s') {ps : List PV} {vs : List V} (h : Paired (fun p v => prep X.gp s σ p v) ps vs) : Paired (fun p v => prep X.gp s' σ p v) ps vs := Paired.mapP h fun p v => prep_le l
theorem ps_cons' {es : List Expr} {ml : M (List PV)} (ha : SP T W X a pa) (hr : SPs T W X es ml) (hs : starEach (a :: es) X.env = (false, eval a X.env) :: starEach es X.env) : SPs T W X (a :: es) (mbind pa fun d => mbind ml fun l => mret (d :: l)) :=
  (pa_cons ha hr hs).weak fun σ H Q ⟨s, I, q⟩ => ⟨s, I, q.bind.mono fun d s1 H1 le J q1 v hv => ⟨s1, J, q1.bind.mono fun l s2 H2 le2 J2 q2 vs hvs => q2.ret J2 _ (.cons (prep_le le2 hv) hvs)⟩⟩
theorem Aft.vals {σ : L2.St} {g : Gp} {β : Type} : ∀ {ps : List PV} {vs : List V} {k : List D → M β} {Q : β → Sg → Hp → Prop} {s : Sg} {H : Hp}, Aft g T W (mbind (mvals ps) k) s σ Q → At g T s σ H → Paired (fun p v => prep g s σ p v) ps vs → ∃ ds, wreps g s H ds vs ∧ Aft g T W (k ds) s σ Q
  | [], _, k, Q, s, H, h, I, .nil => ⟨[], .nil, h⟩
  | p :: ps, _, k, Q, s, H, h, I, .cons hp hps => by
    have e : mbind (mvals (p :: ps)) k = mbind (mval p) fun d => mbind (mvals ps) fun l => k (d :: l) := by
      funext ρ S
      show mbind (mbind (mval p) fun d => mbind (mvals ps) fun l => mret (d :: l)) k ρ S = _
      unfold mbind
      cases mval p ρ S with
      | ok a ρ S => 
        dsimp only
        cases mvals ps ρ S <;> rfl
      | exc c ρ S => rfl
      | stk => rfl
    rw [e] at h
    obtain ⟨d, w, h⟩ := h.val I hp
    obtain ⟨ds, w2, h⟩ := Aft.vals h I hps
    exact ⟨d :: ds, .cons w w2, h⟩
theorem r_tup {es : List Expr} {x1 : Nat} {ml : M (List D)} (h : SA T W X es ml) : SE T W X (.Tuple es x1 pos) (mbind ml fun l => if okLen l.length then mret (.tup l) else mstk) :=
  (pe_tup h).weak fun σ H Q ⟨s, I, q⟩ => ⟨s, I, q.bind.mono fun l s1 H1 le J q1 vs hv => by
    cases hl : okLen l.length with
    | false => rw [hl] at q1; exact (Aft.stk q1).elim
    | true =>
      rw [hl] at q1
      refine ⟨by rw [← reps_len hv]; exact okl hl, fun p hp => ?_⟩
      obtain ⟨s', l', e1, e2, J', r⟩ := J.newtup hp hv
      exact q1.ret' l' e1 e2 J' _ r⟩
theorem r_lst {es : List Expr} {ml : M (List D)} (h : SA T W X es ml) : SF T W X (.List es pos) (mbind ml fun l => if okLen l.length then mret l else mstk) :=
  (pe_lst h).weak fun σ H Q ⟨s, I, q⟩ => ⟨s, I, q.bind.mono fun l s1 H1 le J q1 vs hv => by
    cases hl : okLen l.length with
    | false => rw [hl] at q1; exact (Aft.stk q1).elim
    | true =>
      rw [hl] at q1
      refine ⟨by rw [← reps_len hv]; exact okl hl, fun p hp => ?_⟩
      obtain ⟨J', f⟩ := J.newlst hp hv
      exact q1.ret' (Le.refl _) rfl rfl J' _ f⟩
/-- a list that is kept in the store -/
theorem r_new {es : List Expr} {ml : M (List D)} (h : SA T W X es ml) : SE T W X (.List es pos) (mbind ml fun l => if okLen l.length then (fun ρ S => .ok (.ref S.length) ρ (S ++ [.lst l])) else mstk) :=
  (pe_lst h).weak fun σ H Q ⟨s, I, q⟩ => ⟨s, I, q.bind.mono fun l s1 H1 le J q1 vs hv => by
    cases hl : okLen l.length with
    | false => rw [hl] at q1; exact (Aft.stk q1).elim
    | true =>
      rw [hl] at q1
      refine ⟨by rw [← reps_len hv]; exact okl hl, fun p hp => ?_⟩
      have J' := J.stnew (m := .lst l) (o := .lst vs) hp fun μ' hμ => ⟨vs, upd_same, reps_mono (Sub.refl _) hμ _ _ hv⟩
      have q2 : ∀ s' H', Le s1 s' → s'.ρ = s1.ρ → s'.S = s1.S ++ [.lst l] → At X.gp T s' σ H' → ∀ v, rep X.gp s'.μ s'.G (.ref s1.S.length) v → Q v H' := q1
      refine q2 { s1 with μ := s1.μ ++ [p], S := s1.S ++ [.lst l] } _ ⟨rfl, Sub.refl _, fun n b e => ?_⟩ rfl rfl J' _ ⟨p, rfl, ?_⟩
      · show (s1.μ ++ [p])[n]? = some b
        rw [List.getElem?_append_left (List.getElem?_eq_some_iff.mp e).1]; exact e
      · show (s1.μ ++ [p])[s1.S.length]? = some p
        have e := J.slen
        rw [e, List.getElem?_append_right (Nat.le_refl _)]
        simp⟩
/-! ### subscripts -/
theorem r_idx (ha : SP T W X a pa) (hb : SE T W X b mb) (hs : PlainIx b) : SE T W X (.Subscript a b pos) (mbind pa fun p => mbind mb fun i => mbind (mval p) fun x => mopt (opIdx x i)) :=
  (pe_ix (ix_idx (T := T)) ha hb hs).weak fun σ H Q ⟨s, I, q⟩ => ⟨s, I, q.bind.mono fun p s1 H1 le J q1 v hv => ⟨s1, J, q1.bind.mono fun i s2 H2 le2 J2 q2 u hu => by
    obtain ⟨dx, wx, q3⟩ := q2.val J2 (prep_le le2 hv)
    obtain ⟨d, e, q4⟩ := q3.opt
    exact ⟨σ, s2, dx, i, d, J2, wx, .inl hu, e, fun s' H' v l e1 e2 J' r => q4.ret' l e1 e2 J' v r⟩⟩⟩
/-- a part of a slice -/
abbrev SO (T : List NdefX.NTab) (W : WX) (X : Cx) (e : Option Expr) (m : M D) : Prop := PO X e fun σ H Q => ∃ s, At X.gp T s σ H ∧ Aft X.gp T W m s σ fun d s' H' => ∀ o, partD d o → Q o H'
theorem o_nil : SO T W X none (mret .non) := ⟨fun pins st σ H Q I ⟨s, A, q⟩ => po_none.run pins st σ H Q I (q.ret A none rfl)⟩
theorem o_some (h : SE T W X a ma) : SO T W X (some a) (mbind ma fun d => match d with
    | .int i => mret (.int i)
    | _ => mstk) := ⟨fun pins st σ H Q I ⟨s, A, q⟩ => (po_some h).run pins st σ H Q I ⟨s, A, q.bind.mono fun d s1 H1 le J q1 v hv => by
  cases d with
  | int i => exact ⟨i, hv, q1.ret J _ rfl⟩
  | _ => exact (Aft.stk q1).elim⟩⟩
theorem r_sl {lo hi : Option Expr} {p2 : Pos} {ml mh : M D} (ha : SP T W X a pa) (hl : SO T W X lo ml) (hh : SO T W X hi mh) : SE T W X (.Subscript a (.Slice lo hi none p2) pos) (mbind pa fun p => mbind ml fun i => mbind mh fun j => mbind (mval p) fun x => match x with
    | .tup l => mopt ((cutD l i j).map .tup)
    | _ => mstk) :=
  (pe_slice (sl_slc (T := T)) ha hl hh).weak fun σ H Q ⟨s, I, q⟩ => ⟨s, I, q.bind.mono fun p s1 H1 le J q1 v hv => ⟨s1, J, q1.bind.mono fun i s2 H2 le2 J2 q2 o1 h1 => ⟨s2, J2, q2.bind.mono fun j s3 H3 le3 J3 q3 o2 h2 => by
    obtain ⟨dx, wx, q4⟩ := q3.val J3 (prep_le (le2.trans le3) hv)
    cases dx with
    | tup l =>
      obtain ⟨d, e, q5⟩ := q4.opt
      obtain ⟨l', e1, e2⟩ := Option.map_eq_some_iff.mp e
      subst e2
      exact ⟨σ, s3, l, i, j, l', J3, wx, h1, h2, e1, fun s' H' v l e1 e2 J' r => q5.ret' l e1 e2 J' v r⟩
    | _ => exact (Aft.stk q4).elim⟩⟩⟩
theorem r_slL {lo hi : Option Expr} {p2 : Pos} {ml mh : M D} (ha : SP T W X a pa) (hl : SO T W X lo ml) (hh : SO T W X hi mh) : SF T W X (.Subscript a (.Slice lo hi none p2) pos) (mbind pa fun p => mbind ml fun i => mbind mh fun j => mbind (mval p) fun x => match x with
    | .lst l => mopt (cutD l i j)
    | _ => mstk) :=
  (pe_slice (sl_slcL (T := T)) ha hl hh).weak fun σ H Q ⟨s, I, q⟩ => ⟨s, I, q.bind.mono fun p s1 H1 le J q1 v hv => ⟨s1, J, q1.bind.mono fun i s2 H2 le2 J2 q2 o1 h1 => ⟨s2, J2, q2.bind.mono fun j s3 H3 le3 J3 q3 o2 h2 => by
    obtain ⟨dx, wx, q4⟩ := q3.val J3 (prep_le (le2.trans le3) hv)
    cases dx with
    | lst l =>
      obtain ⟨l', e1, q5⟩ := q4.opt
      exact ⟨σ, s3, l, i, j, l', J3, wx, h1, h2, e1, fun s' H' v l e1 e2 J' r => q5.ret' l e1 e2 J' v r⟩
    | _ => exact (Aft.stk q4).elim⟩⟩⟩
/-! ### built-ins -/
theorem starAny {Y : Env} : ∀ {es : List Expr}, (∀ e ∈ es, ∀ x p, e ≠ .Starred x p) → ∀ pos, (backTo pos (starEach es Y)).any (·.1) = false
  | [], _, pos => rfl
  | e :: es, h, pos => by
    have hs : starEach (e :: es) Y = (false, eval e Y) :: starEach es Y := by
      have := h e List.mem_cons_self
      cases e <;> first | rfl | exact absurd rfl (this _ _)
    rw [hs]
    exact starAny (es := es) (fun e' he => h e' (List.mem_cons_of_mem _ he)) pos
theorem starCons {Y : Env} {e : Expr} {es : List Expr} (h : ∀ x p, e ≠ .Starred x p) : starEach (e :: es) Y = (false, eval e Y) :: starEach es Y := by
  cases e <;> first | rfl | exact absurd rfl (h _ _)
theorem bl_boot (b : Bl) : bootBuiltins (blName b).1 = some (blName b).2 := by cases b <;> decide +kernel
theorem bl_nn (b : Bl) : (blName b).1 ≠ "__name__" ∧ ((blName b).1 == ("__debug__" : Str)) = false := by cases b <;> exact ⟨by decide, by decide⟩
theorem r_bl {bb : Bl} {p : Pos} {es : List Expr} {ml : M (List PV)} (hc : X.calm = true) (hg : Gl X (blName bb).1) (hm : X.mg (blName bb).1 = none) (hn : ∀ e ∈ a :: es, ∀ x p, e ≠ .Starred x p) (h : SPs T W X (a :: es) ml) :
    SE T W X (.Call (.Name (blName bb).1 p) (a :: es) [] pos) (mbind ml fun ps => mbind (mvals ps) fun ds => mopt (opBl bb ds)) := by
  have hr := call_bl (T := T) hc bb
  have hb := bl_boot bb
  obtain ⟨n1, n2⟩ := bl_nn bb
  have h1 := starCons (Y := X.env) (es := es) (hn a List.mem_cons_self)
  have h2 := starAny (Y := X.env) (es := es) (fun e he => hn e (List.mem_cons_of_mem _ he)) pos
  have k : ∀ σ H Q, tE T W X.gp (mbind ml fun ps => mbind (mvals ps) fun ds => mopt (opBl bb ds)) σ H Q → tCB (rBl T X.gp bb) (tPs T W X.gp ml) σ H Q := fun σ H Q ⟨s, I, q⟩ => ⟨s, I, q.bind.mono fun ps s1 H1 le J q1 vs hv => by
    obtain ⟨ds, w, q2⟩ := q1.vals J hv
    obtain ⟨d, e, q3⟩ := q2.opt
    exact ⟨σ, s1, ds, d, J, w, e, fun s' H' v l e1 e2 J' r => q3.ret' l e1 e2 J' v r⟩⟩
  cases hv : (blName bb).2 with
  | builtin id => rw [hv] at hr hb; exact (pe_callB hr hg hm hb h n1 n2 h1 h2).weak k
  | type id => rw [hv] at hr hb; exact (pe_callTy hr hg hm hb h n1 n2 h1 h2).weak k
  | _ => exfalso; cases bb <;> cases hv
theorem r_list {p : Pos} {es : List Expr} {ml : M (List PV)} (hg : Gl X "list") (hm : X.mg "list" = none) (hn : ∀ e ∈ a :: es, ∀ x p, e ≠ .Starred x p) (h : SPs T W X (a :: es) ml) :
    SF T W X (.Call (.Name "list" p) (a :: es) [] pos) (mbind ml fun ps => mbind (mvals ps) fun ds => mopt (opFl .list ds)) :=
  (pe_callTy (call_list (T := T)) hg hm PyProof.Rows.boot_list h (by decide) (by decide) (starCons (hn a List.mem_cons_self)) (starAny (fun e he => hn e (List.mem_cons_of_mem _ he)) pos)).weak fun σ H Q ⟨s, I, q⟩ => ⟨s, I, q.bind.mono fun ps s1 H1 le J q1 vs hv => by
    obtain ⟨ds, w, q2⟩ := q1.vals J hv
    obtain ⟨d, e, q3⟩ := q2.opt
    exact ⟨σ, s1, ds, d, J, w, e, fun s' H' v l e1 e2 J' r => q3.ret' l e1 e2 J' v r⟩⟩
/-! ### tests -/
theorem t_val (ha : SP T W X a pa) (he : ∀ whole, isTrue a X.env whole = (do let v ← whole; standAt a.pos; holding [v] (truthy v))) : SB T W X a (mbind pa fun p => mbind (mval p) fun d => mopt (tru d)) :=
  (pt_truth ha he).weak fun σ H Q ⟨s, I, q⟩ => ⟨s, I, q.bind.mono fun p s1 H1 le J q1 v hv => by
    obtain ⟨d, w, q2⟩ := q1.val J hv
    obtain ⟨k, e, q3⟩ := q2.opt
    exact ⟨k, tru_of J.gh w e, q3.ret J⟩⟩
theorem t_not {mt : M Bool} (ha : SB T W X a mt) : SB T W X (.UnaryOp .Not a pos) (mbind mt fun b => mret (!b)) :=
  (pt_not ha).weak fun σ H Q ⟨s, I, q⟩ => ⟨s, I, q.bind.mono fun b s1 H1 le J q1 => q1.ret J⟩
abbrev SW (T : List NdefX.NTab) (W : WX) (X : Cx) (e : Expr) (m : M Bool) : Prop := PW X e (tB T W X.gp m)
theorem _root_.L2.PW.weak {X : Cx} {e : Expr} {t t' : TT} (h : PW X e t) (k : ∀ σ H Q, t' σ H Q → t σ H Q) : PW X e t' := ⟨fun wh pins s σ H Q I q => h.run wh pins s σ H Q I (k σ H Q q)⟩
theorem w_and1 {mt : M Bool} (ha : SB T W X a mt) : SW T W X (.BoolOp .And [a] pos) (mbind mt fun b => if b then mret true else mret false) :=
  (pw_and1 ha).weak fun σ H Q ⟨s, I, q⟩ => ⟨s, I, q.bind.mono fun b s1 H1 le J q1 => by cases b <;> exact q1.ret J⟩
theorem w_or1 {mt : M Bool} (ha : SB T W X a mt) : SW T W X (.BoolOp .Or [a] pos) (mbind mt fun b => if b then mret true else mret false) :=
  (pw_or1 ha).weak fun σ H Q ⟨s, I, q⟩ => ⟨s, I, q.bind.mono fun b s1 H1 le J q1 => by cases b <;> exact q1.ret J⟩
theorem w_and {rest : List Expr} {mt mt' : M Bool} (ha : SB T W X a mt) (hb : SW T W X (.BoolOp .And (b :: rest) pos) mt') : SW T W X (.BoolOp .And (a :: b :: rest) pos) (mbind mt fun b => if b then mt' else mret false) :=
  (pw_and ha hb).weak fun σ H Q ⟨s, I, q⟩ => ⟨s, I, q.bind.mono fun b s1 H1 le J q1 => by
    cases b with
    | true => exact ⟨s1, J, q1⟩
    | false => exact q1.ret J⟩
theorem w_or {rest : List Expr} {mt mt' : M Bool} (ha : SB T W X a mt) (hb : SW T W X (.BoolOp .Or (b :: rest) pos) mt') : SW T W X (.BoolOp .Or (a :: b :: rest) pos) (mbind mt fun b => if b then mret true else mt') :=
  (pw_or ha hb).weak fun σ H Q ⟨s, I, q⟩ => ⟨s, I, q.bind.mono fun b s1 H1 le J q1 => by
    cases b with
    | true => exact q1.ret J
    | false => exact ⟨s1, J, q1⟩⟩
end
end MP

namespace MP
open PySem PySem.Spec L2
section
variable {T : List NdefX.NTab} {W : WX} {X : Cx} {Γ : Gam} {cl : Calls} {e a b : Expr} {pos : Pos} {ma mb : M D} {pa pb pc : M PV}
/-! ### calls of defs -/
theorem calls_plain {s : Sg} {x : Str} {ds : List D} {σ : L2.St} {Q : VK} (q : Aft X.gp T W (mbind (mret []) fun kds => lift0 (cl.f x ds [] kds)) s σ fun d s' H' => ∀ v, rep X.gp s'.μ s'.G d v → Q v H') :
    Aft X.gp T W (lift0 (cl.f x ds [] [])) s σ fun d s' H' => ∀ v, rep X.gp s'.μ s'.G d v → Q v H' := q
theorem r_call {x : Str} {f : Addr} {p : Pos} {es : List Expr} {ml : M (List D)} (hg : Gl X x) (hm : X.mg x = some (.ref f)) (hk : PySem.W.keepIn X.K (.ref f) = true) (hC : CallsR T X W cl) (hd : (x == ("__debug__" : Str)) = false)
    (hn : ∀ e ∈ a :: es, ∀ x p, e ≠ .Starred x p) (h : SA T W X (a :: es) ml) :
    SE T W X (.Call (.Name x p) (a :: es) [] pos) (mbind ml fun ds => mbind (mret []) fun kds => lift0 (cl.f x ds [] kds)) := by
  refine ⟨fun pins st σ H Q I ⟨s, A, q⟩ => ?_⟩
  refine PySem.wpAny_Call_Name_kw (ld_glob I hg hm ?_ hd)
  refine PySem.W.callWith_K (h₀ := X.base) I.ok.mod.kin hk (thn (h.run pos pins st σ H (fun vs H1 => ∃ s1 ds, At X.gp T s1 σ H1 ∧ reps X.gp s1.μ s1.G ds vs ∧ Aft X.gp T W (lift0 (cl.f x ds [] [])) s1 σ fun d s' H' => ∀ v, rep X.gp s'.μ s'.G d v → Q v H') I ⟨s, A, q.bind.mono fun ds s1 H1 le J q1 vs hv => ⟨s1, ds, J, hv, q1⟩⟩)
    fun us s1 ⟨vs, H1, I1, r, s2, ds, J, hv, q2⟩ => ⟨I1.kIn, ?_⟩) (starCons (hn a List.mem_cons_self)) (starAny (fun e he => hn e (List.mem_cons_of_mem _ he)) pos)
  exact hC x f pins s1 σ H1 ds [] [] us [] vs [] s2 Q hm I1 r .nil rfl J hv rfl q2
theorem r_call0 {x : Str} {f : Addr} {p : Pos} (hg : Gl X x) (hm : X.mg x = some (.ref f)) (hk : PySem.W.keepIn X.K (.ref f) = true) (hC : CallsR T X W cl) (hd : (x == ("__debug__" : Str)) = false) :
    SE T W X (.Call (.Name x p) [] [] pos) (mbind (mret []) fun ds => mbind (mret []) fun kds => lift0 (cl.f x ds [] kds)) := by
  refine ⟨fun pins st σ H Q I ⟨s, A, q⟩ => ?_⟩
  refine PySem.wpAny_Call_Name_kw (ld_glob I hg hm ?_ hd)
  exact PySem.W.callWith_K0 I.kIn hk (hC x f pins st σ H [] [] [] [] [] [] [] s Q hm I .nil .nil rfl A rfl rfl q)
/-! ### keywords -/
abbrev SK (T : List NdefX.NTab) (W : WX) (X : Cx) (kws : List Keyword) (m : M (List D)) : Prop := PK X kws (tA T W X.gp m)
theorem _root_.L2.PK.weak {X : Cx} {e : List Keyword} {t t' : TA} (h : PK X e t) (k : ∀ σ H Q, t' σ H Q → t σ H Q) : PK X e t' := ⟨fun pos pins s σ H Q I q => h.run pos pins s σ H Q I (k σ H Q q)⟩
theorem k_nil : SK T W X [] (mret []) := pk_nil.weak fun σ H Q ⟨s, I, q⟩ => q.ret I [] rfl
theorem k_cons {nm : Option Str} {kpos : Pos} {kws : List Keyword} {ml : M (List D)} (ha : SE T W X a ma) (hr : SK T W X kws ml) : SK T W X (⟨nm, a, kpos⟩ :: kws) (mbind ma fun d => mbind ml fun l => mret (d :: l)) :=
  (pk_cons ha hr).weak fun σ H Q ⟨s, I, q⟩ => ⟨s, I, q.bind.mono fun d s1 H1 le J q1 v hv => ⟨s1, J, q1.bind.mono fun l s2 H2 le2 J2 q2 vs hvs => q2.ret J2 _ ⟨v, vs, rfl, rep_le le2 hv, hvs⟩⟩⟩
theorem kw_facts {Y : Env} : ∀ {kws : List Keyword} {ks : List Str}, kws.map (·.arg) = ks.map some → ∀ pos, (backToKw pos (keywordEach kws Y)).all (·.1.isSome) = true ∧ (backToKw pos (keywordEach kws Y)).filterMap (·.1) = ks ∧ (backToKw pos (keywordEach kws Y)).any (·.1.isNone) = false
  | [], ks, h, pos => by
    cases ks with
    | nil => exact ⟨rfl, rfl, rfl⟩
    | cons k ks => cases h
  | ⟨n, v, p⟩ :: kws, ks, h, pos => by
    cases ks with
    | nil => cases h
    | cons k ks =>
      have h1 : n = some k ∧ kws.map (·.arg) = ks.map some := by simpa using h
      obtain ⟨rfl, h2⟩ := h1
      obtain ⟨q1, q2, q3⟩ := kw_facts (Y := Y) h2 pos
      exact ⟨q1, congrArg (k :: ·) q2, q3⟩
theorem r_callK {x : Str} {f : Addr} {p : Pos} {es : List Expr} {ml mk : M (List D)} {kws : List Keyword} {ks : List Str} (hg : Gl X x) (hm : X.mg x = some (.ref f)) (hk : PySem.W.keepIn X.K (.ref f) = true) (hC : CallsR T X W cl) (hd : (x == ("__debug__" : Str)) = false)
    (hn : ∀ e ∈ a :: es, ∀ x p, e ≠ .Starred x p) (h : SA T W X (a :: es) ml) (hks : kws.map (·.arg) = ks.map some) (hkw : SK T W X kws mk) (hl : ∀ ρ S l ρ' S', mk ρ S = .ok l ρ' S' → l.length = ks.length) :
    SE T W X (.Call (.Name x p) (a :: es) kws pos) (mbind ml fun ds => mbind mk fun kds => lift0 (cl.f x ds ks kds)) := by
  refine ⟨fun pins st σ H Q I ⟨s, A, q⟩ => ?_⟩
  obtain ⟨q1, q2, q3⟩ := kw_facts (Y := X.env) hks pos
  refine PySem.wpAny_Call_Name_kw (ld_glob I hg hm ?_ hd)
  have hs := starCons (Y := X.env) (es := es) (hn a List.mem_cons_self)
  have hs2 := starAny (Y := X.env) (es := es) (fun e he => hn e (List.mem_cons_of_mem _ he)) pos
  refine PySem.W.callWith_KW (h₀ := X.base) I.ok.mod.kin hk q1 (thn (h.run pos pins st σ H (fun vs H1 => ∃ s1 ds, At X.gp T s1 σ H1 ∧ reps X.gp s1.μ s1.G ds vs ∧ Aft X.gp T W (mbind mk fun kds => lift0 (cl.f x ds ks kds)) s1 σ fun d s' H' => ∀ v, rep X.gp s'.μ s'.G d v → Q v H') I ⟨s, A, q.bind.mono fun ds s1 H1 le J q1 vs hv => ⟨s1, ds, J, hv, q1⟩⟩)
    fun us s1 ⟨vs, H1, I1, r, s2, ds, J, hv, q4⟩ => ?_) (by rw [q3, hs]; show ((false || (backTo pos (starEach es X.env)).any (·.1)) || false) = false; rw [hs2]; rfl) hs
  refine thn (hkw.run pos pins s1 σ H1 (fun zs H2 => ∃ s3 kds, At X.gp T s3 σ H2 ∧ Le s2 s3 ∧ reps X.gp s3.μ s3.G kds zs ∧ kds.length = ks.length ∧ Aft X.gp T W (lift0 (cl.f x ds ks kds)) s3 σ fun d s' H' => ∀ v, rep X.gp s'.μ s'.G d v → Q v H') I1 ⟨s2, J, ?_⟩) fun ws s5 ⟨zs, H2, I2, rz, s3, kds, J3, le3, hz, lz, q5⟩ => ⟨I2.kIn, ?_⟩
  · have q6 := q4.bind
    unfold Aft at q6 ⊢
    cases em : mk s2.ρ s2.S with
    | ok l ρ' S' =>
      rw [em] at q6
      exact fun s' H' le e1 e2 J' vs hvs => ⟨s', l, J', le, hvs, hl _ _ _ _ _ em, q6 s' H' le e1 e2 J'⟩
    | exc c ρ' S' => rw [em] at q6; exact q6
    | stk => rw [em] at q6; exact q6
  · rw [q2]
    exact hC x f pins s5 σ H2 ds kds ks us ws vs zs s3 Q hm I2 r rz lz J3 (reps_le le3 hv) hz q5
/-! ### calls of a value -/
theorem r_callv {i : Nat} {y : Str} {p : Pos} {es : List Expr} {ml : M (List D)} {mc : Nat → List D → M D} (hN : X.N[i]? = some y) (hv : Vis X.env.scope y) (hd : (y == ("__debug__" : Str)) = false) (hcd : (y == ("__classdict__" : Str)) = false)
    (hC : CallsR T X W cl) (hn : ∀ e ∈ a :: es, ∀ x p, e ≠ .Starred x p) (h : SA T W X (a :: es) ml) :
    SE T W X (.Call (.Name y p) (a :: es) [] pos) (mbind (peek i) fun p => match p with
    | .v (.fn x) => mbind ml fun ds => lift0 (cl.f x ds [] [])
    | .v (.clo k caps) => mc k caps
    | _ => mstk) := by
  refine ⟨fun pins st σ H Q I ⟨s, A, q⟩ => ?_⟩
  refine PySem.wpAny_Call_Name_kw (thn ((r_peek (T := T) (W := W) (pos := p) hN hv hd hcd).run pins st σ H (fun v H1 => ∃ s1 x f, v = .ref f ∧ X.mg x = some (.ref f) ∧ PySem.W.keepIn X.K (.ref f) = true ∧ At X.gp T s1 σ H1 ∧ Aft X.gp T W (mbind ml fun ds => lift0 (cl.f x ds [] [])) s1 σ fun d s' H' => ∀ v, rep X.gp s'.μ s'.G d v → Q v H') I ⟨s, A, q.bind.mono fun p s1 H1 le J q1 v hv => ?_⟩) fun u st1 ⟨v, H1, I1, r1, s1, x, f, ev, hm, hkeep, J1, q1⟩ => ?_)
  · cases p with
    | s j => exact (Aft.stk q1).elim
    | v d =>
      cases d with
      | fn x =>
        obtain ⟨f, e, hm, hkeep⟩ := hv
        exact ⟨s1, x, f, e, hm, hkeep, J, q1⟩
      | clo k caps => exact hv.elim
      | _ => exact (Aft.stk q1).elim
  · subst ev
    cases r1
    refine PySem.W.callWith_K (h₀ := X.base) I1.ok.mod.kin hkeep (thn (h.run pos pins st1 σ H1 (fun vs H2 => ∃ s2 ds, At X.gp T s2 σ H2 ∧ reps X.gp s2.μ s2.G ds vs ∧ Aft X.gp T W (lift0 (cl.f x ds [] [])) s2 σ fun d s' H' => ∀ v, rep X.gp s'.μ s'.G d v → Q v H') I1 ⟨s1, J1, q1.bind.mono fun ds s2 H2 le J q2 vs hv => ⟨s2, ds, J, hv, q2⟩⟩)
      fun us s3 ⟨vs, H2, I2, r, s2, ds, J, hv, q2⟩ => ⟨I2.kIn, ?_⟩) (starCons (hn a List.mem_cons_self)) (starAny (fun e he => hn e (List.mem_cons_of_mem _ he)) pos)
    exact hC x f pins s3 σ H2 ds [] [] us [] vs [] s2 Q hm I2 r .nil rfl J hv rfl q2
/-! ### methods of texts -/
theorem noAttrB {o : Expr} {m : Str} {Y : Env} (h : ∀ f as ks p, o ≠ .Call f as ks p) : attributeBase o m Y (eval o Y) = eval o Y := by
  cases o <;> first | rfl | exact absurd rfl (h _ _ _ _)
theorem few_of {Y : Env} {es : List Expr} (hn : ∀ e ∈ a :: es, ∀ x p, e ≠ .Starred x p) (hl : es.length < 20) : ((backTo pos (starEach (a :: es) Y)).all (fun x => !x.1) && (backToKw pos (keywordEach [] Y)).all (fun x => x.1.isSome)
      && decide ((a :: es).length + ([] : List Keyword).length + (if ([] : List Keyword).isEmpty then 0 else 1) < 30)) = true := by
  have h1 : (backTo pos (starEach (a :: es) Y)).all (fun x => !x.1) = true := by
    have := starAny (Y := Y) (es := a :: es) hn pos
    rw [List.any_eq_false] at this
    rw [List.all_eq_true]
    intro x hx
    have := this x hx
    simpa using this
  rw [h1]
  show (true && true && decide (es.length + 1 + 0 + 0 < 30)) = true
  rw [decide_eq_true (by omega)]
  rfl
def mtName : Mt → Str × String
  | .join => ("join", "str.join")
def mtFName : MtF → Str × String
  | .split => ("split", "str.split")
theorem r_mt {m : Mt} {es : List Expr} {ml : M (List PV)} {apos : Pos} (hn : ∀ e ∈ b :: es, ∀ x p, e ≠ .Starred x p) (hl : es.length < 20) (hb : ∀ f as ks p, a ≠ .Call f as ks p) (hline : (apos.endLine == pos.line) = true) (ha : SE T W X a ma) (h : SPs T W X (b :: es) ml) :
    SE T W X (.Call (.Attribute a (mtName m).1 apos) (b :: es) [] pos) (mbind ma fun x => match x with
      | .str a => mbind ml fun ps => mbind (mvals ps) fun ds => mopt (opMt m (.str a) ds)
      | _ => mstk) := by
  have k : ∀ σ H Q, tE T W X.gp (mbind ma fun x => match x with
      | .str a => mbind ml fun ps => mbind (mvals ps) fun ds => mopt (opMt m (.str a) ds)
      | _ => mstk) σ H Q → tBM X.K "str" (rMt T X.gp m) (tE T W X.gp ma) (tPs T W X.gp ml) σ H Q := fun σ H Q ⟨s, I, q⟩ => ⟨s, I, q.bind.mono fun d s1 H1 le J q1 v hv => by
    cases d with
    | str z =>
      have e : v = .str z := hv
      subst e
      refine ⟨rfl, s1, J, q1.bind.mono fun ps s2 H2 le2 J2 q2 vs hvs => ?_⟩
      obtain ⟨ds, w, q3⟩ := q2.vals J2 hvs
      obtain ⟨d, e, q4⟩ := q3.opt
      exact ⟨σ, s2, .str z, ds, d, J2, .inl rfl, w, e, fun s' H' v l e1 e2 J' r => q4.ret' l e1 e2 J' v r⟩
    | _ => exact (Aft.stk q1).elim⟩
  cases m with
  | join => exact (pe_bm PySem.F.plainAttrs_str PySem.F.slot_str_join PySem.F.type_str_join (mt_join' (T := T)) ha h (noAttrB hb) (few_of hn hl) hline (starCons (hn b List.mem_cons_self)) (starAny (fun e he => hn e (List.mem_cons_of_mem _ he)) pos)).weak k
theorem r_mtF {m : MtF} {es : List Expr} {ml : M (List PV)} {apos : Pos} (hn : ∀ e ∈ b :: es, ∀ x p, e ≠ .Starred x p) (hl : es.length < 20) (hb : ∀ f as ks p, a ≠ .Call f as ks p) (hline : (apos.endLine == pos.line) = true) (ha : SE T W X a ma) (h : SPs T W X (b :: es) ml) :
    SF T W X (.Call (.Attribute a (mtFName m).1 apos) (b :: es) [] pos) (mbind ma fun x => match x with
      | .str a => mbind ml fun ps => mbind (mvals ps) fun ds => mopt (opMtF m (.str a) ds)
      | _ => mstk) := by
  have k : ∀ σ H Q, tF T W X.gp (mbind ma fun x => match x with
      | .str a => mbind ml fun ps => mbind (mvals ps) fun ds => mopt (opMtF m (.str a) ds)
      | _ => mstk) σ H Q → tBM X.K "str" (rMtF T X.gp m) (tE T W X.gp ma) (tPs T W X.gp ml) σ H Q := fun σ H Q ⟨s, I, q⟩ => ⟨s, I, q.bind.mono fun d s1 H1 le J q1 v hv => by
    cases d with
    | str z =>
      have e : v = .str z := hv
      subst e
      refine ⟨rfl, s1, J, q1.bind.mono fun ps s2 H2 le2 J2 q2 vs hvs => ?_⟩
      obtain ⟨ds, w, q3⟩ := q2.vals J2 hvs
      obtain ⟨d, e, q4⟩ := q3.opt
      exact ⟨σ, s2, .str z, ds, d, J2, .inl rfl, w, e, fun s' H' v l e1 e2 J' r => q4.ret' l e1 e2 J' v r⟩
    | _ => exact (Aft.stk q1).elim⟩
  cases m with
  | split => exact (pe_bm PySem.F.plainAttrs_str PySem.F.slot_str_split PySem.F.type_str_split (mt_split' (T := T)) ha h (noAttrB hb) (few_of hn hl) hline (starCons (hn b List.mem_cons_self)) (starAny (fun e he => hn e (List.mem_cons_of_mem _ he)) pos)).weak k
/-! ### f-strings -/
theorem r_fmt (ha : SE T W X a ma) : SE T W X (.FormattedValue a (-1) none pos) (mbind ma fun d => match d with
    | .str y => if okLen y.length then mret (.str y) else mstk
    | .int i => if decide (i.natAbs.log2 < 1920) then mret (.str (toString i)) else mstk
    | _ => mstk) := (pe_fmt ha).weak fun σ H Q ⟨s, I, q⟩ => ⟨s, I, q.bind.mono fun d s1 H1 le J q1 v hv => by
  cases d with
  | str y =>
    dsimp only at q1
    cases hl : okLen y.length with
    | false => rw [hl] at q1; exact (Aft.stk q1).elim
    | true => rw [hl] at q1; exact .inl ⟨y, hv, okl hl, q1.ret J _ rfl⟩
  | int i =>
    dsimp only at q1
    by_cases hl : i.natAbs.log2 < 1920
    · rw [decide_eq_true hl] at q1; exact .inr ⟨i, hv, hl, q1.ret J _ rfl⟩
    · rw [decide_eq_false hl] at q1; exact (Aft.stk q1).elim
  | _ => exact (Aft.stk q1).elim⟩
/-- the parts of an f-string -/
inductive SJ (T : List NdefX.NTab) (W : WX) (X : Cx) : List Expr → (Str → M Str) → Prop where
  | nil : SJ T W X [] mret
  | cons {e : Expr} {es : List Expr} {ma : M D} {mj : Str → M Str} (h : SE T W X e ma) (r : SJ T W X es mj) : SJ T W X (e :: es) (fun acc => mbind ma fun d => match d with
    | .str y => if okLen (acc ++ y).length then mj (acc ++ y) else mstk
    | _ => mstk)
theorem sj_pj {es : List Expr} {mj : Str → M Str} (h : SJ T W X es mj) : ∃ ts, PJ X es ts ∧ ∀ (acc : Str) (σ : L2.St) (H : Hp) (Q : Str → Hp → Prop) (s : Sg), At X.gp T s σ H →
    Aft X.gp T W (mj acc) s σ (fun y s' H' => Q y H') → tJs ts acc σ H Q := by
  induction h with
  | nil => exact ⟨[], .nil, fun acc σ H Q s I q => q.ret I⟩
  | @cons e es ma mj h r ih =>
    obtain ⟨ts, hp, k⟩ := ih
    refine ⟨_ :: ts, .cons h hp, fun acc σ H Q s I q => ⟨s, I, ?_⟩⟩
    refine q.bind.mono fun d s1 H1 le J q1 v hv => ?_
    cases d with
    | str y =>
      dsimp only at q1
      cases hl : okLen (acc ++ y).length with
      | false => rw [hl] at q1; exact (Aft.stk q1).elim
      | true => rw [hl] at q1; exact ⟨y, hv, okl hl, k (acc ++ y) σ H1 Q s1 J q1⟩
    | _ => exact (Aft.stk q1).elim
theorem r_fs {v1 v2 : Expr} {rest : List Expr} {mj : Str → M Str} (h : SJ T W X (v1 :: v2 :: rest) mj) : SE T W X (.JoinedStr (v1 :: v2 :: rest) pos) (mbind (mj Str.empty) fun y => mret (.str y)) := by
  obtain ⟨ts, hp, k⟩ := sj_pj h
  exact (pe_joined hp).weak fun σ H Q ⟨s, I, q⟩ => k _ _ _ _ s I (q.bind.mono fun y s1 H1 le J q1 => q1.ret J _ rfl)
/-! ### isinstance -/
theorem isi_ty {g : Gp} {s : Sg} {H : Hp} {d : D} {v : V} {t : String} (hs : Sub s.G H) (h : wrep g s H d v) (e : tyOf d = some t) : TyX g.K H v (.type t) := by
  cases d with
  | non => cases e; rw [wnon h]; exact .base .non
  | bl b => cases e; rw [wbl h]; exact .base (.bl b)
  | int b => cases e; rw [wint h]; exact .base (.int b)
  | str b => cases e; rw [wstr h]; exact .base (.str b)
  | tup l =>
    cases e
    obtain ⟨a, vs, rfl, q, r⟩ := wtup h
    rcases q with (q | ⟨o, q⟩) | ⟨o, its, n, q, hc, _⟩
    · exact .base (.tup (hs _ _ q))
    · exact .fTuple (hs _ _ q)
    · exact .kTuple q hc
  | lst l =>
    cases e
    obtain ⟨a, vs, rfl, q, r⟩ := h.lst hs
    exact .base (.lst q)
  | _ => cases e
def tyName : Ty → Option String
  | .int => some "int"
  | .bool => some "bool"
  | .str => some "str"
  | .tuple => some "tuple"
  | .list => some "list"
  | .cls _ => none
theorem isi_kit {d : D} {ty : Ty} {b : Bool} (h : isiD d ty = some b) : ∃ t u, tyOf d = some t ∧ tyName ty = some u ∧ kitB t u = some b := by
  cases d <;> cases ty <;> first
    | (cases h; done)
    | (cases h; exact ⟨_, _, rfl, rfl, by decide +kernel⟩)
theorem tyV_boot {ty : Ty} {u : String} (h : tyName ty = some u) : bootBuiltins u = some (.type u) := by
  cases ty <;> cases h <;> first
    | exact PyProof.Rows.boot_int
    | exact PyProof.Rows.boot_bool
    | exact PyProof.Rows.boot_str
    | exact PyProof.Rows.boot_tuple
    | exact PyProof.Rows.boot_list
theorem ty_nn {ty : Ty} {u : String} (h : tyName ty = some u) : (u : Str) ≠ "__name__" ∧ ((u : Str) == ("__debug__" : Str)) = false := by
  cases ty <;> cases h <;> exact ⟨by decide, by decide⟩
/-- isinstance(e, T) -/
theorem r_isi {ty : Ty} {u : String} {p p2 : Pos} (hg : Gl X "isinstance") (hm : X.mg "isinstance" = none) (hu : tyName ty = some u) (hg2 : Gl X u) (hm2 : X.mg u = none) (hn : ∀ x p, a ≠ .Starred x p) (ha : SP T W X a pa) :
    SE T W X (.Call (.Name "isinstance" p) [a, .Name u p2] [] pos) (mbind pa fun p => mbind (mval p) fun d => mopt ((isiAny d [ty]).map .bl)) := by
  obtain ⟨n1, n2⟩ := ty_nn hu
  have hT : PE X (.Name u p2) (tC (.ty u)) := pe_bltn hg2 hm2 (tyV_boot hu) rfl n1 n2
  refine (pe_callB call_isi hg hm PyProof.Rows.boot_isinstance (pa_cons ha (pa_cons hT pa_nil) (starCons hn)) (by decide) (by decide) (starCons hn) rfl).weak fun σ H Q ⟨s, I, q⟩ => ⟨s, I, q.bind.mono fun p s1 H1 le J q1 v hv => ?_⟩
  obtain ⟨d, w, q2⟩ := q1.val J hv
  obtain ⟨k, e, q3⟩ := q2.opt
  obtain ⟨b, e1, e2⟩ := Option.map_eq_some_iff.mp e
  subst e2
  unfold isiAny at e1
  obtain ⟨b', e3, e4⟩ := Option.bind_eq_some_iff.mp e1
  have eb : b = b' := by
    cases b' with
    | true => cases e4; rfl
    | false => cases e4; rfl
  subst eb
  obtain ⟨t, u', h1, h2, h3⟩ := isi_kit e3
  rw [hu] at h2
  cases h2
  exact ⟨v, .ty u, .type t, .type u, b, rfl, .ty u, isi_ty J.gh w h1, kit_ty h3, q3.ret J _ rfl⟩
theorem isi_any {K : PySem.W.Frag} {d : D} {t : String} (ht : tyOf d = some t) : ∀ {ts : List Ty} {us : List String} {b : Bool}, isiAny d ts = some b → ts.map tyName = us.map some → PySem.W.kitAny K (.type t) (us.map Value.type) = some b
  | [], us, b, h, hu => by
    cases us with
    | nil => cases h; rfl
    | cons _ _ => cases hu
  | ty :: ts, us, b, h, hu => by
    cases us with
    | nil => cases hu
    | cons u us =>
      have hu' : tyName ty = some u ∧ ts.map tyName = us.map some := by simpa using hu
      unfold isiAny at h
      obtain ⟨b', e1, e2⟩ := Option.bind_eq_some_iff.mp h
      obtain ⟨t', u', h1, h2, h3⟩ := isi_kit e1
      rw [ht] at h1; cases h1
      rw [hu'.1] at h2; cases h2
      refine kitAny_cons (kit_ty h3) (fun z => ?_) fun z => ?_
      · subst z; exact isi_any ht e2 hu'.2
      · subst z; cases e2; rfl
/-- the names of built-in types, as a tuple's items -/
inductive TyEs (X : Cx) : List Expr → List String → Prop where
  | nil : TyEs X [] []
  | cons {u : String} {p : Pos} {es : List Expr} {us : List String} (h : PE X (.Name u p) (tC (.ty u))) (r : TyEs X es us) : TyEs X (.Name u p :: es) (u :: us)
theorem tyEs_pa {es : List Expr} {us : List String} (h : TyEs X es us) : PA X es fun σ H Q => Q (us.map V.ty) H := by
  induction h with
  | nil => exact pa_nil
  | cons h r ih => exact pa_cons h ih
theorem ty_of_isi {d : D} {ty : Ty} {ts : List Ty} {b : Bool} (h : isiAny d (ty :: ts) = some b) : ∃ t, tyOf d = some t := by
  unfold isiAny at h
  obtain ⟨b', e1, e2⟩ := Option.bind_eq_some_iff.mp h
  obtain ⟨t', u', h1, h2, h3⟩ := isi_kit e1
  exact ⟨t', h1⟩
theorem clsVs : ∀ us : List String, Paired ClsV (us.map V.ty) (us.map Value.type)
  | [] => .nil
  | u :: us => .cons (.ty u) (clsVs us)
theorem r_isiT {ty : Ty} {ts : List Ty} {us : List String} {p p2 : Pos} {k2 : Nat} {es : List Expr} (hg : Gl X "isinstance") (hm : X.mg "isinstance" = none) (hu : (ty :: ts).map tyName = us.map some) (hes : TyEs X es us) (hl : us.length ≤ 100) (hn : ∀ x p, a ≠ .Starred x p) (ha : SP T W X a pa) :
    SE T W X (.Call (.Name "isinstance" p) [a, .Tuple es k2 p2] [] pos) (mbind pa fun p => mbind (mval p) fun d => mopt ((isiAny d (ty :: ts)).map .bl)) := by
  refine (pe_callB call_isiT hg hm PyProof.Rows.boot_isinstance (pa_cons ha (pa_cons (pe_tup (tyEs_pa hes)) pa_nil) (starCons hn)) (by decide) (by decide) (starCons hn) rfl).weak fun σ H Q ⟨s, I, q⟩ => ⟨s, I, q.bind.mono fun p s1 H1 le J q1 v hv => ?_⟩
  obtain ⟨d, w, q2⟩ := q1.val J hv
  obtain ⟨k, e, q3⟩ := q2.opt
  obtain ⟨b, e1, e2⟩ := Option.map_eq_some_iff.mp e
  subst e2
  obtain ⟨t, ht⟩ := ty_of_isi e1
  refine ⟨by rw [List.length_map, sizeLine_eq]; omega, fun tp htp => ?_⟩
  have J2 := J.fresh (o := .tup (us.map V.ty)) htp
  have w2 : wrep X.gp s1 (upd H1 tp (.tup (us.map V.ty))) d v := by
    rcases w with w | ⟨l, a, vs, z1, z2, z3, z4⟩
    · exact .inl w
    · exact .inr ⟨l, a, vs, z1, z2, Sub.add htp _ _ z3, z4⟩
  exact ⟨v, tp, us.map V.ty, .type t, us.map Value.type, b, rfl, upd_same, clsVs us, isi_ty J2.gh w2 ht, isi_any ht e1 hu, q3.ret J2 _ rfl⟩
end
end MP

namespace MP
open PySem PySem.Spec L2
/-- a later place of the same block; what is being built there may differ -/
structure Lp (s s' : Sg) : Prop where
  H0 : s'.B.H0 = s.B.H0
  G0 : s'.B.G0 = s.B.G0
  μ0 : s'.B.μ0 = s.B.μ0
  G : Sub s.G s'.G
  μ : ∀ (n : Nat) (a : Addr), s.μ[n]? = some a → s'.μ[n]? = some a
theorem Lp.refl (s : Sg) : Lp s s := ⟨rfl, rfl, rfl, Sub.refl _, fun _ _ h => h⟩
theorem Lp.trans {s s1 s2 : Sg} (a : Lp s s1) (b : Lp s1 s2) : Lp s s2 := ⟨b.H0.trans a.H0, b.G0.trans a.G0, b.μ0.trans a.μ0, a.G.trans b.G, fun n x h => b.μ n x (a.μ n x h)⟩
theorem Le.lp {s s' : Sg} (h : Le s s') : Lp s s' := ⟨by rw [h.B], by rw [h.B], by rw [h.B], h.G, h.μ⟩
theorem rep_lp {g : Gp} {s s' : Sg} (l : Lp s s') {d : D} {v : V} (h : rep g s.μ s.G d v) : rep g s'.μ s'.G d v := rep_mono l.G l.μ d v h
theorem reps_lp {g : Gp} {s s' : Sg} (l : Lp s s') {d : List D} {v : List V} (h : reps g s.μ s.G d v) : reps g s'.μ s'.G d v := reps_mono l.G l.μ d v h
/-- J walks the list l from the place s on -/
structure Wk (g : Gp) (T : List NdefX.NTab) (J : L2.It) (l : List D) (s : Sg) : Prop where
  go : ∀ i s' σ H, i < l.length → Lp s s' → At g T s' σ H → J.go i H
  stop : ∀ s' σ H, Lp s s' → At g T s' σ H → J.stop l.length H
  yld : ∀ i s' σ H x H', i < l.length → Lp s s' → At g T s' σ H → J.yld i H x H' → ∃ d s'', l[i]? = some d ∧ Le s' s'' ∧ s''.ρ = s'.ρ ∧ s''.S = s'.S ∧ At g T s'' σ H' ∧ rep g s''.μ s''.G d x
/-- a value that stays -/
def Stay (g : Gp) (T : List NdefX.NTab) (s : Sg) (d : D) (v : V) : Prop := ∀ s' σ H, Lp s s' → At g T s' σ H → wrep g s' H d v
section
variable {g : Gp} {T : List NdefX.NTab} {W : WX} {s : Sg} {σ : L2.St} {H : Hp}
theorem SqT.mono {K : PySem.W.Frag} {G H : Hp} {a : Addr} {vs : List V} (h : Sub G H) (q : SqT K G a vs) : SqT K H a vs := by
  rcases q with (q | ⟨o, q⟩) | q
  · exact .inl (.inl (h _ _ q))
  · exact .inl (.inr ⟨o, h _ _ q⟩)
  · exact .inr q
theorem SqL.mono {K : PySem.W.Frag} {G H : Hp} {a : Addr} {vs : List V} (h : Sub G H) (q : SqL K G a vs) : SqL K H a vs := by
  rcases q with (q | ⟨o, q⟩) | q
  · exact .inl (.inl (h _ _ q))
  · exact .inl (.inr ⟨o, h _ _ q⟩)
  · exact .inr q
theorem Aft.resL {p : PV} {v : V} {β : Type} {k : D → M β} {Q : β → Sg → Hp → Prop} (h : Aft g T W (mbind (mresL p) k) s σ Q) (I : At g T s σ H) (hp : prep g s σ p v) : ∃ d, Stay g T s d v ∧ Aft g T W (k d) s σ Q := by
  cases p with
  | v d => exact ⟨d, fun s' σ' H' l J => .inl (rep_lp l hp), h⟩
  | s i =>
    have hp : σ[i]? = some (some v) := hp
    unfold Aft mbind mresL at h
    cases es : s.ρ[i]? with
    | none => simp only [es] at h
    | some sl =>
      cases sl with
      | none => simp only [es] at h
      | val d => simp only [es] at h
      | own o => simp only [es] at h
      | lck o =>
        cases o with
        | dct _ _ => 
          obtain ⟨a, e1, r, nm⟩ := I.slots i _ es
          exact r.elim
        | ins _ _ => simp only [es, moD] at h
        | lst l =>
          simp only [es, moD] at h
          refine ⟨.lst l, fun s' σ' H' le J => ?_, h⟩
          obtain ⟨a, e1, ⟨vs, e2, r⟩, nm⟩ := I.slots i _ es
          rw [hp] at e1; cases e1
          exact .inr ⟨l, a, vs, rfl, rfl, J.base a _ (by rw [le.H0]; exact e2) (by rw [le.μ0]; exact nm) (fun ps z => nomatch z), reps_lp le r⟩
theorem reps_at {μ : List Addr} {G : Hp} {l : List D} {vs : List V} {i : Nat} (h : reps g μ G l vs) (hi : i < l.length) : ∃ d v, l[i]? = some d ∧ vs[i]? = some v ∧ rep g μ G d v := by
  obtain ⟨v, e, r⟩ := reps_get h (List.getElem?_eq_getElem hi)
  exact ⟨_, v, List.getElem?_eq_getElem hi, e, r⟩
/-- lists and tuples that stay -/
def StL (g : Gp) (T : List NdefX.NTab) (s : Sg) (l : List D) (a : Addr) : Prop := ∀ s' σ H, Lp s s' → At g T s' σ H → ∃ vs, SqL g.K H a vs ∧ reps g s'.μ s'.G l vs
def StT (g : Gp) (T : List NdefX.NTab) (s : Sg) (l : List D) (a : Addr) : Prop := ∀ s' σ H, Lp s s' → At g T s' σ H → ∃ vs, SqT g.K H a vs ∧ reps g s'.μ s'.G l vs
theorem Stay.lst {l : List D} {v : V} (h : Stay g T s (.lst l) v) (I : At g T s σ H) : ∃ a, v = .ref a ∧ StL g T s l a := by
  obtain ⟨a, vs, e, _, _⟩ := (h s σ H (Lp.refl s) I).lst I.gh
  refine ⟨a, e, fun s' σ' H' le J => ?_⟩
  obtain ⟨a', vs', e', q, r⟩ := (h s' σ' H' le J).lst J.gh
  rw [e] at e'; cases e'
  exact ⟨vs', SqL.of q, r⟩
theorem Stay.fz {l : List D} {v : V} (h : Stay g T s (.fz l) v) (I : At g T s σ H) : ∃ a, v = .ref a ∧ StL g T s l a := by
  obtain ⟨a, vs, e, _, _⟩ := (h s σ H (Lp.refl s) I).rep (fun _ z => nomatch z)
  refine ⟨a, e, fun s' σ' H' le J => ?_⟩
  obtain ⟨a', vs', e', q, r⟩ := (h s' σ' H' le J).rep (fun _ z => nomatch z)
  rw [e] at e'; cases e'
  exact ⟨vs', SqL.mono J.gh q, r⟩
theorem Stay.tup {l : List D} {v : V} (h : Stay g T s (.tup l) v) (I : At g T s σ H) : ∃ a, v = .ref a ∧ StT g T s l a := by
  obtain ⟨a, vs, e, _, _⟩ := wtup (h s σ H (Lp.refl s) I)
  refine ⟨a, e, fun s' σ' H' le J => ?_⟩
  obtain ⟨a', vs', e', q, r⟩ := wtup (h s' σ' H' le J)
  rw [e] at e'; cases e'
  exact ⟨vs', SqT.mono J.gh q, r⟩
theorem wk_list {l : List D} {a : Addr} (h : StL g T s l a) : Wk g T (Itl g.K a) l s where
  go := fun i s' σ H hi le J => by
    obtain ⟨vs, q, r⟩ := h s' σ H le J
    obtain ⟨d, v, _, e, _⟩ := reps_at r hi
    exact ⟨vs, v, q, e⟩
  stop := fun s' σ H le J => by
    obtain ⟨vs, q, r⟩ := h s' σ H le J
    exact ⟨vs, q, Nat.le_of_eq (reps_len r).symm⟩
  yld := fun i s' σ H x H' hi le J y => by
    obtain ⟨vs, q, r⟩ := h s' σ H le J
    obtain ⟨e, y⟩ := y
    subst e
    obtain ⟨d, v, e1, e2, r1⟩ := reps_at r hi
    have := y vs q
    rw [e2] at this
    cases this
    exact ⟨d, s', e1, Le.refl _, rfl, rfl, J, r1⟩
theorem wk_tup {l : List D} {a : Addr} (h : StT g T s l a) : Wk g T (Itt g.K a) l s where
  go := fun i s' σ H hi le J => by
    obtain ⟨vs, q, r⟩ := h s' σ H le J
    obtain ⟨d, v, _, e, _⟩ := reps_at r hi
    exact ⟨vs, v, q, e⟩
  stop := fun s' σ H le J => by
    obtain ⟨vs, q, r⟩ := h s' σ H le J
    exact ⟨vs, q, Nat.le_of_eq (reps_len r).symm⟩
  yld := fun i s' σ H x H' hi le J y => by
    obtain ⟨vs, q, r⟩ := h s' σ H le J
    obtain ⟨e, y⟩ := y
    subst e
    obtain ⟨d, v, e1, e2, r1⟩ := reps_at r hi
    have := y vs q
    rw [e2] at this
    cases this
    exact ⟨d, s', e1, Le.refl _, rfl, rfl, J, r1⟩
theorem wk_str {z : Str} : Wk g T (Its z) (z.cps.toList.map fun c => .str ⟨#[c]⟩) s where
  go := fun i s' σ H hi le J => by
    rw [List.length_map, Array.length_toList] at hi
    exact hi
  stop := fun s' σ H le J => by
    rw [List.length_map, Array.length_toList]
    exact Nat.le_refl _
  yld := fun i s' σ H x H' hi le J y => by
    obtain ⟨e, c, e1, e2⟩ := y
    subst e e2
    exact ⟨.str ⟨#[c]⟩, s', by rw [List.getElem?_map, Array.getElem?_toList, e1]; rfl, Le.refl _, rfl, rfl, J, rfl⟩
theorem intsFrom_len : ∀ (lo : Int) (n : Nat), (intsFrom lo n).length = n
  | lo, 0 => rfl
  | lo, n + 1 => by unfold intsFrom; rw [List.length_cons, intsFrom_len]
theorem intsFrom_get : ∀ (lo : Int) (n i : Nat), i < n → (intsFrom lo n)[i]? = some (.int (lo + i))
  | lo, n + 1, 0, _ => by unfold intsFrom; simp
  | lo, n + 1, i + 1, h => by
    unfold intsFrom
    rw [List.getElem?_cons_succ, intsFrom_get (lo + 1) n i (by omega)]
    congr 2
    omega
theorem wk_range {lo : Int} {n : Nat} : Wk g T (Itr lo n) (intsFrom lo n) s where
  go := fun i s' σ H hi le J => by rw [intsFrom_len] at hi; exact hi
  stop := fun s' σ H le J => by rw [intsFrom_len]; exact Nat.le_refl _
  yld := fun i s' σ H x H' hi le J y => by
    obtain ⟨e, e2⟩ := y
    rw [intsFrom_len] at hi
    subst e e2
    exact ⟨_, s', intsFrom_get lo n i hi, Le.refl _, rfl, rfl, J, rfl⟩
theorem stepsFrom_len : ∀ (lo c : Int) (n : Nat), (stepsFrom lo c n).length = n
  | lo, c, 0 => rfl
  | lo, c, n + 1 => by unfold stepsFrom; rw [List.length_cons, stepsFrom_len]
theorem stepsFrom_get : ∀ (lo c : Int) (n i : Nat), i < n → (stepsFrom lo c n)[i]? = some (.int (lo + i * c))
  | lo, c, n + 1, 0, _ => by unfold stepsFrom; simp
  | lo, c, n + 1, i + 1, h => by
    unfold stepsFrom
    rw [List.getElem?_cons_succ, stepsFrom_get (lo + c) c n i (by omega)]
    congr 2
    rw [Int.natCast_succ, Int.add_mul, Int.one_mul]
    omega
theorem wk_rangeC {lo c : Int} {n : Nat} : Wk g T (Itc lo c n) (stepsFrom lo c n) s where
  go := fun i s' σ H hi le J => by rw [stepsFrom_len] at hi; exact hi
  stop := fun s' σ H le J => by rw [stepsFrom_len]; exact Nat.le_refl _
  yld := fun i s' σ H x H' hi le J y => by
    obtain ⟨e, e2⟩ := y
    rw [stepsFrom_len] at hi
    subst e e2
    exact ⟨_, s', stepsFrom_get lo c n i hi, Le.refl _, rfl, rfl, J, rfl⟩
theorem zipD_len : ∀ (a b : List D), (zipD a b).length = min a.length b.length
  | [], _ => by simp [zipD]
  | _ :: _, [] => by simp [zipD]
  | x :: a, y :: b => by unfold zipD; rw [List.length_cons, zipD_len]; simp only [List.length_cons]; omega
theorem zipD_get : ∀ {a b : List D} {i : Nat} {x y : D}, a[i]? = some x → b[i]? = some y → (zipD a b)[i]? = some (.tup [x, y])
  | [], _, _, _, _, h, _ => by simp at h
  | _ :: _, [], _, _, _, _, h => by simp at h
  | x' :: a, y' :: b, 0, _, _, h, h' => by
    simp at h h'
    subst h h'
    simp [zipD]
  | x' :: a, y' :: b, i + 1, _, _, h, h' => by
    unfold zipD
    rw [List.getElem?_cons_succ]
    exact zipD_get (by simpa using h) (by simpa using h')
/-- a new pair -/
theorem newpair {s' : Sg} {T' : Addr} {x y : D} {vx vy : V} (J : At g T s' σ H) (hT : H T' = none) (hx : rep g s'.μ s'.G x vx) (hy : rep g s'.μ s'.G y vy) : ∃ s'', Le s' s'' ∧ s''.ρ = s'.ρ ∧ s''.S = s'.S ∧ At g T s'' σ (upd H T' (.tup [vx, vy])) ∧ rep g s''.μ s''.G (.tup [x, y]) (.ref T') :=
  J.newtup hT ⟨vx, [vy], rfl, hx, vy, [], rfl, hy, rfl⟩
theorem wk_zip {la lb : List D} {a b : Addr} (h1 : StL g T s la a) (h2 : StL g T s lb b) : Wk g T (Itz g.K a b) (zipD la lb) s where
  go := fun i s' σ H hi le J => by
    rw [zipD_len] at hi
    obtain ⟨vs, q, r⟩ := h1 s' σ H le J
    obtain ⟨vs', q', r'⟩ := h2 s' σ H le J
    obtain ⟨d, v, _, e, _⟩ := reps_at r (show i < la.length by omega)
    obtain ⟨d', v', _, e', _⟩ := reps_at r' (show i < lb.length by omega)
    exact ⟨vs, vs', v, v', q, q', e, e'⟩
  stop := fun s' σ H le J => by
    obtain ⟨vs, q, r⟩ := h1 s' σ H le J
    obtain ⟨vs', q', r'⟩ := h2 s' σ H le J
    rw [zipD_len]
    have e1 := reps_len r
    have e2 := reps_len r'
    exact ⟨vs, vs', q, q', by omega⟩
  yld := fun i s' σ H x H' hi le J y => by
    rw [zipD_len] at hi
    obtain ⟨vs, q, r⟩ := h1 s' σ H le J
    obtain ⟨vs', q', r'⟩ := h2 s' σ H le J
    obtain ⟨d, v, e1, e2, r1⟩ := reps_at r (show i < la.length by omega)
    obtain ⟨d', v', e1', e2', r1'⟩ := reps_at r' (show i < lb.length by omega)
    obtain ⟨T', p, p', rfl, hT, rfl, y1, y2⟩ := y
    have z := y1 vs q
    have z' := y2 vs' q'
    rw [e2] at z; rw [e2'] at z'
    cases z; cases z'
    obtain ⟨s'', k⟩ := newpair J hT r1 r1'
    exact ⟨_, s'', zipD_get e1 e1', k⟩
theorem wk_zipT {la lb : List D} {a b : Addr} (h1 : StT g T s la a) (h2 : StT g T s lb b) : Wk g T (RZ.ItzT g.K a b) (zipD la lb) s where
  go := fun i s' σ H hi le J => by
    rw [zipD_len] at hi
    obtain ⟨vs, q, r⟩ := h1 s' σ H le J
    obtain ⟨vs', q', r'⟩ := h2 s' σ H le J
    obtain ⟨d, v, _, e, _⟩ := reps_at r (show i < la.length by omega)
    obtain ⟨d', v', _, e', _⟩ := reps_at r' (show i < lb.length by omega)
    exact ⟨vs, vs', v, v', q, q', e, e'⟩
  stop := fun s' σ H le J => by
    obtain ⟨vs, q, r⟩ := h1 s' σ H le J
    obtain ⟨vs', q', r'⟩ := h2 s' σ H le J
    rw [zipD_len]
    have e1 := reps_len r
    have e2 := reps_len r'
    exact ⟨vs, vs', q, q', by omega⟩
  yld := fun i s' σ H x H' hi le J y => by
    rw [zipD_len] at hi
    obtain ⟨vs, q, r⟩ := h1 s' σ H le J
    obtain ⟨vs', q', r'⟩ := h2 s' σ H le J
    obtain ⟨d, v, e1, e2, r1⟩ := reps_at r (show i < la.length by omega)
    obtain ⟨d', v', e1', e2', r1'⟩ := reps_at r' (show i < lb.length by omega)
    obtain ⟨T', p, p', rfl, hT, rfl, y1, y2⟩ := y
    have z := y1 vs q
    have z' := y2 vs' q'
    rw [e2] at z; rw [e2'] at z'
    cases z; cases z'
    obtain ⟨s'', k⟩ := newpair J hT r1 r1'
    exact ⟨_, s'', zipD_get e1 e1', k⟩
theorem enumD_len : ∀ (l : List D) (k : Int), (enumD l k).length = l.length
  | [], _ => rfl
  | d :: l, k => by unfold enumD; rw [List.length_cons, List.length_cons, enumD_len]
theorem enumD_get : ∀ {l : List D} {k : Int} {i : Nat} {d : D}, l[i]? = some d → (enumD l k)[i]? = some (.tup [.int (k + i), d])
  | [], _, _, _, h => by simp at h
  | d' :: l, k, 0, d, h => by simp at h; subst h; simp [enumD]
  | d' :: l, k, i + 1, d, h => by
    unfold enumD
    rw [List.getElem?_cons_succ, enumD_get (by simpa using h)]
    congr 4
    omega
theorem wk_enum {l : List D} {a : Addr} (h : StL g T s l a) : Wk g T (Ite g.K a) (enumD l 0) s where
  go := fun i s' σ H hi le J => by
    rw [enumD_len] at hi
    obtain ⟨vs, q, r⟩ := h s' σ H le J
    obtain ⟨d, v, _, e, _⟩ := reps_at r hi
    exact ⟨vs, v, q, e⟩
  stop := fun s' σ H le J => by
    obtain ⟨vs, q, r⟩ := h s' σ H le J
    exact ⟨vs, q, by rw [enumD_len]; exact Nat.le_of_eq (reps_len r).symm⟩
  yld := fun i s' σ H x H' hi le J y => by
    rw [enumD_len] at hi
    obtain ⟨vs, q, r⟩ := h s' σ H le J
    obtain ⟨T', p, rfl, hT, rfl, y1⟩ := y
    obtain ⟨d, v, e1, e2, r1⟩ := reps_at r hi
    have z := y1 vs q
    rw [e2] at z
    cases z
    obtain ⟨s'', k⟩ := newpair (x := .int (i : Nat)) (vx := .int (i : Nat)) J hT rfl r1
    exact ⟨_, s'', by rw [enumD_get e1]; congr 4; omega, k⟩
end
end MP

namespace MP
open PySem PySem.Spec L2
mutual
def tgIx : Tg → List Nat
  | .v i => [i]
  | .tup ts => tgIxs ts
  | .tupS _ ts => tgIxs ts
def tgIxs : Tgs → List Nat
  | .nil => []
  | .cons t ts => tgIx t ++ tgIxs ts
end
section
variable {g : Gp} {T : List NdefX.NTab} {W : WX} {s : Sg} {σ : L2.St} {H : Hp}
/-- the value of an iterable, and what walks it -/
def tI (T : List NdefX.NTab) (W : WX) (g : Gp) (m : M (List D)) : TI := fun σ H R => ∃ s, At g T s σ H ∧ Aft g T W m s σ fun l s' H' => ∀ J, Wk g T J l s' → R J H'
/-- a value is laid into names -/
def tG (T : List NdefX.NTab) (g : Gp) (ix : List Nat) (f : D → M Unit) : TG := fun v σ H Q => ∃ s d, At g T s σ H ∧ rep g s.μ s.G d v ∧ (match f d s.ρ s.S with
  | .ok _ ρ S => ∀ s' σ' H', Le s s' → s'.ρ = ρ → s'.S = S → At g T s' σ' H' → σ'.length = σ.length → (∀ i, i ∉ ix → σ'[i]? = σ[i]?) → Q σ' H'
  | _ => False)
theorem wipe_at : ∀ (vs : List Nat) (σ : L2.St) (i : Nat), (wipe σ vs)[i]? = if i ∈ vs then (if i < σ.length then some none else none) else σ[i]?
  | [], σ, i => by simp [wipe]
  | v :: vs, σ, i => by
    show ((wipe σ vs).set v none)[i]? = _
    by_cases h : i = v
    · subst h
      rw [if_pos List.mem_cons_self, List.getElem?_set]
      simp [wipe_length]
    · rw [List.getElem?_set_ne (Ne.symm h), wipe_at vs σ i]
      simp [h]
theorem wipe_eq {σ σ2 : L2.St} {vs ix : List Nat} (hl : σ2.length = σ.length) (h : ∀ i, i ∉ ix → σ2[i]? = (wipe σ vs)[i]?) (hi : ∀ i ∈ ix, i ∈ vs) : wipe σ2 vs = wipe σ vs := by
  apply List.ext_getElem?
  intro i
  rw [wipe_at, wipe_at, hl]
  by_cases hv : i ∈ vs
  · rw [if_pos hv, if_pos hv]
  · rw [if_neg hv, if_neg hv, h i (fun z => hv (hi i z)), wipe_at, if_neg hv]
theorem wipeF_len : ∀ (vs : List Nat) (ρ : Fr), (wipeF ρ vs).length = ρ.length
  | [], _ => rfl
  | v :: vs, ρ => by show ((wipeF ρ vs).set v .none).length = _; rw [List.length_set, wipeF_len]
theorem At.wipe (I : At g T s σ H) : ∀ vs : List Nat, At g T { s with ρ := wipeF s.ρ vs } (wipe σ vs) H
  | [] => I
  | v :: vs => Sim.clear (I.wipe vs) v
theorem lockF_no (ρ : Fr) : ∀ (i : Nat) m, (lockF ρ)[i]? ≠ some (.own m) := fun i m e => by
  rw [lockF, List.getElem?_map] at e
  cases h : ρ[i]? with
  | none => rw [h] at e; cases e
  | some sl => rw [h] at e; cases sl <;> cases e
theorem noOwn_no {ρ : Fr} (h : noOwn ρ = true) : ∀ (i : Nat) m, ρ[i]? ≠ some (.own m) := fun i m e => by
  have := List.all_eq_true.mp h _ (List.mem_of_getElem? e)
  cases this
/-- the place of a block in this frame -/
def lockSg (s : Sg) (H : Hp) : Sg := ⟨⟨H, s.G, s.μ, fun _ => none⟩, s.G, s.μ, lockF s.ρ, s.S⟩
theorem At.lock (I : At g T s σ H) : At g T (lockSg s H) σ H := Sim.block I (by show (lockF s.ρ).length = _; unfold lockF; rw [List.length_map]; exact I.len) fun i sl e => by
  have e : (lockF s.ρ)[i]? = some sl := e
  unfold lockF at e
  rw [List.getElem?_map] at e
  cases h : s.ρ[i]? with
  | none => rw [h] at e; cases e
  | some sl' =>
    rw [h] at e
    cases e
    exact .inr ⟨sl', rfl, rfl, rfl⟩
/-- the new list at L is acc, at the place s -/
structure Bld (g : Gp) (L : Addr) (acc : List D) (accV : List V) (s : Sg) : Prop where
  pin : s.B.pin L = some accV
  rep : reps g s.μ s.G acc accV
theorem flatM_cons {α : Type} {f : α → M (List D)} {a : α} {r : List α} {ρ S y ρ' S'} (h : flatM f (a :: r) ρ S = .ok y ρ' S') : ∃ x ρ1 S1 z, f a ρ S = .ok x ρ1 S1 ∧ flatM f r ρ1 S1 = .ok z ρ' S' ∧ y = x ++ z := by
  show ∃ x ρ1 S1 z, _
  have h : mbind (f a) (fun x => mbind (flatM f r) fun y => mret (x ++ y)) ρ S = .ok y ρ' S' := h
  unfold mbind at h
  cases e : f a ρ S with
  | ok x ρ1 S1 =>
    rw [e] at h
    dsimp only at h
    cases e2 : flatM f r ρ1 S1 with
    | ok z ρ2 S2 =>
      rw [e2] at h
      cases h
      exact ⟨x, ρ1, S1, z, rfl, e2, rfl⟩
    | exc c ρ2 S2 => rw [e2] at h; cases h
    | stk => rw [e2] at h; cases h
  | exc c ρ1 S1 => rw [e] at h; cases h
  | stk => rw [e] at h; cases h
theorem mbind_ok {α β : Type} {m : M α} {k : α → M β} {ρ S b ρ' S'} (h : mbind m k ρ S = .ok b ρ' S') : ∃ a ρ1 S1, m ρ S = .ok a ρ1 S1 ∧ k a ρ1 S1 = .ok b ρ' S' := by
  unfold mbind at h
  cases e : m ρ S with
  | ok a ρ1 S1 => rw [e] at h; exact ⟨a, ρ1, S1, rfl, h⟩
  | exc c ρ1 S1 => rw [e] at h; cases h
  | stk => rw [e] at h; cases h
theorem shut_ok {α : Type} {m : M α} {ρ0 ρ S a ρ' S'} (h : shut m ρ0 ρ S = .ok a ρ' S') : ∃ ρ1, m ρ0 S = .ok a ρ1 S' ∧ ρ' = ρ := by
  unfold shut at h
  cases e : m ρ0 S with
  | ok a1 ρ1 S1 => rw [e] at h; cases h; exact ⟨ρ1, rfl, rfl⟩
  | exc c ρ1 S1 => rw [e] at h; cases h
  | stk => rw [e] at h; cases h
/-- what a turn's body is told by: it puts more behind what stands at L -/
def BodyOk (g : Gp) (T : List NdefX.NTab) (L : Addr) (mb : M (List D)) (Body : L2.St → Hp → (Hp → Prop) → Prop) : Prop :=
  ∀ (s3 : Sg) (σ3 : L2.St) (H3 : Hp) (acc : List D) (accV : List V) (x : List D) (ρ' : Fr) (S' : Store) (Nx : Hp → Prop), At g T s3 σ3 H3 → Bld g L acc accV s3 → acc.length + x.length ≤ 16777216 → mb s3.ρ s3.S = .ok x ρ' S' →
    (∀ s4 σ4 H4 accV', Lp s3 s4 → s4.S = S' → At g T s4 σ4 H4 → Bld g L (acc ++ x) accV' s4 → Nx H4) → Body σ3 H3 Nx
/-- the turns of a clause -/
theorem lp_walk {J : L2.It} {l : List D} {s1 : Sg} {L : Addr} {acc r : List D} {accV : List V} {own : List Nat} {ft : D → M Unit} {ix : List Nat} {mc : M Bool} {mb : M (List D)} {Body : L2.St → Hp → (Hp → Prop) → Prop} {ρ' : Fr} {S' : Store} {Fin : Hp → Prop}
    (I : At g T s1 σ H) (wk : Wk g T J l s1) (no : ∀ (i : Nat) m, s1.ρ[i]? ≠ some (.own m)) (b : Bld g L acc accV s1) (hl : acc.length + r.length ≤ 16777216) (hix : ∀ i ∈ ix, i ∈ own)
    (h : flatM (fun d => fun ρ S => shut (mbind (ft d) fun _ => mbind mc fun k => if k then mb else mret []) (wipeF ρ own) ρ S) l s1.ρ s1.S = .ok r ρ' S')
    (hb : BodyOk g T L mb Body)
    (hd : ∀ s4 H4 accV', Lp s1 s4 → s4.ρ = s1.ρ → s4.S = S' → At g T s4 σ H4 → Bld g L (acc ++ r) accV' s4 → Fin H4) :
    ∃ Wf : Nat → Nat → Hp → Prop, (∃ m, Wf 0 m H) ∧ ∀ i m H, Wf i m H → (J.stop i H ∧ Fin H) ∨ (J.go i H ∧ ∃ Nx : Hp → Prop, (∀ H', Nx H' → ∃ m', m' < m ∧ Wf (i + 1) m' H') ∧ ∀ x H', J.yld i H x H' →
      tG T g ix ft x (wipe σ own) H' fun σ2 H2 => wipe σ2 own = wipe σ own ∧ tB T (fun _ _ _ _ => False) g mc σ2 H2 fun b H3 => if b = true then Body σ2 H3 Nx else Nx H3) := by
  -- the state at turn i
  let Pv : Nat → Hp → Prop := fun i H => ∃ si accI accVI rest, Lp s1 si ∧ si.ρ = s1.ρ ∧ At g T si σ H ∧ Bld g L accI accVI si ∧ accI ++ rest = acc ++ r ∧
    flatM (fun d => fun ρ S => shut (mbind (ft d) fun _ => mbind mc fun k => if k then mb else mret []) (wipeF ρ own) ρ S) (l.drop i) s1.ρ si.S = .ok rest ρ' S'
  refine ⟨fun i m H => m = l.length - i ∧ i ≤ l.length ∧ Pv i H, ⟨l.length, by simp, Nat.zero_le _, s1, acc, accV, r, Lp.refl _, rfl, I, b, rfl, h⟩, ?_⟩
  rintro i m H1 ⟨rfl, hi, si, accI, accVI, rest, le, er, Ii, bi, ea, hf⟩
  by_cases hlt : i < l.length
  · refine .inr ⟨wk.go i si σ H1 hlt le Ii, Pv (i + 1), fun H' p' => ⟨l.length - (i + 1), by omega, rfl, hlt, p'⟩, fun x H' y => ?_⟩
    obtain ⟨d, s2, e1, le2, er2, es2, I2, rx⟩ := wk.yld i si σ H1 x H' hlt le Ii y
    have hdrop : l.drop i = d :: l.drop (i + 1) := by
      rw [List.drop_eq_getElem_cons hlt]
      congr 1
      rw [List.getElem?_eq_getElem hlt] at e1
      exact Option.some.inj e1
    rw [hdrop] at hf
    obtain ⟨x1, ρ1, S1, z, hF, hrest, ez⟩ := flatM_cons hf
    obtain ⟨ρ4, hF2, e⟩ := shut_ok hF
    subst e
    obtain ⟨u, ρ2, S2, hT, hF3⟩ := mbind_ok hF2
    obtain ⟨k, ρ3, S3, hC, hF4⟩ := mbind_ok hF3
    have Iw := I2.wipe own
    have b2 : Bld g L accI accVI s2 := ⟨by rw [le2.B]; exact bi.pin, reps_le le2 bi.rep⟩
    refine ⟨{ s2 with ρ := wipeF s2.ρ own }, d, Iw, rx, ?_⟩
    show (match ft d (wipeF s2.ρ own) s2.S with | .ok _ ρ S => _ | _ => False)
    rw [er2, er, es2, hT]
    intro s3 σ3 H3 le3 er3 es3 I3 hlen hframe
    refine ⟨wipe_eq (by rw [hlen, wipe_length]) hframe hix, s3, I3, ?_⟩
    unfold Aft
    rw [er3, es3, hC]
    intro s4 H4 le4 er4 es4 I4
    -- back to the turn's frame
    have back : ∀ s5 σ5 H5 accV', Lp s4 s5 → s5.S = S1 → At g T s5 σ5 H5 → Bld g L (accI ++ x1) accV' s5 → Pv (i + 1) H5 := fun s5 σ5 H5 accV' le5 es5 I5 b5 => by
      have lw := (le3.trans le4).lp.trans le5
      have l2 : Lp s2 s5 := ⟨lw.H0, lw.G0, lw.μ0, lw.G, lw.μ⟩
      refine ⟨{ s5 with ρ := s1.ρ }, accI ++ x1, accV', z, ?_, rfl, ?_, ⟨b5.pin, b5.rep⟩, by rw [List.append_assoc, ← ez, ea], by show flatM _ (l.drop (i + 1)) s1.ρ s5.S = _; rw [es5]; exact hrest⟩
      · have l3 := le.trans (le2.lp.trans l2)
        exact ⟨l3.H0, l3.G0, l3.μ0, l3.G, l3.μ⟩
      · have J := Sim.reframe I2 I5 l2.H0 l2.μ0 l2.G l2.μ (by rw [er2, er]; exact no)
        rw [er2, er] at J
        exact J
    have b4 : Bld g L accI accVI s4 := ⟨by rw [le4.B, le3.B]; exact b2.pin, reps_le le4 (reps_le le3 b2.rep)⟩
    cases k with
    | false =>
      cases hF4
      refine back s4 σ3 H4 accVI (Lp.refl _) es4 I4 ?_
      rw [List.append_nil]
      exact b4
    | true =>
      refine hb s4 σ3 H4 accI accVI x1 ρ4 S1 (Pv (i + 1)) I4 b4 ?_ (by rw [er4, es4]; exact hF4) fun s5 σ5 H5 accV' le5 es5 I5 b5 => back s5 σ5 H5 accV' le5 es5 I5 b5
      have e := congrArg List.length ea
      rw [ez] at e
      simp only [List.length_append] at e
      omega
  · have e : i = l.length := by omega
    subst e
    rw [List.drop_length] at hf
    cases hf
    refine .inl ⟨wk.stop si σ H1 le Ii, hd si H1 accVI le er rfl Ii ?_⟩
    rw [← ea, List.append_nil]
    exact bi
end
end MP

namespace MP
open PySem PySem.Spec L2
abbrev WF : WX := fun _ _ _ _ => False
section
variable {T : List NdefX.NTab} {W : WX} {X : Cx} {pos : Pos} {g : Gp}
abbrev SI (T : List NdefX.NTab) (W : WX) (X : Cx) (tg e : Expr) (m : M (List D)) : Prop := PI X tg e (tI T W X.gp m)
abbrev SG (T : List NdefX.NTab) (X : Cx) (tg : Expr) (ix : List Nat) (f : D → M Unit) : Prop := PG X tg (tG T X.gp ix f)
/-- a clause's tests -/
abbrev STs (T : List NdefX.NTab) (X : Cx) (ifs : List Expr) (m : M Bool) : Prop := PTs X ifs (tB T WF X.gp m)
/-- the end of a comprehension: a fresh list -/
theorem lc_end {s : Sg} {σ : L2.St} {H : Hp} {L : Addr} {r : List D} {s4 : Sg} {H4 : Hp} {accV : List V} {S' : Store} (I : At g T s σ H) (hL : H L = none) (le : Lp (lockSg s H) s4) (es : s4.S = S') (I4 : At g T s4 σ H4) (b : Bld g L r accV s4) :
    ∃ s5, Le s s5 ∧ s5.ρ = s.ρ ∧ s5.S = S' ∧ At g T s5 σ H4 ∧ Fresh g s5 σ H4 r (.ref L) := by
  obtain ⟨⟨B0, BG, Bμ, Bp⟩, G4, μ4, ρ4, S4⟩ := s4
  obtain rfl : B0 = H := le.H0
  obtain rfl : BG = s.G := le.G0
  obtain rfl : Bμ = s.μ := le.μ0
  obtain ⟨J, hG, hμ⟩ := Sim.mono_base I I4
  obtain ⟨p1, p2, p3, p4, p5⟩ := I4.pins L accV b.pin
  refine ⟨⟨s.B, G4, μ4, s.ρ, S4⟩, ⟨rfl, hG, hμ⟩, rfl, es, J, L, accV, rfl, p1, b.rep, p2, p3, I.gone L hL, I.npin hL, fun i m e => I.own_ne hL e⟩
theorem bodyFin {L : Addr} {me : M D} : BodyOk g T L (mbind me fun d => mret [d]) (fun σ3 H3 Nx => tE T WF g me σ3 H3 fun y H7 => ∃ acc, H7 L = some (.lst acc) ∧ acc.length < sizeLine ∧ Nx (upd H7 L (.lst (acc ++ [y])))) := by
  intro s3 σ3 H3 acc accV x ρ' S' Nx I3 b hl hm hN
  obtain ⟨d, ρ1, S1, e1, e2⟩ := mbind_ok hm
  cases e2
  refine ⟨s3, I3, ?_⟩
  unfold Aft
  rw [e1]
  intro s4 H4 le er es I4 v hv
  have bp : s4.B.pin L = some accV := by rw [le.B]; exact b.pin
  obtain ⟨p1, p2, p3, p4, p5⟩ := I4.pins L accV bp
  have hr := reps_le le b.rep
  have ln := reps_len hr
  refine ⟨accV, p1, ?_, ?_⟩
  · rw [← ln, sizeLine_eq]
    simp only [List.length_cons, List.length_nil] at hl
    omega
  · have J := Sim.repin (D := L) (vs := accV ++ [v]) I4 p2 p3 p4 p5 (.inr ⟨accV, p1⟩)
    refine hN { s4 with B := { s4.B with pin := fun a => if a = L then some (accV ++ [v]) else s4.B.pin a } } σ3 _ (accV ++ [v]) ?_ es J ⟨if_pos rfl, reps_append hr ⟨v, [], rfl, hv, rfl⟩⟩
    have l := le.lp
    exact ⟨l.H0, l.G0, l.μ0, l.G, l.μ⟩
/-- one clause's evaluation -/
abbrev clM (mi : M (List D)) (ft : D → M Unit) (own : List Nat) (mc : M Bool) (mb : M (List D)) : M (List D) := mbind mi fun l => fun ρ S => if noOwn ρ then flatM (fun d => fun ρ S =>
      shut (mbind (ft d) fun _ => mbind mc fun k => if k then mb else mret []) (wipeF ρ own) ρ S) l ρ S else .stk
abbrev lcM (m : M (List D)) : M (List D) := fun ρ S => mbind (shut m (lockF ρ)) okItems ρ S
/-- the reading of a clause, from a place of its block -/
theorem clause_walk {σ : L2.St} {L : Addr} {mi : M (List D)} {ft : D → M Unit} {ix own : List Nat} {mc : M Bool} {mb : M (List D)} {Body : L2.St → Hp → (Hp → Prop) → Prop} {r : List D} {ρ' : Fr} {S' : Store} {s0 : Sg}
    (hix : ∀ i ∈ ix, i ∈ own) (hb : BodyOk g T L mb Body) (h : clM mi ft own mc mb s0.ρ s0.S = .ok r ρ' S') (hr : r.length ≤ 16777216)
    {R : L2.It → Hp → Prop}
    (k : ∀ (J : L2.It) (l : List D) (s1 : Sg) (H1 : Hp), Le s0 s1 → At g T s1 σ H1 → Wk g T J l s1 → (∀ (i : Nat) (m : MO), s1.ρ[i]? ≠ some (Slot.own m)) →
      flatM (fun d => fun ρ S => shut (mbind (ft d) fun _ => mbind mc fun k => if k then mb else mret []) (wipeF ρ own) ρ S) l s1.ρ s1.S = .ok r ρ' S' → R J H1) :
    Aft g T W mi s0 σ fun l s' H' => ∀ J, Wk g T J l s' → R J H' := by
  obtain ⟨l, ρ1, S1, e1, e2⟩ := mbind_ok h
  unfold Aft
  rw [e1]
  intro s1 H1 le er es I J wk
  have e3 : (if noOwn ρ1 then flatM (fun d => fun ρ S => shut (mbind (ft d) fun _ => mbind mc fun k => if k then mb else mret []) (wipeF ρ own) ρ S) l ρ1 S1 else .stk) = .ok r ρ' S' := e2
  cases hn : noOwn ρ1 with
  | false => rw [hn] at e3; cases e3
  | true =>
    rw [hn, if_pos rfl] at e3
    exact k J l s1 H1 le I wk (by rw [er]; exact noOwn_no hn) (by rw [er, es]; exact e3)
theorem lcM_ok {m : M (List D)} {s : Sg} {σ : L2.St} {Q : VK} (q : Aft g T W (lcM m) s σ fun l s' H' => ∀ v, Fresh g s' σ H' l v → Q v H') :
    ∃ r ρ1 S1, m (lockF s.ρ) s.S = .ok r ρ1 S1 ∧ r.length ≤ 16777216 ∧ ∀ s' H', Le s s' → s'.ρ = s.ρ → s'.S = S1 → At g T s' σ H' → ∀ v, Fresh g s' σ H' r v → Q v H' := by
  unfold Aft lcM mbind shut at q
  cases e : m (lockF s.ρ) s.S with
  | stk => rw [e] at q; exact q.elim
  | exc c ρ S => rw [e] at q; exact q.elim
  | ok r ρ1 S1 =>
    rw [e] at q
    simp only [okItems] at q
    cases hl : okLen r.length with
    | false => rw [hl] at q; exact q.elim
    | true =>
      rw [hl] at q
      exact ⟨r, ρ1, S1, rfl, of_decide_eq_true hl, fun s' H' le e1 e2 I v f => q s' H' le e1 e2 I v f⟩
theorem t_lc {mi : M (List D)} {ft : D → M Unit} {ix own : List Nat} {mc : M Bool} {me : M D} {σ : L2.St} {H : Hp} {Q : VK} (hix : ∀ i ∈ ix, i ∈ own)
    (h : tF T W g (lcM (clM mi ft own mc (mbind me fun d => mret [d]))) σ H Q) : tLc (tI T W g mi) (tG T g ix ft) (tB T WF g mc) (tE T WF g me) own σ H Q := by
  obtain ⟨s, I, q⟩ := h
  obtain ⟨r, ρ1, S1, e, hl, q⟩ := lcM_ok q
  refine ⟨lockSg s H, I.lock, clause_walk (L := 0) (Body := fun _ _ _ => True) (s0 := lockSg s H) hix (fun _ _ _ _ _ _ _ _ _ _ _ _ _ _ => trivial) e hl fun J l s1 H1 le I1 wk no hf L hL => ?_⟩
  have hL0 : (lockSg s H).B.H0 L = none := by
    have := I1.gone L hL
    rw [le.B] at this
    exact this
  have Ip := Sim.repin (D := L) (vs := []) I1 (I1.nmu hL) (I1.gh.none hL) (by rw [le.B]; exact hL0) (fun i m e => I1.own_ne hL e) (.inl hL)
  have l1 := le.lp
  have bq : Bld g L [] [] { s1 with B := { s1.B with pin := fun a => if a = L then some [] else s1.B.pin a } } := ⟨if_pos rfl, rfl⟩
  have lq : Lp s1 { s1 with B := { s1.B with pin := fun a => if a = L then some [] else s1.B.pin a } } := ⟨rfl, rfl, rfl, Sub.refl _, fun _ _ h => h⟩
  have wk2 : Wk g T J l { s1 with B := { s1.B with pin := fun a => if a = L then some [] else s1.B.pin a } } :=
    ⟨fun i s' σ H hi le J => wk.go i s' σ H hi (lq.trans le) J, fun s' σ H le J => wk.stop s' σ H (lq.trans le) J, fun i s' σ H x H' hi le J y => wk.yld i s' σ H x H' hi (lq.trans le) J y⟩
  exact lp_walk (s1 := { s1 with B := { s1.B with pin := fun a => if a = L then some [] else s1.B.pin a } }) Ip wk2 no bq (by simpa using hl) hix hf bodyFin fun s4 H4 accV' le4 er4 es4 I4 b4 => by
    obtain ⟨s5, l5, e1, e2, I5, f⟩ := lc_end I hL0 (l1.trans (lq.trans le4)) es4 I4 (by simpa using b4)
    exact q s5 H4 l5 e1 e2 I5 _ f
theorem t_lc2 {mi mi1 : M (List D)} {ft ft1 : D → M Unit} {ix ix1 own own1 : List Nat} {mc mc1 : M Bool} {me : M D} {σ : L2.St} {H : Hp} {Q : VK} (hix : ∀ i ∈ ix, i ∈ own) (hix1 : ∀ i ∈ ix1, i ∈ own1)
    (h : tF T W g (lcM (clM mi ft own mc (clM mi1 ft1 own1 mc1 (mbind me fun d => mret [d])))) σ H Q) :
    tLc2 (tI T W g mi) (tG T g ix ft) (tB T WF g mc) (tI T WF g mi1) (tG T g ix1 ft1) (tB T WF g mc1) (tE T WF g me) own own1 σ H Q := by
  obtain ⟨s, I, q⟩ := h
  obtain ⟨r, ρ1, S1, e, hl, q⟩ := lcM_ok q
  refine ⟨lockSg s H, I.lock, clause_walk (L := 0) (Body := fun _ _ _ => True) (s0 := lockSg s H) hix (fun _ _ _ _ _ _ _ _ _ _ _ _ _ _ => trivial) e hl fun J l s1 H1 le I1 wk no hf L hL => ?_⟩
  have hL0 : (lockSg s H).B.H0 L = none := by
    have := I1.gone L hL
    rw [le.B] at this
    exact this
  have Ip := Sim.repin (D := L) (vs := []) I1 (I1.nmu hL) (I1.gh.none hL) (by rw [le.B]; exact hL0) (fun i m e => I1.own_ne hL e) (.inl hL)
  have l1 := le.lp
  have bq : Bld g L [] [] { s1 with B := { s1.B with pin := fun a => if a = L then some [] else s1.B.pin a } } := ⟨if_pos rfl, rfl⟩
  have lq : Lp s1 { s1 with B := { s1.B with pin := fun a => if a = L then some [] else s1.B.pin a } } := ⟨rfl, rfl, rfl, Sub.refl _, fun _ _ h => h⟩
  have wk2 : Wk g T J l { s1 with B := { s1.B with pin := fun a => if a = L then some [] else s1.B.pin a } } :=
    ⟨fun i s' σ H hi le J => wk.go i s' σ H hi (lq.trans le) J, fun s' σ H le J => wk.stop s' σ H (lq.trans le) J, fun i s' σ H x H' hi le J y => wk.yld i s' σ H x H' hi (lq.trans le) J y⟩
  -- the second clause as a body
  have hb : BodyOk g T L (clM mi1 ft1 own1 mc1 (mbind me fun d => mret [d])) (fun σ2 H3 Nx => tI T WF g mi1 σ2 H3 fun J1 H4 => ∃ W1 : Nat → Nat → Hp → Prop, (∃ m, W1 0 m H4) ∧ ∀ j k H, W1 j k H →
      (J1.stop j H ∧ Nx H) ∨ (J1.go j H ∧ ∃ Nx1 : Hp → Prop, (∀ H', Nx1 H' → ∃ k', k' < k ∧ W1 (j + 1) k' H') ∧ ∀ x H', J1.yld j H x H' → tG T g ix1 ft1 x (wipe σ2 own1) H' fun σ3 H5 => wipe σ3 own1 = wipe σ2 own1 ∧ tB T WF g mc1 σ3 H5 fun b H6 =>
        if b = true then tE T WF g me σ3 H6 fun y H7 => ∃ acc, H7 L = some (.lst acc) ∧ acc.length < sizeLine ∧ Nx1 (upd H7 L (.lst (acc ++ [y]))) else Nx1 H6)) := by
    intro s3 σ3 H3 acc accV x ρ' S' Nx I3 b hl hm hN
    refine ⟨s3, I3, clause_walk (L := L) (W := WF) (s0 := s3) hix1 bodyFin hm (by omega) fun J1 l1 s4 H4 le4 I4 wk4 no4 hf4 => ?_⟩
    refine lp_walk I4 wk4 no4 (⟨by rw [le4.B]; exact b.pin, reps_le le4 b.rep⟩ : Bld g L acc accV s4) hl hix1 hf4 bodyFin fun s5 H5 accV' le5 er5 es5 I5 b5 => ?_
    exact hN s5 σ3 H5 accV' (le4.lp.trans le5) es5 I5 b5
  exact lp_walk (s1 := { s1 with B := { s1.B with pin := fun a => if a = L then some [] else s1.B.pin a } }) Ip wk2 no bq (by simpa using hl) hix hf hb fun s4 H4 accV' le4 er4 es4 I4 b4 => by
    obtain ⟨s5, l5, e1, e2, I5, f⟩ := lc_end I hL0 (l1.trans (lq.trans le4)) es4 I4 (by simpa using b4)
    exact q s5 H4 l5 e1 e2 I5 _ f
end
end MP

namespace MP
open PySem PySem.Spec L2 PyProof.Rows
/-! ### enumerate over a tuple -/
section
variable {P : Program} {w : World}
theorem enum_new1 {v : Value} {ob : Obj} {Hh : Heap → Prop} (Bg : PySem.Begins v ob Hh) :
    Meets (Builtin.«enumerate.__new__» ⟨[.type "enumerate", v], []⟩) (fun _ R s => Hh s.heap ∧
      R (.ok (.ret (.ref (s.heap.push ob).objs.size))) { s with heap := (s.heap.push ob).push { cls := .type "enumerate", data := .fields #[.none, .bool false, .ref s.heap.objs.size, rawInt 0, .none, .none] } }) :=
  .of_wp fun prog w A R st hyp => by
    obtain ⟨hp, ge, dr, tks, oss⟩ := st
    obtain ⟨hb, hyp⟩ := hyp
    have hsub := sub_enumerate
    have q1 : ∀ {A' : Around} {E' : Value → Shared → Prop} {Q' : Value → Shared → Prop}, Q' (.ref hp.objs.size) ⟨hp.push ob, ge, dr, tks, oss⟩ → wpAny (model prog w) A' (pyIter v) Q' E' ⟨hp, ge, dr, tks, oss⟩ :=
      fun q => Bg.iter prog w _ _ ⟨hp, ge, dr, tks, oss⟩ _ hb q
    wp_walk using q1
    refine wpAny_stack_any fun stk => wpAny_pure ?_
    split
    · rename_i c _ _ _ _ _
      cases (c == Value.type "enumerate")
      · wp_walk using q1
        exact ⟨_, rfl, hyp⟩
      · wp_walk using q1
        exact ⟨_, rfl, hyp⟩
    · wp_walk using q1
      exact ⟨_, rfl, hyp⟩
end
/-- the items of the tuple at a, counted -/
def Itet (K : PySem.W.Frag) (a : Addr) : L2.It :=
  ⟨fun i H => ∃ (vs : List V) (v : V), SqT K H a vs ∧ vs[i]? = some v,
   fun i H z H' => ∃ p v, z = .ref p ∧ H p = none ∧ H' = upd H p (.tup [.int (i : Nat), v]) ∧ ∀ vs, SqT K H a vs → vs[i]? = some v,
   fun i H => ∃ vs : List V, SqT K H a vs ∧ vs.length ≤ i⟩
theorem turn_enumT {P : Program} {w : World} {K : PySem.W.Frag} {elts : List Expr} {kk : Nat} {tpos : Pos} (a e it : Addr) (hae : a ≠ it) :
    Turn P w K (.Tuple elts kk tpos) (Itet K a) [e, it] e (fun i h => (∃ old, IsEnum h e it ((i : Nat) : Int) old) ∧ h.IsTupleIter it a i ∧ e ≠ it ∧ e ≠ a) where
  mem := by simp
  obj := fun i h st b hb => by
    obtain ⟨⟨old, h1⟩, ⟨o, ho, hc, hd⟩, _⟩ := st
    have cs : b = e ∨ b = it := by simpa using hb
    rcases cs with z | z
    · subst z; exact ⟨_, h1, fun v q => nomatch q⟩
    · subst z; exact ⟨o, ho, fun v q => by rw [hd] at q; cases q⟩
  keep := fun i h h' st k => by
    obtain ⟨⟨old, h1⟩, h2, h3, h4⟩ := st
    exact ⟨⟨old, k e (by simp) _ h1⟩, h2.at fun o q => k it (by simp) o q, h3, h4⟩
  item := by
    intro X hP hw hK hc i pins s σ H E I hf st hg
    subst hP hw hK
    obtain ⟨⟨old, h1⟩, h2, h3, h4⟩ := st
    obtain ⟨xs, x, hq, hx⟩ := hg
    obtain ⟨its, rv, p, hz⟩ := I.tuple hq
    obtain ⟨u, hu, ru⟩ := rv.get hx
    have l1 : e < s.heap.objs.size := Heap.lt_size h1
    have l2 : it < s.heap.objs.size := by obtain ⟨_, q, _⟩ := h2; exact Heap.lt_size q
    have ilt : i < its.toArray.size := by
      have := (List.getElem?_eq_some_iff.mp hu).1
      simpa using this
    have Dr := Draws.tuple (prog := X.prog) (w := X.w) (A := X.A.in1) (I.ok.hd hc) it a hae its.toArray
    refine wpAny_pyNext_enum_itemD Dr h1 ⟨h2, p⟩ ilt h3 (by simp [h3, h4]) fun y h' tk hP ho hs' hT hsz hk => ?_
    have ey : y = u := by
      have : its[i]? = some y := by simpa using hP
      rw [hu] at this
      exact (Option.some.inj this).symm
    subst ey
    refine ⟨_, rfl, wpAny_letOwnedTupleGo_enum (s := { s with heap := h', toks := tk + 1 }) ho fun h'' he' sb => ?_⟩
    have hT2 := (sb.2 _ (Nat.ne_of_gt l1)).trans hT
    have new : ObjOk X.prog X.w (upd H s.heap.objs.size (.tup [.int (i : Nat), x])) h'' s.heap.objs.size (.tup [.int (i : Nat), x]) :=
      ⟨by show 2 ≤ sizeLine; decide, [.int i tk, y], .cons ⟨_, rfl⟩ (.cons ru .nil), ⟨_, hT2, rfl, _, rfl⟩⟩
    have I1 : Inv X pins σ (upd H s.heap.objs.size (.tup [.int (i : Nat), x])) { s with heap := h'', toks := tk + 1 } :=
      I.turnedNew (ch := [e, it]) (fun b ob hb q => (sb.2 b (fun z => hb (by simp [z]))).trans (hk b ob (fun z => hb (by simp [z])) (fun z => hb (by simp [z])) q)) hf (Nat.le_refl _) new
    refine ⟨.ref s.heap.objs.size, _, I1, rfl, ⟨_, x, rfl, I.hok.fresh (Nat.le_refl _), rfl, fun ys hy => by rw [I.tuple_inj hy hq]; exact hx⟩, ⟨⟨y, ?_⟩, hs'.1.at fun o q => (sb.2 it (Ne.symm h3)).trans q, h3, h4⟩, fun b hb => ?_⟩
    · have e1 : ((i + 1 : Nat) : Int) = (i : Int) + 1 := by omega
      rw [e1]; exact he'
    · have lb : b < s.heap.objs.size := by
        have cs : b = e ∨ b = it := by simpa using hb
        rcases cs with z | z
        · rw [z]; exact l1
        · rw [z]; exact l2
      rw [upd_ne (Nat.ne_of_lt lb)]
      exact (hf b hb).1
  done := by
    intro X hP hw hK hc i pins s σ H E I hf st hg
    subst hP hw hK
    obtain ⟨⟨old, h1⟩, h2, h3, h4⟩ := st
    obtain ⟨xs, hq, hx⟩ := hg
    obtain ⟨its, rv, p, hz⟩ := I.tuple hq
    obtain ⟨f0, f1, f2, f3, f4, f5⟩ := hf it (by simp)
    have hl := rv.length
    have Dr : Draws X.prog X.w X.A.in1 it [it, a] i (fun _ _ => True) (fun j h => (h.IsTupleIter it a j ∧ h.IsTuple a its.toArray) ∧ j = i) :=
      ⟨fun _ _ st => let ⟨o, ho, _⟩ := st.1.1; ⟨o, ho⟩, fun _ _ _ st hk => ⟨⟨st.1.1.at fun o e => hk it (by simp) o e, st.1.2.at fun o e => hk a (by simp) o e⟩, st.2⟩,
       fun j s Q E hj st hQ => absurd st.2 (Nat.ne_of_lt hj),
       fun s Q E st hE => wpAny_nextOf_tuple_end (I.ok.hd hc) st.1.1 st.1.2 (by simp; omega) hE⟩
    exact wpAny_pyNext_enum_endD Dr h1 ⟨⟨h2, p⟩, rfl⟩ fun h' eb => ⟨rfl, I.turned (t' := s.toks) (fun b o hb q => eb b o hb q) f0 f1 f3 f4 f5⟩
  self := fun A i s Q E st h => let ⟨⟨_, he⟩, _⟩ := st; wpAny_pyIter_enum he h

/-- enumerate(v), v a tuple -/
theorem call_enumT {prog : Program} {w : World} {A : Around} {E : Value → Shared → Prop} {s : Shared} {t : Addr} {items : Array Value} {Q : Value → Shared → Prop} (hT : s.heap.IsTuple t items)
    (h : ∀ h', IsEnum h' (s.heap.objs.size + 1) s.heap.objs.size 0 .none → h'.IsTupleIter s.heap.objs.size t 0 → h'.objs.size = s.heap.objs.size + 2 →
      (∀ b o, s.heap.get? b = some o → h'.get? b = some o) → Q (.ref (s.heap.objs.size + 1)) { s with heap := h' }) : wpAny (model prog w) A (call (.type "enumerate") [.ref t]) Q E s := by
  refine callType_new F.called_enumerate (by decide) (F.typeCall_enumerate_1 _) (F.newCall_enumerate_1 _) (fun obj => F.args_object_init_2 obj _) F.entry_enumerate_new (enum_new1 (begins_tuple t items)) ⟨hT, ?_⟩
  generalize hob : ({ cls := .type "tuple_iterator", data := .fields #[.ref t, .int 0 0] } : Obj) = ob
  have sz : (s.heap.push ob).objs.size = s.heap.objs.size + 1 := Heap.size_push ..
  show _ ∧ _
  rw [sz]
  generalize hen : ({ cls := .type "enumerate", data := .fields #[.none, .bool false, .ref s.heap.objs.size, rawInt 0, .none, .none] } : Obj) = en
  have h1 : ((s.heap.push ob).push en).get? (s.heap.objs.size + 1) = some en := by
    have := Heap.get?_push_size (s.heap.push ob) (o := en) (by rw [← hen]; rfl)
    rwa [sz] at this
  have h0 : ((s.heap.push ob).push en).get? s.heap.objs.size = some ob := Heap.get?_push_of_some _ (Heap.get?_push_size _ (by rw [← hob]; rfl))
  have he : IsEnum ((s.heap.push ob).push en) (s.heap.objs.size + 1) s.heap.objs.size 0 .none := by rw [← hen] at h1 ⊢; exact h1
  refine ⟨⟨_, he, rfl⟩, h _ he ⟨ob, h0, by rw [← hob], by rw [← hob]; rfl⟩ (by rw [Heap.size_push, sz]) fun b o x => Heap.get?_push_of_some _ (Heap.get?_push_of_some _ x)⟩
def iEnumA (K : PySem.W.Frag) (ta : TA) : TI := fun σ H R => ta σ H fun vs H1 => ∃ a xs, vs = [.ref a] ∧ ((SqL K H1 a xs ∧ R (Ite K a) H1) ∨ (SqT K H1 a xs ∧ R (Itet K a) H1))
theorem pi_enumA {X : Cx} {e : Expr} {ta : TA} {p pos tpos : Pos} {elts : List Expr} {kk : Nat} (hg : Gl X "enumerate") (hm : X.mg "enumerate" = none) (ha : PA X [e] ta) (hs : starEach [e] X.env = (false, eval e X.env) :: starEach [] X.env) :
    PI X (.Tuple elts kk tpos) (.Call (.Name "enumerate" p) [e] [] pos) (iEnumA X.K ta) := by
  refine ⟨fun pins st σ H R I h => ?_⟩
  refine Call_ (ld_blt I hg hm boot_enumerate (PyProof.Rows.callWith_type1 (thn (ha.run pos pins st σ H _ I h) fun us s1 ⟨vs, H1, I1, r1, a, xs, ex, q⟩ => ?_) hs rfl))
  subst ex
  cases r1 with
  | cons r rr =>
    cases rr
    cases r
    have fp : ∀ b, b ∈ [s1.heap.objs.size + 1, s1.heap.objs.size] → FpOk X pins H1 b := fun b hb => by
      have le : s1.heap.objs.size ≤ b := by
        have cs : b = s1.heap.objs.size + 1 ∨ b = s1.heap.objs.size := by simpa using hb
        omega
      exact I1.fpOk le (I1.hok.fresh le)
    rcases q with ⟨hq, q⟩ | ⟨hq, q⟩
    · obtain ⟨its, rv, p', hz⟩ := I1.list hq
      refine call_enumerate_list p'.isList fun h' z1 z2 z3 z4 => wpAny_pyIter_enum z1 ?_
      exact ⟨s1.heap.objs.size + 1, _, _, _, H1, rfl, I1.kept (t' := s1.toks) z4, turn_enum a (s1.heap.objs.size + 1) s1.heap.objs.size, ⟨⟨.none, z1⟩, z2, Nat.succ_ne_self _⟩, fp, q⟩
    · obtain ⟨its, rv, p', hz⟩ := I1.tuple hq
      have la : a < s1.heap.objs.size := by obtain ⟨o, ho, _⟩ := id p'; exact Heap.lt_size ho
      refine call_enumT (show s1.heap.IsTuple a its.toArray from p') fun h' z1 z2 z3 z4 => wpAny_pyIter_enum z1 ?_
      exact ⟨s1.heap.objs.size + 1, _, _, _, H1, rfl, I1.kept (t' := s1.toks) z4, turn_enumT a (s1.heap.objs.size + 1) s1.heap.objs.size (Nat.ne_of_lt la), ⟨⟨.none, z1⟩, z2, Nat.succ_ne_self _, (Nat.ne_of_lt (Nat.lt_succ_of_lt la)).symm⟩, fp, q⟩
theorem wk_enumT {g : Gp} {T : List NdefX.NTab} {s : Sg} {l : List D} {a : Addr} (h : StT g T s l a) : Wk g T (Itet g.K a) (enumD l 0) s where
  go := fun i s' σ H hi le J => by
    rw [enumD_len] at hi
    obtain ⟨vs, q, r⟩ := h s' σ H le J
    obtain ⟨d, v, _, e, _⟩ := reps_at r hi
    exact ⟨vs, v, q, e⟩
  stop := fun s' σ H le J => by
    obtain ⟨vs, q, r⟩ := h s' σ H le J
    exact ⟨vs, q, by rw [enumD_len]; exact Nat.le_of_eq (reps_len r).symm⟩
  yld := fun i s' σ H x H' hi le J y => by
    rw [enumD_len] at hi
    obtain ⟨vs, q, r⟩ := h s' σ H le J
    obtain ⟨T', p, rfl, hT, rfl, y1⟩ := y
    obtain ⟨d, v, e1, e2, r1⟩ := reps_at r hi
    have z := y1 vs q
    rw [e2] at z
    cases z
    obtain ⟨s'', k⟩ := newpair (x := .int (i : Nat)) (vx := .int (i : Nat)) J hT rfl r1
    exact ⟨_, s'', by rw [enumD_get e1]; congr 4; omega, k⟩
/-! ### the rules of iterables -/
theorem _root_.L2.PI.weak {X : Cx} {tg e : Expr} {t t' : TI} (h : PI X tg e t) (k : ∀ σ H R, t' σ H R → t σ H R) : PI X tg e t' := ⟨fun pins s σ H R I q => h.run pins s σ H R I (k σ H R q)⟩
section
variable {T : List NdefX.NTab} {W : WX} {X : Cx} {pos : Pos} {a b tg : Expr} {ma mb : M D} {pa pb : M PV}
/-- a list, a tuple, a text -/
theorem i_val (ha : SP T W X a pa) : SI T W X tg a (mbind pa fun p => mbind (mresL p) fun d => mopt (iterD d)) := by
  refine ⟨fun pins st σ H R I ⟨sg, A, q⟩ => ?_⟩
  refine thn (ha.run pins st σ H (fun v H1 => ∃ s1 d l, At X.gp T s1 σ H1 ∧ Stay X.gp T s1 d v ∧ iterD d = some l ∧ ∀ J, Wk X.gp T J l s1 → R J H1) I ⟨sg, A, q.bind.mono fun p s1 H1 le J q1 v hv => ?_⟩) fun v s1 ⟨x, H1, I1, r1, sg1, d, l, A1, sy, e, k⟩ => ?_
  · obtain ⟨d, sy, q2⟩ := q1.resL J hv
    obtain ⟨l, e, q3⟩ := q2.opt
    exact ⟨s1, d, l, J, sy, e, q3.ret J⟩
  · have lst : ∀ ad, x = .ref ad → StL X.gp T sg1 l ad → wpAny (model X.prog X.w) X.A (pyIter v) (PIE X pins σ tg R) X.xe s1 := fun ad ev h => by
      subst ev
      cases r1
      obtain ⟨vs, q, _⟩ := h sg1 σ H1 (Lp.refl _) A1
      obtain ⟨its, rv, p, hz⟩ := I1.list q
      exact wpAny_pyIter_list p.isList (pi_one (tk := s1.toks) I1 _ (turn_list ad _) ⟨_, Heap.get?_push_size _ rfl, rfl, rfl⟩ (k _ (wk_list h)))
    cases d with
    | lst l' =>
      cases e
      obtain ⟨ad, ev, h⟩ := sy.lst A1
      exact lst ad ev h
    | fz l' =>
      cases e
      obtain ⟨ad, ev, h⟩ := sy.fz A1
      exact lst ad ev h
    | tup l' =>
      cases e
      obtain ⟨ad, ev, h⟩ := sy.tup A1
      subst ev
      cases r1
      obtain ⟨vs, q, _⟩ := h sg1 σ H1 (Lp.refl _) A1
      obtain ⟨its, rv, p, hz⟩ := I1.tuple q
      exact wpAny_pyIter_tuple (show s1.heap.IsTuple ad its.toArray from p) (pi_one (tk := s1.toks) I1 _ (turn_tuple ad _) ⟨_, Heap.get?_push_size _ rfl, rfl, rfl⟩ (k _ (wk_tup h)))
    | str z =>
      have e2 : l = z.cps.toList.map fun c => .str ⟨#[c]⟩ := by
        have e : (if okLen z.length then some (z.cps.toList.map fun c => D.str ⟨#[c]⟩) else none) = some l := e
        split at e
        · exact (Option.some.inj e).symm
        · cases e
      subst e2
      have ev : x = .str z := wstr (sy sg1 σ H1 (Lp.refl _) A1)
      subst ev
      obtain ⟨t, rfl⟩ := r1
      cases hasc : z.cps.all (· < 128)
      · exact wpAny_pyIter_wide hasc (pi_one (tk := s1.toks) I1 _ (turn_str _ z t "str_iterator" (.inr rfl)) ⟨_, Heap.get?_push_size _ rfl, rfl, rfl⟩ (k _ wk_str))
      · exact wpAny_pyIter_ascii hasc (pi_one (tk := s1.toks) I1 _ (turn_str _ z t "str_ascii_iterator" (.inl rfl)) ⟨_, Heap.get?_push_size _ rfl, rfl, rfl⟩ (k _ wk_str))
    | _ => cases e
theorem rngD_ok {lo hi : Int} {l : List D} (h : rngD lo hi = some l) : l = intsFrom lo (hi - lo).toNat ∧ -(2 ^ 62) ≤ lo ∧ lo < 2 ^ 62 ∧ -(2 ^ 62) ≤ hi ∧ hi < 2 ^ 62 := by
  unfold rngD at h
  split at h
  · rename_i hd
    have hd := of_decide_eq_true hd
    exact ⟨(Option.some.inj h).symm, by omega⟩
  · cases h
theorem i_rng1 {p : Pos} (hg : Gl X "range") (hm : X.mg "range" = none) (hn : ∀ x p, a ≠ .Starred x p) (ha : SE T W X a ma) : SI T W X tg (.Call (.Name "range" p) [a] [] pos) (mbind ma fun d => match d with
    | .int n => mopt (rngD 0 n)
    | _ => mstk) :=
  (pi_range1 hg hm (pa_cons ha pa_nil (starCons hn)) (starCons hn)).weak fun σ H R ⟨s, I, q⟩ => ⟨s, I, q.bind.mono fun d s1 H1 le J q1 v hv => by
    cases d with
    | int n =>
      obtain ⟨l, e, q2⟩ := q1.opt
      obtain ⟨e1, _, _, h3, h4⟩ := rngD_ok e
      have ev : v = .int n := hv
      subst ev e1
      rw [Int.sub_zero] at q2
      exact ⟨n, rfl, h3, h4, q2.ret J _ wk_range⟩
    | _ => exact (Aft.stk q1).elim⟩
theorem i_rng2 {p : Pos} (hg : Gl X "range") (hm : X.mg "range" = none) (hn : ∀ x p, a ≠ .Starred x p) (hn2 : ∀ x p, b ≠ .Starred x p) (ha : SE T W X a ma) (hb : SE T W X b mb) : SI T W X tg (.Call (.Name "range" p) [a, b] [] pos) (mbind ma fun x => mbind mb fun y => match x, y with
    | .int lo, .int hi => mopt (rngD lo hi)
    | _, _ => mstk) :=
  (pi_range2 hg hm (pa_cons ha (pa_cons hb pa_nil (starCons hn2)) (starCons hn)) (by rw [starCons hn, starCons hn2]; rfl) (starCons hn2)).weak fun σ H R ⟨s, I, q⟩ => ⟨s, I, q.bind.mono fun d s1 H1 le J q1 v hv => ⟨s1, J, q1.bind.mono fun d2 s2 H2 le2 J2 q2 v2 hv2 => by
    cases d with
    | int lo =>
      cases d2 with
      | int hi =>
        obtain ⟨l, e, q3⟩ := q2.opt
        obtain ⟨e1, h⟩ := rngD_ok e
        have ev : v = .int lo := hv
        have ev2 : v2 = .int hi := hv2
        subst ev ev2 e1
        exact ⟨lo, hi, rfl, h, q3.ret J2 _ wk_range⟩
      | _ => exact (Aft.stk q2).elim
    | _ => exact (Aft.stk q2).elim⟩⟩
theorem i_rng3 {p : Pos} {d : Expr} {md : M D} (hg : Gl X "range") (hm : X.mg "range" = none) (hn : ∀ x p, a ≠ .Starred x p) (hn2 : ∀ x p, b ≠ .Starred x p) (hn3 : ∀ x p, d ≠ .Starred x p) (ha : SE T W X a ma) (hb : SE T W X b mb) (hd : SE T W X d md) : SI T W X tg (.Call (.Name "range" p) [a, b, d] [] pos)
    (mbind ma fun x => mbind mb fun y => mbind md fun z => match x, y, z with
    | .int lo, .int hi, .int st => mopt (rngD3 lo hi st)
    | _, _, _ => mstk) :=
  (pi_range3 hg hm (pa_cons ha (pa_cons hb (pa_cons hd pa_nil (starCons hn3)) (starCons hn2)) (starCons hn)) (starCons hn) (by rw [starCons hn2, starCons hn3]; rfl)).weak fun σ H R ⟨s, I, q⟩ => ⟨s, I, q.bind.mono fun x s1 H1 le J q1 v hv => ⟨s1, J, q1.bind.mono fun y s2 H2 le2 J2 q2 v2 hv2 => ⟨s2, J2, q2.bind.mono fun z s3 H3 le3 J3 q3 v3 hv3 => by
    cases x with
    | int lo =>
      cases y with
      | int hi =>
        cases z with
        | int st =>
          obtain ⟨l, e, q4⟩ := q3.opt
          unfold rngD3 at e
          split at e
          · rename_i hc
            rw [Bool.and_eq_true] at hc
            have h1 := of_decide_eq_true hc.1
            have ev : v = .int lo := hv
            have ev2 : v2 = .int hi := hv2
            have ev3 : v3 = .int st := hv3
            subst ev ev2 ev3
            cases e
            exact ⟨lo, hi, st, (Builtin.Range.rangeSize lo hi st).toNat, rfl, ⟨by omega, by omega, hc.2, rangeSize_toNat lo hi st⟩, q4.ret J3 _ wk_rangeC⟩
          · cases e
        | _ => exact (Aft.stk q3).elim
      | _ => exact (Aft.stk q3).elim
    | _ => exact (Aft.stk q3).elim⟩⟩⟩
theorem i_enm {p tpos : Pos} {elts : List Expr} {kk : Nat} (hg : Gl X "enumerate") (hm : X.mg "enumerate" = none) (hn : ∀ x p, a ≠ .Starred x p) (ha : SP T W X a pa) : SI T W X (.Tuple elts kk tpos) (.Call (.Name "enumerate" p) [a] [] pos)
    (mbind pa fun p => mbind (mresL p) fun d => mopt ((seqD d).map fun l => enumD l 0)) :=
  (pi_enumA hg hm (pa_cons ha pa_nil (starCons hn)) (starCons hn)).weak fun σ H R ⟨s, I, q⟩ => ⟨s, I, q.bind.mono fun p s1 H1 le J q1 v hv => by
    obtain ⟨d, sy, q2⟩ := q1.resL J hv
    obtain ⟨l', e, q3⟩ := q2.opt
    cases d with
    | lst l =>
      cases e
      obtain ⟨ad, ev, h⟩ := sy.lst J
      obtain ⟨vs, sq, _⟩ := h s1 σ H1 (Lp.refl _) J
      exact ⟨ad, vs, by rw [ev], .inl ⟨sq, q3.ret J _ (wk_enum h)⟩⟩
    | tup l =>
      cases e
      obtain ⟨ad, ev, h⟩ := sy.tup J
      obtain ⟨vs, sq, _⟩ := h s1 σ H1 (Lp.refl _) J
      exact ⟨ad, vs, by rw [ev], .inr ⟨sq, q3.ret J _ (wk_enumT h)⟩⟩
    | _ => cases e⟩
theorem i_zip {p tpos : Pos} {elts : List Expr} {kk : Nat} (hg : Gl X "zip") (hm : X.mg "zip" = none) (hn : ∀ x p, a ≠ .Starred x p) (hn2 : ∀ x p, b ≠ .Starred x p) (ha : SP T W X a pa) (hb : SP T W X b pb) : SI T W X (.Tuple elts kk tpos) (.Call (.Name "zip" p) [a, b] [] pos)
    (mbind pa fun p => mbind pb fun q => mbind (mresL p) fun x => mbind (mresL q) fun y => mopt (zipO x y)) :=
  (RZ.pi_zipA hg hm (pa_cons ha (pa_cons hb pa_nil (starCons hn2)) (starCons hn)) (starCons hn) (by rw [starCons hn2]; rfl)).weak fun σ H R ⟨s, I, q⟩ => ⟨s, I, q.bind.mono fun p s1 H1 le J q1 v hv => ⟨s1, J, q1.bind.mono fun p2 s2 H2 le2 J2 q2 v2 hv2 => by
    obtain ⟨d, sy, q3⟩ := q2.resL J2 (prep_le le2 hv)
    obtain ⟨d2, sy2, q4⟩ := q3.resL J2 hv2
    obtain ⟨l', e, q5⟩ := q4.opt
    cases d with
    | lst l =>
      cases d2 with
      | lst l2 =>
        cases e
        obtain ⟨ad, ev, h⟩ := sy.lst J2
        obtain ⟨ad2, ev2, h2⟩ := sy2.lst J2
        obtain ⟨vs, sq, _⟩ := h s2 σ H2 (Lp.refl _) J2
        obtain ⟨vs2, sq2, _⟩ := h2 s2 σ H2 (Lp.refl _) J2
        exact ⟨ad, ad2, vs, vs2, by rw [ev, ev2], .inl ⟨sq, sq2, q5.ret J2 _ (wk_zip h h2)⟩⟩
      | _ => cases e
    | tup l =>
      cases d2 with
      | tup l2 =>
        cases e
        obtain ⟨ad, ev, h⟩ := sy.tup J2
        obtain ⟨ad2, ev2, h2⟩ := sy2.tup J2
        obtain ⟨vs, sq, _⟩ := h s2 σ H2 (Lp.refl _) J2
        obtain ⟨vs2, sq2, _⟩ := h2 s2 σ H2 (Lp.refl _) J2
        exact ⟨ad, ad2, vs, vs2, by rw [ev, ev2], .inr ⟨sq, sq2, q5.ret J2 _ (wk_zipT h h2)⟩⟩
      | _ => cases e
    | _ => cases e⟩⟩
/-! ### targets -/
theorem g_name {i : Nat} {x : Str} (hN : X.N.Nodup) (hi : X.N[i]? = some x) (hx : Loc X.env.scope x) (hf : X.fn x = true ∨ X.env.scope.names.lookup x = some .local) : SG T X (.Name x pos) [i] (fun d => fun ρ S => if i < ρ.length then .ok () (ρ.set i (.val d)) S else .stk) := by
  refine ⟨fun pins st σ H v u Q I r ⟨s, d, A, rd, q⟩ => (pg_name hN hi hx hf).run pins st σ H v u Q I r ?_⟩
  have hl : i < s.ρ.length := by
    by_cases h : i < s.ρ.length
    · exact h
    · simp only [if_neg h] at q
  dsimp only at q
  rw [if_pos hl] at q
  exact q { s with ρ := s.ρ.set i (.val d) } _ H ⟨rfl, Sub.refl _, fun _ _ h => h⟩ rfl rfl (A.setval rd) (by simp) fun j hj => by
    rw [List.getElem?_set_ne]
    simpa using (fun e : i = j => hj (by rw [e]; exact List.mem_singleton.mpr rfl))
/-- several values to several targets -/
def tGs (T : List NdefX.NTab) (g : Gp) (ix : List Nat) (f : List D → M Unit) : TGs := fun vs σ H Q => ∃ s l, At g T s σ H ∧ reps g s.μ s.G l vs ∧ (match f l s.ρ s.S with
  | .ok _ ρ S => ∀ s' σ' H', Le s s' → s'.ρ = ρ → s'.S = S → At g T s' σ' H' → σ'.length = σ.length → (∀ i, i ∉ ix → σ'[i]? = σ[i]?) → Q σ' H'
  | _ => False)
abbrev SGs (T : List NdefX.NTab) (X : Cx) (tgs : List Expr) (ix : List Nat) (f : List D → M Unit) : Prop := PGs X tgs (tGs T X.gp ix f)
theorem gs_nil : SGs T X [] [] (fun l => match l with | [] => mret () | _ => mstk) := by
  refine ⟨fun pins st σ H vs us Q I r ⟨s, l, A, rl, q⟩ => pgs_nil.run pins st σ H vs us Q I r ?_⟩
  cases l with
  | nil => exact ⟨rl, q s σ H (Le.refl _) rfl rfl A rfl fun _ _ => rfl⟩
  | cons _ _ => exact q.elim
theorem gs_cons {e : Expr} {es : List Expr} {ix ixs : List Nat} {f : D → M Unit} {fs : List D → M Unit} (h1 : SG T X e ix f) (h2 : SGs T X es ixs fs) (hs : (assignEach (e :: es) X.env).map (·.2) = assign e X.env :: (assignEach es X.env).map (·.2)) :
    SGs T X (e :: es) (ix ++ ixs) (fun l => match l with | d :: r => mbind (f d) fun _ => fs r | _ => mstk) := by
  refine ⟨fun pins st σ H vs us Q I r ⟨s, l, A, rl, q⟩ => (pgs_cons h1 h2 hs).run pins st σ H vs us Q I r ?_⟩
  cases l with
  | nil => exact q.elim
  | cons d r =>
    obtain ⟨v, vr, ev, rv, rr⟩ := rl
    refine ⟨v, vr, ev, s, d, A, rv, ?_⟩
    have q : (match mbind (f d) (fun _ => fs r) s.ρ s.S with
      | .ok _ ρ S => ∀ s' σ' H', Le s s' → s'.ρ = ρ → s'.S = S → At X.gp T s' σ' H' → σ'.length = σ.length → (∀ i, i ∉ ix ++ ixs → σ'[i]? = σ[i]?) → Q σ' H'
      | _ => False) := q
    unfold mbind at q
    cases e1 : f d s.ρ s.S with
    | stk => rw [e1] at q; exact q
    | exc c ρ S => rw [e1] at q; exact q
    | ok a ρ1 S1 =>
      rw [e1] at q
      intro s1 σ1 H1 le er es A1 hl hfr
      refine ⟨s1, r, A1, reps_le le rr, ?_⟩
      rw [er, es]
      dsimp only at q
      cases e2 : fs r ρ1 S1 with
      | stk => rw [e2] at q; exact q
      | exc c ρ S => rw [e2] at q; exact q
      | ok a2 ρ2 S2 =>
        rw [e2] at q
        intro s2 σ2 H2 le2 er2 es2 A2 hl2 hfr2
        exact q s2 σ2 H2 (le.trans le2) er2 es2 A2 (hl2.trans hl) fun i hi => by
          rw [List.mem_append, not_or] at hi
          rw [hfr2 i hi.2, hfr i hi.1]
theorem g_tup {es : List Expr} {k : Nat} {ix : List Nat} {f : List D → M Unit} (hc : X.calm = true) (h : SGs T X es ix f) (hl : (assignEach es X.env).length = es.length) (hst : (assignEach es X.env).findIdx? (·.1) = none) (hf : ∀ l ρ S, l.length ≠ es.length → f l ρ S = .stk) :
    SG T X (.Tuple es k pos) ix (fun d => match seqD d with
    | some l => f l
    | none => mstk) := by
  refine ⟨fun pins st σ H v u Q I r ⟨s, d, A, rd, q⟩ => ?_⟩
  cases d with
  | lst l =>
    have q : (match f l s.ρ s.S with
      | .ok _ ρ S => ∀ s' σ' H', Le s s' → s'.ρ = ρ → s'.S = S → At X.gp T s' σ' H' → σ'.length = σ.length → (∀ i, i ∉ ix → σ'[i]? = σ[i]?) → Q σ' H'
      | _ => False) := q
    obtain ⟨a, vs, ev, e1, rs⟩ := rd
    by_cases hlen : l.length = es.length
    · exact (pg_unl (n := es.length) hc h hl hst).run pins st σ H v u Q I r ⟨a, vs, ev, SqL.of (A.gh _ _ e1), (reps_len rs).symm.trans hlen, s, l, A, rs, q⟩
    · rw [hf l _ _ hlen] at q; exact q.elim
  | tup l =>
    have q : (match f l s.ρ s.S with
      | .ok _ ρ S => ∀ s' σ' H', Le s s' → s'.ρ = ρ → s'.S = S → At X.gp T s' σ' H' → σ'.length = σ.length → (∀ i, i ∉ ix → σ'[i]? = σ[i]?) → Q σ' H'
      | _ => False) := q
    obtain ⟨a, vs, ev, e1, rs⟩ := rd
    by_cases hlen : l.length = es.length
    · exact (pg_tup (n := es.length) hc h hl hst).run pins st σ H v u Q I r ⟨a, vs, ev, SqT.mono A.gh e1, (reps_len rs).symm.trans hlen, s, l, A, rs, q⟩
    · rw [hf l _ _ hlen] at q; exact q.elim
  | _ => exact q.elim
end
end MP

namespace MP
open PySem PySem.Spec L2
/-- what is wanted behind a run of statements, by how it ends -/
def FlD (g : Gp) (s' : Sg) (D : Ends) (σ' : L2.St) (H' : Hp) : Fl → Prop
  | .nx => D.nx σ' H'
  | .bk => D.bk σ' H'
  | .ct => D.ct σ' H'
  | .rt d => ∀ v, rep g s'.μ s'.G d v → D.rt v H'
section
variable {g : Gp} {T : List NdefX.NTab} {W : WX} {α : Type} {s s' s1 : Sg} {σ : L2.St} {H : Hp} {D : Ends}
def AftS (g : Gp) (T : List NdefX.NTab) (W : WX) (m : M Fl) (s : Sg) (D : Ends) : Prop := match m s.ρ s.S with
  | .ok f ρ S => ∀ s' σ' H', Le s s' → s'.ρ = ρ → s'.S = S → At g T s' σ' H' → FlD g s' D σ' H' f
  | .exc c ρ S => ∀ s' σ' H', Le s s' → s'.ρ = ρ → s'.S = S → At g T s' σ' H' → W (gcls g c) none σ' H'
  | .stk => False
theorem tSt_iff {m : M Fl} : tSt T W g m D σ H ↔ ∃ s, At g T s σ H ∧ AftS g T W m s D := by
  constructor
  · rintro ⟨s, I, q⟩
    refine ⟨s, I, ?_⟩
    unfold AftS
    cases e : m s.ρ s.S with
    | ok f ρ S =>
      rw [e] at q
      intro s' σ' H' l e1 e2 J
      have := q s' σ' H' l e1 e2 J
      cases f <;> exact this
    | exc c ρ S => rw [e] at q; exact q
    | stk => rw [e] at q; exact q
  · rintro ⟨s, I, q⟩
    refine ⟨s, I, ?_⟩
    unfold AftS at q
    cases e : m s.ρ s.S with
    | ok f ρ S =>
      rw [e] at q
      intro s' σ' H' l e1 e2 J
      have := q s' σ' H' l e1 e2 J
      cases f <;> exact this
    | exc c ρ S => rw [e] at q; exact q
    | stk => rw [e] at q; exact q
theorem AftS.go {m : M Fl} (I : At g T s σ H) (q : AftS g T W m s D) : tSt T W g m D σ H := tSt_iff.mpr ⟨s, I, q⟩
theorem AftS.le {m : M Fl} (q : AftS g T W m s D) (l : Le s s1) (e1 : s1.ρ = s.ρ) (e2 : s1.S = s.S) : AftS g T W m s1 D := by
  unfold AftS at q ⊢
  rw [e1, e2]
  cases e : m s.ρ s.S with
  | ok f ρ S => rw [e] at q; exact fun s' σ' H' l' => q s' σ' H' (l.trans l')
  | exc c ρ S => rw [e] at q; exact fun s' σ' H' l' => q s' σ' H' (l.trans l')
  | stk => rw [e] at q; exact q
/-- an expression ahead -/
theorem AftS.bind {me : M α} {k : α → M Fl} (q : AftS g T W (mbind me k) s D) : Aft g T W me s σ fun a s1 H1 => AftS g T W (k a) s1 D := by
  unfold AftS mbind at q
  unfold Aft
  cases e : me s.ρ s.S with
  | ok a ρ S =>
    rw [e] at q
    intro s1 H1 l e1 e2 I
    subst e1 e2
    unfold AftS
    dsimp only at q
    cases e2 : k a s1.ρ s1.S with
    | ok f ρ' S' => rw [e2] at q; exact fun s' σ' H' l' => q s' σ' H' (l.trans l')
    | exc c ρ' S' => rw [e2] at q; exact fun s' σ' H' l' => q s' σ' H' (l.trans l')
    | stk => rw [e2] at q; exact q
  | exc c ρ S => rw [e] at q; exact fun s' H' l e1 e2 I => q s' σ H' l e1 e2 I
  | stk => rw [e] at q; exact q
theorem AftS.ret {f : Fl} (q : AftS g T W (mret f) s D) (I : At g T s σ H) : FlD g s D σ H f := q s σ H (Le.refl _) rfl rfl I
theorem AftS.opt {o : Option α} {k : α → M Fl} (q : AftS g T W (mbind (mopt o) k) s D) : ∃ a, o = some a ∧ AftS g T W (k a) s D := by
  cases o with
  | none => exact q.elim
  | some a => exact ⟨a, rfl, q⟩
/-- statements ahead -/
theorem AftS.seq {ma : M Fl} {mb : M Fl} (q : AftS g T W (mbind ma fun f => match f with | .nx => mb | f => mret f) s D) : AftS g T W ma s { D with nx := tSt T W g mb D } := by
  unfold AftS mbind at q
  unfold AftS
  cases e : ma s.ρ s.S with
  | ok f ρ S =>
    rw [e] at q
    intro s1 σ1 H1 l e1 e2 I
    subst e1 e2
    cases f with
    | nx =>
      refine AftS.go I ?_
      unfold AftS
      dsimp only at q
      cases e2 : mb s1.ρ s1.S with
      | ok f ρ' S' => rw [e2] at q; exact fun s' σ' H' l' => q s' σ' H' (l.trans l')
      | exc c ρ' S' => rw [e2] at q; exact fun s' σ' H' l' => q s' σ' H' (l.trans l')
      | stk => rw [e2] at q; exact q
    | rt d => exact q s1 σ1 H1 l rfl rfl I
    | bk => exact q s1 σ1 H1 l rfl rfl I
    | ct => exact q s1 σ1 H1 l rfl rfl I
  | exc c ρ S => rw [e] at q; exact q
  | stk => rw [e] at q; exact q
/-- a target ahead -/
theorem AftS.bindG {ft : MP.D → M Unit} {k : Unit → M Fl} {d : MP.D} {v : V} {ix : List Nat} {Q : L2.St → Hp → Prop} (q : AftS g T W (mbind (ft d) k) s D) (I : At g T s σ H) (r : rep g s.μ s.G d v) (hne : ∀ c ρ S, ft d s.ρ s.S ≠ .exc c ρ S)
    (h : ∀ s1 σ1 H1, Le s s1 → At g T s1 σ1 H1 → AftS g T W (k ()) s1 D → Q σ1 H1) : tG T g ix ft v σ H Q := by
  refine ⟨s, d, I, r, ?_⟩
  unfold AftS mbind at q
  cases e : ft d s.ρ s.S with
  | ok u ρ S =>
    rw [e] at q
    intro s1 σ1 H1 l e1 e2 I1 _ _
    subst e1 e2
    refine h s1 σ1 H1 l I1 ?_
    unfold AftS
    dsimp only at q
    cases e2 : k () s1.ρ s1.S with
    | ok f ρ' S' => rw [e2] at q; exact fun s' σ' H' l' => q s' σ' H' (l.trans l')
    | exc c ρ' S' => rw [e2] at q; exact fun s' σ' H' l' => q s' σ' H' (l.trans l')
    | stk => rw [e2] at q; exact q
  | exc c ρ S => exact absurd e (hne c ρ S)
  | stk => rw [e] at q; exact q
end
mutual
theorem bindT_noexc : ∀ (t : Tg) (d : D) (ρ : Fr) (S : Store) (c : Str) (ρ' : Fr) (S' : Store), bindT t d ρ S ≠ .exc c ρ' S'
  | .v i, d, ρ, S, c, ρ', S' => by
    unfold bindT
    split <;> exact fun h => nomatch h
  | .tup ts, d, ρ, S, c, ρ', S' => by
    unfold bindT
    cases h : seqD d with
    | none => exact fun h => nomatch h
    | some l => exact bindTs_noexc ts l ρ S c ρ' S'
  | .tupS n ts, d, ρ, S, c, ρ', S' => by
    unfold bindT
    cases h : seqD d with
    | none => exact fun h => nomatch h
    | some l =>
      dsimp only
      split
      · exact bindTs_noexc ts _ ρ S c ρ' S'
      · exact fun h => nomatch h
theorem bindTs_noexc : ∀ (ts : Tgs) (l : List D) (ρ : Fr) (S : Store) (c : Str) (ρ' : Fr) (S' : Store), bindTs ts l ρ S ≠ .exc c ρ' S'
  | .nil, [], ρ, S, c, ρ', S' => by unfold bindTs; exact fun h => nomatch h
  | .nil, _ :: _, ρ, S, c, ρ', S' => by unfold bindTs; exact fun h => nomatch h
  | .cons t ts, [], ρ, S, c, ρ', S' => by unfold bindTs; exact fun h => nomatch h
  | .cons t ts, d :: l, ρ, S, c, ρ', S' => by
    unfold bindTs mbind
    cases e : bindT t d ρ S with
    | ok a ρ1 S1 => exact bindTs_noexc ts l ρ1 S1 c ρ' S'
    | exc c' ρ1 S1 => exact absurd e (bindT_noexc t d ρ S c' ρ1 S1)
    | stk => exact fun h => nomatch h
end
section
variable {T : List NdefX.NTab} {W : WX} {X : Cx} {pos : Pos} {e : Expr} {me : M D} {st : Stmt} {rest : List Stmt} {ma mb : M Fl}
theorem ss_weak {t : TS} {m : M Fl} (h : PS X st t) (k : ∀ D σ H s, At X.gp T s σ H → AftS X.gp T W m s D → t D σ H) : SS T W X st m := h.weak fun D σ H q => let ⟨s, I, q⟩ := tSt_iff.mp q; k D σ H s I q
theorem sss_weak {sts : List Stmt} {t : TS} {m : M Fl} (h : PSs X sts t) (k : ∀ D σ H s, At X.gp T s σ H → AftS X.gp T W m s D → t D σ H) : SSs T W X sts m := h.weak fun D σ H q => let ⟨s, I, q⟩ := tSt_iff.mp q; k D σ H s I q
theorem s_nil : SSs T W X [] (mret .nx) := sss_weak pss_nil fun D σ H s I q => q.ret I
theorem s_cons (h1 : SS T W X st ma) (h2 : SSs T W X rest mb) : SSs T W X (st :: rest) (mbind ma fun f => match f with | .nx => mb | f => mret f) :=
  sss_weak (pss_cons h1 h2) fun D σ H s I q => q.seq.go I
theorem s_one (h1 : SS T W X st ma) : SSs T W X [st] ma := pss_one h1
theorem s_nev : SS T W X st mstk := ss_weak ps_never fun D σ H s I q => q.elim
theorem ss_nev {sts : List Stmt} : SSs T W X sts mstk := sss_weak pss_never fun D σ H s I q => q.elim
theorem s_pass : SS T W X (.Pass pos) (mret .nx) := ss_weak ps_pass fun D σ H s I q => q.ret I
theorem s_doc {x : Str} {j : Nat} {p2 : Pos} : SS T W X (.Expr (.Constant (.str x) j p2) pos) (mret .nx) := ss_weak ps_doc fun D σ H s I q => q.ret I
theorem s_brk : SS T W X (.Break pos) (mret .bk) := ss_weak ps_break fun D σ H s I q => q.ret I
theorem s_cont : SS T W X (.Continue pos) (mret .ct) := ss_weak ps_continue fun D σ H s I q => q.ret I
theorem s_ex (he : SE T W X e me) (hs : swapsWith e none pos.line X.env = pure false) : SS T W X (.Expr e pos) (mbind me fun _ => mret .nx) :=
  ss_weak (ps_expr he hs) fun D σ H s I q => ⟨s, I, q.bind.mono fun d s1 H1 le J q1 v hv => q1.ret J⟩
theorem s_ret (he : SE T W X e me) : SS T W X (.Return (some e) pos) (mbind me fun d => mret (.rt d)) :=
  ss_weak (ps_ret he) fun D σ H s I q => ⟨s, I, q.bind.mono fun d s1 H1 le J q1 v hv => q1.ret J v hv⟩
theorem s_retN : SS T W X (.Return none pos) (mret (.rt .non)) := ss_weak ps_retN fun D σ H s I q => q.ret I .non rfl
theorem s_if {c : Expr} {a b : List Stmt} {mt : M Bool} (hc : SB T W X c mt) (ha : SSs T W X a ma) (hb : SSs T W X b mb) : SS T W X (.If c a b pos) (mbind mt fun k => if k then ma else mb) :=
  ss_weak (ps_if hc ha hb) fun D σ H s I q => ⟨s, I, q.bind.mono fun k s1 H1 le J q1 => by
    cases k with
    | true => exact AftS.go J q1
    | false => exact AftS.go J q1⟩
/-- name = e -/
theorem s_set {i : Nat} {x : Str} {p2 : Pos} (hN : X.N.Nodup) (hi : X.N[i]? = some x) (hx : Loc X.env.scope x) (hf : X.fn x = true ∨ X.env.scope.names.lookup x = some .local) (he : SE T W X e me) (hs : swapsWith e (some (.Name x p2)) pos.line X.env = pure false) :
    SS T W X (.Assign [.Name x p2] e pos) (mbind me fun d => mbind (bindT (.v i) d) fun _ => mret .nx) :=
  ss_weak (ps_set hN hi hx he hs hf) fun D σ H s I q => ⟨s, I, q.bind.mono fun d s1 H1 le J q1 v hv => by
    have hl : i < s1.ρ.length := by
      by_cases h : i < s1.ρ.length
      · exact h
      · unfold AftS mbind bindT at q1
        simp only [if_neg h] at q1
    unfold AftS mbind bindT at q1
    simp only [if_pos hl] at q1
    exact q1 { s1 with ρ := s1.ρ.set i (.val d) } _ H1 ⟨rfl, Sub.refl _, fun _ _ h => h⟩ rfl rfl (J.setval hv)⟩
/-- targets = e -/
theorem s_asg {tg : Expr} {ix : List Nat} {t : Tg} (hg : SG T X tg ix (bindT t)) (he : SE T W X e me) (hs : swapsWithSole [tg] e pos.line X.env = pure false) (hw : swappedStores [tg] e X.env = pure none) (h1 : (assignEach [tg] X.env).map (·.2) = [assign tg X.env]) :
    SS T W X (.Assign [tg] e pos) (mbind me fun d => mbind (bindT t d) fun _ => mret .nx) :=
  ss_weak (ps_asg he hg hs hw h1) fun D σ H s I q => ⟨s, I, q.bind.mono fun d s1 H1 le J q1 v hv => AftS.bindG q1 J hv (fun c ρ S => bindT_noexc t d _ _ c ρ S) fun s2 σ2 H2 _ J2 q2 => q2.ret J2⟩
/-- name = a new list of the frame's own -/
theorem setO_core {i : Nat} {ml : M (List D)} {D : Ends} {σ : L2.St} {H : Hp} {s : Sg} {g : Gp} (I : At g T s σ H) (q : AftS g T W (mbind ml fun l => fun ρ S => if i < ρ.length then .ok .nx (ρ.set i (.own (.lst l))) S else .stk) s D) :
    tF T W g ml σ H fun v H1 => gName i v σ H1 D.nx := ⟨s, I, q.bind.mono fun l s1 H1 le J q1 v hv => by
    have hl : i < s1.ρ.length := by
      by_cases h : i < s1.ρ.length
      · exact h
      · unfold AftS at q1
        simp only [if_neg h] at q1
    unfold AftS at q1
    simp only [if_pos hl] at q1
    obtain ⟨p, vs, ev, e1, r, h1, h2, h3, h4, h5⟩ := hv
    subst ev
    exact q1 { s1 with ρ := s1.ρ.set i (.own (.lst l)) } _ H1 ⟨rfl, Sub.refl _, fun _ _ h => h⟩ rfl rfl (J.setown ⟨vs, e1, r⟩ h1 h2 h3 h5 h4)⟩
abbrev setOM (i : Nat) (ml : M (List D)) : M Fl := mbind ml fun l => fun ρ S => if i < ρ.length then .ok .nx (ρ.set i (.own (.lst l))) S else .stk
theorem s_setO {i : Nat} {x : Str} {p2 : Pos} {ml : M (List D)} (hN : X.N.Nodup) (hi : X.N[i]? = some x) (hx : Loc X.env.scope x) (hf : X.fn x = true ∨ X.env.scope.names.lookup x = some .local) (he : SF T W X e ml) (hs : swapsWith e (some (.Name x p2)) pos.line X.env = pure false) :
    SS T W X (.Assign [.Name x p2] e pos) (setOM i ml) :=
  ss_weak (ps_set hN hi hx he hs hf) fun D σ H s I q => setO_core I q
/-! ### calls of a list's methods -/
theorem s_aug {i : Nat} {x : Str} {p2 : Pos} {o : Operator} (hN : X.N.Nodup) (hi : X.N[i]? = some x) (hx : Loc X.env.scope x) (hf : X.fn x = true ∨ X.env.scope.names.lookup x = some .local) (he : SE T W X e me) :
    SS T W X (.AugAssign (.Name x p2) o e pos) (mbind (peek i) fun p => match p with
    | .v x => mbind me fun y => mbind (mopt (opAug o x y)) fun d => mbind (bindT (.v i) d) fun _ => mret .nx
    | _ => mstk) := by
  have hop : PIp X o fun x y H Q => ∃ (s : Sg) (dx dy d : MP.D), rep X.gp s.μ s.G dx x ∧ rep X.gp s.μ s.G dy y ∧ opAug o dx dy = some d ∧ ∀ v, (∀ μ G, rep X.gp μ G d v) → Q v H := by
    intro pins st σ H x y v u Q I rx ry ⟨s, dx, dy, d, h1, h2, h3, k⟩
    unfold opAug at h3
    split at h3
    · obtain rfl := (h1 : x = .int _); obtain rfl := (h2 : y = .int _); cases h3
      exact iop_add pins st σ H _ _ v u Q I rx ry ⟨_, _, rfl, rfl, k _ fun _ _ => rfl⟩
    · obtain rfl := (h1 : x = .str _); obtain rfl := (h2 : y = .str _)
      split at h3
      · rename_i hl
        cases h3
        exact iop_add_str pins st σ H _ _ v u Q I rx ry ⟨_, _, rfl, rfl, okl hl, k _ fun _ _ => rfl⟩
      · cases h3
    · obtain rfl := (h1 : x = .int _); obtain rfl := (h2 : y = .int _); cases h3
      exact iop_sub pins st σ H _ _ v u Q I rx ry ⟨_, _, rfl, rfl, k _ fun _ _ => rfl⟩
    · obtain rfl := (h1 : x = .int _); obtain rfl := (h2 : y = .int _)
      split at h3
      · rename_i hl
        have hl2 := of_decide_eq_true hl
        cases h3
        exact iop_mul pins st σ H _ _ v u Q I rx ry ⟨_, _, rfl, rfl, hl2, k _ fun _ _ => rfl⟩
      · cases h3
    · cases h3
  refine ss_weak (ps_aug hN hi hx he hop hf) fun D σ H s I q => ?_
  -- the name's value
  unfold AftS mbind peek at q
  cases es : s.ρ[i]? with
  | none => simp only [es] at q
  | some sl =>
    cases sl with
    | none => simp only [es] at q
    | lck o => simp only [es, mstk] at q
    | own o => simp only [es, mstk] at q
    | val d =>
      simp only [es] at q
      obtain ⟨v, ev, rv⟩ := I.slots i _ es
      have q : AftS X.gp T W (mbind me fun y => mbind (mopt (opAug o d y)) fun d => mbind (bindT (.v i) d) fun _ => mret .nx) s D := q
      refine ⟨v, ev, s, I, q.bind.mono fun y s1 H1 le J q1 w hw => ?_⟩
      obtain ⟨z, ez, q2⟩ := q1.opt
      have hl : i < s1.ρ.length := by
        by_cases h : i < s1.ρ.length
        · exact h
        · unfold AftS mbind bindT at q2
          simp only [if_neg h] at q2
      unfold AftS mbind bindT at q2
      simp only [if_pos hl] at q2
      exact ⟨s1, d, y, z, rep_le le rv, hw, ez, fun u hu => q2 { s1 with ρ := s1.ρ.set i (.val z) } _ H1 ⟨rfl, Sub.refl _, fun _ _ h => h⟩ rfl rfl (J.setval (hu _ _))⟩
/-! ### things that are changed -/
theorem ixD_ixN (n : Nat) (i : Int) : ixD n i = ixN n i := ixD_eq n i
/-- a change of a thing that stands in a slot or in the store -/
theorem chg_ok {D : Ends} {σ : L2.St} {H : Hp} {s : Sg} {p : PV} {v : V} {f : MO → Option MO} {g : Gp} (I : At g T s σ H) (q : AftS g T W (chg p f) s D) (hp : prep g s σ p v) :
    ∃ a o o', v = .ref a ∧ mrep g s.μ s.G H a o ∧ f o = some o' ∧ ∀ h', mrep g s.μ s.G (upd H a h') a o' → D.nx σ (upd H a h') := by
  cases p with
  | s i =>
    have hp : σ[i]? = some (some v) := hp
    unfold AftS chg at q
    cases es : s.ρ[i]? with
    | none => simp only [es] at q
    | some sl =>
      cases sl with
      | none => simp only [es] at q
      | lck o => simp only [es] at q
      | val d => simp only [es] at q
      | own o =>
        simp only [es] at q
        obtain ⟨a, e1, r, _⟩ := I.slots i _ es
        rw [hp] at e1; cases e1
        cases ef : f o with
        | none => simp only [ef] at q
        | some o' =>
          simp only [ef] at q
          exact ⟨a, o, o', rfl, r, ef, fun h' r' => q { s with ρ := s.ρ.set i (.own o') } σ _ ⟨rfl, Sub.refl _, fun _ _ h => h⟩ rfl rfl (I.ownwrite es hp r')⟩
  | v d =>
    cases d with
    | ref n =>
      obtain ⟨a, ev, hμ⟩ := hp
      unfold AftS chg at q
      cases eo : s.S[n]? with
      | none => simp only [eo] at q
      | some o =>
        simp only [eo] at q
        cases ef : f o with
        | none => simp only [ef] at q
        | some o' =>
          simp only [ef] at q
          exact ⟨a, o, o', ev, I.store n o a eo hμ, ef, fun h' r' => q { s with S := s.S.set n o' } σ _ ⟨rfl, Sub.refl _, fun _ _ h => h⟩ rfl rfl (I.stwrite eo hμ r')⟩
    | _ => exact q.elim
/-- o[i] = e -/
theorem s_seti {o i : Expr} {p2 : Pos} {po : M PV} {mi : M MP.D} (he : SE T W X e me) (ho : SP T W X o po) (hi : SE T W X i mi)
    (ha : ∀ v, assign (.Subscript o i p2) X.env v = (do
      let ov ← holding [v] (eval o X.env)
      let iv ← holding [v, ov] (eval i X.env)
      standAt p2
      holding [v, ov, iv] (setItem ov iv v)
      release [v, ov, iv] []))
    (hs : swapsWithSole [.Subscript o i p2] e pos.line X.env = pure false) (hw : swappedStores [.Subscript o i p2] e X.env = pure none) (h1 : (assignEach [.Subscript o i p2] X.env).map (·.2) = [assign (.Subscript o i p2) X.env]) :
    SS T W X (.Assign [.Subscript o i p2] e pos) (mbind me fun d => mbind po fun p => mbind mi fun k => chg p (putAt k d)) :=
  ss_weak (ps_asg he (pg_sub ho hi set_list ha) hs hw h1) fun D σ H s I q => ⟨s, I, q.bind.mono fun d s1 H1 le J q1 v hv => ⟨s1, J, q1.bind.mono fun p s2 H2 le2 J2 q2 vo hvo => ⟨s2, J2, q2.bind.mono fun k s3 H3 le3 J3 q3 vi hvi => by
    obtain ⟨a, o', o2, ev, r, ef, kk⟩ := chg_ok J3 q3 (prep_le le3 hvo)
    unfold putAt at ef
    cases o' with
    | lst l =>
      cases k with
      | int z =>
        obtain ⟨j, ej, e2⟩ := Option.map_eq_some_iff.mp ef
        subst e2
        obtain ⟨vs, eh, rs⟩ := r
        have evi : vi = .int z := hvi
        have ln := reps_len rs
        refine ⟨a, vs, z, j, ev, evi, eh, ?_, kk (.lst (vs.set j v)) ⟨_, upd_same, reps_set (rep_le (le2.trans le3) hv) j rs⟩⟩
        rw [← ixD_ixN, ← ln]
        exact ej
      | _ => cases ef
    | dct _ _ => exact r.elim
    | ins _ _ => cases ef⟩⟩⟩
theorem tyV_ref {K : PySem.W.Frag} {a : Addr} {H : Hp} {vs : List V} (h : H a = some (.lst vs)) : tyV K "list" (.ref a) H := .inl ⟨rfl, vs, SqL.of h⟩
/-- a place's value now, ahead of statements -/
theorem AftS.val {D : Ends} {σ : L2.St} {H : Hp} {s : Sg} {p : PV} {v : V} {k : MP.D → M Fl} {g : Gp} (q : AftS g T W (mbind (mval p) k) s D) (I : At g T s σ H) (hp : prep g s σ p v) : ∃ d, wrep g s H d v ∧ AftS g T W (k d) s D := by
  have h := Aft.val (Q := fun d s1 H1 => AftS g T W (k d) s1 D) (k := mret) (p := p) (v := v) (s := s) (σ := σ) (H := H) (g := g) (T := T) (W := W) ?_ I hp
  · obtain ⟨d, w, q1⟩ := h
    exact ⟨d, w, q1.ret I⟩
  · have : mbind (mval p) mret = mval p := by
      funext ρ S
      unfold mbind
      cases mval p ρ S <;> rfl
    rw [this]
    exact q.bind
/-- o.append(e) -/
theorem s_app {o : Expr} {p2 apos : Pos} {po : M PV} (hn : ∀ x p, e ≠ .Starred x p) (ho : SP T W X o po) (hb : ∀ f as ks p, o ≠ .Call f as ks p) (hline : (apos.endLine == p2.line) = true) (he : SE T W X e me) (hs : swapsWith (.Call (.Attribute o "append" apos) [e] [] p2) none pos.line X.env = pure false) :
    SS T W X (.Expr (.Call (.Attribute o "append" apos) [e] [] p2) pos) (mbind po fun p => mbind (mval p) fun x => match x with
    | .lst _ => mbind me fun d => chg p (addTo [d])
    | _ => mstk) :=
  ss_weak (ps_expr (pe_bm PySem.F.plainAttrs_list PySem.F.slot_list_append PySem.F.type_list_append mt_append ho (pa_cons he pa_nil (starCons hn)) (noAttrB hb) (few_of (fun e' he' => by rw [List.mem_singleton.mp he']; exact hn) (by simp)) hline (starCons hn) rfl) hs) fun D σ H s I q =>
    ⟨s, I, q.bind.mono fun p s1 H1 le J q1 vo hvo => by
      obtain ⟨x, w, q2⟩ := q1.val J hvo
      cases x with
      | lst l0 =>
        obtain ⟨a0, vs0, e0, h0, _⟩ := w.lst J.gh
        refine ⟨by rw [e0]; exact tyV_ref h0, s1, J, q2.bind.mono fun d s2 H2 le2 J2 q3 v hv => ?_⟩
        obtain ⟨a, o', o2, ev, r, ef, kk⟩ := chg_ok J2 q3 (prep_le le2 hvo)
        unfold addTo at ef
        cases o' with
        | lst l =>
          dsimp only at ef
          split at ef
          · rename_i hl
            cases ef
            obtain ⟨vs, eh, rs⟩ := r
            have ln := reps_len rs
            have hl := okl hl
            simp only [List.length_singleton] at hl
            exact ⟨a, vs, v, ev, rfl, eh, by rw [← ln]; omega, kk (.lst (vs ++ [v])) ⟨_, upd_same, reps_append rs ⟨v, [], rfl, hv, rfl⟩⟩⟩
          · cases ef
        | dct _ _ => exact r.elim
        | ins _ _ => cases ef
      | _ => exact q2.elim⟩
/-- o.extend(e) -/
theorem s_ext {o : Expr} {p2 apos : Pos} {po : M PV} (hn : ∀ x p, e ≠ .Starred x p) (ho : SP T W X o po) (hb : ∀ f as ks p, o ≠ .Call f as ks p) (hline : (apos.endLine == p2.line) = true) (he : SE T W X e me) (hs : swapsWith (.Call (.Attribute o "extend" apos) [e] [] p2) none pos.line X.env = pure false) :
    SS T W X (.Expr (.Call (.Attribute o "extend" apos) [e] [] p2) pos) (mbind po fun p => mbind (mval p) fun x => match x with
    | .lst _ => mbind me fun d => match d with
      | .lst l => chg p (addTo l)
      | _ => mstk
    | _ => mstk) :=
  ss_weak (ps_expr (pe_bm PySem.F.plainAttrs_list PySem.F.slot_list_extend PySem.F.type_list_extend mt_extend ho (pa_cons he pa_nil (starCons hn)) (noAttrB hb) (few_of (fun e' he' => by rw [List.mem_singleton.mp he']; exact hn) (by simp)) hline (starCons hn) rfl) hs) fun D σ H s I q =>
    ⟨s, I, q.bind.mono fun p s1 H1 le J q1 vo hvo => by
      obtain ⟨x, w, q2⟩ := q1.val J hvo
      cases x with
      | lst l0 =>
        obtain ⟨a0, vs0, e0, h0, _⟩ := w.lst J.gh
        refine ⟨by rw [e0]; exact tyV_ref h0, s1, J, q2.bind.mono fun d s2 H2 le2 J2 q3 v hv => ?_⟩
        cases d with
        | lst l2 =>
          obtain ⟨b, vs2, ev2, eh2, rs2⟩ := hv
          obtain ⟨a, o', o2, ev, r, ef, kk⟩ := chg_ok J2 q3 (prep_le le2 hvo)
          unfold addTo at ef
          cases o' with
          | lst l =>
            dsimp only at ef
            split at ef
            · rename_i hl
              cases ef
              obtain ⟨vs, eh, rs⟩ := r
              have ln := reps_len rs
              have ln2 := reps_len rs2
              have hl := okl hl
              exact ⟨a, b, vs, vs2, ev, by rw [ev2], eh, J2.gh _ _ eh2, by rw [← ln, ← ln2]; exact hl, kk (.lst (vs ++ vs2)) ⟨_, upd_same, reps_append rs rs2⟩⟩
            · cases ef
          | dct _ _ => exact r.elim
          | ins _ _ => cases ef
        | _ => exact q3.elim
      | _ => exact q2.elim⟩
/-! ### loops -/
theorem s_for {tg iter : Expr} {body : List Stmt} {mi : M (List MP.D)} {t : Tg} {ix : List Nat} {mb : M Fl} (hp : PassesOwn (model X.prog X.w) X.A X.env X.xe) (hc : X.calm = true) (hi : SI T W X tg iter mi) (hg : SG T X tg ix (bindT t)) (hb : SSs T W X body mb) (hs : ∀ x, foldedSetIterable iter X.env x = pure x) :
    SS T W X (.For tg iter body [] pos) (mbind mi fun l => forM t mb l) :=
  ss_weak (ps_for hp hc hi hg hb hs) fun D σ H s I q => ⟨s, I, q.bind.mono fun l s1 H1 le J q1 It wk => by
    refine ⟨fun i m σ H => m = l.length - i ∧ i ≤ l.length ∧ ∃ si, Le s1 si ∧ At X.gp T si σ H ∧ AftS X.gp T W (forM t mb (l.drop i)) si D, ⟨l.length, by simp, Nat.zero_le _, s1, Le.refl _, J, q1⟩, ?_⟩
    rintro i m σ2 H2 ⟨rfl, hi, si, lei, Ji, qi⟩
    by_cases hlt : i < l.length
    · refine .inr ⟨wk.go i si σ2 H2 hlt lei.lp Ji, fun σ H => ∃ si, Le s1 si ∧ At X.gp T si σ H ∧ AftS X.gp T W (forM t mb (l.drop (i + 1))) si D, fun σ' H' p' => ⟨l.length - (i + 1), by omega, rfl, hlt, p'⟩, fun x H' y => ?_⟩
      obtain ⟨d, s2, e1, le2, er2, es2, J2, rx⟩ := wk.yld i si σ2 H2 x H' hlt lei.lp Ji y
      have hdrop : l.drop i = d :: l.drop (i + 1) := by
        rw [List.drop_eq_getElem_cons hlt]
        congr 1
        rw [List.getElem?_eq_getElem hlt] at e1
        exact Option.some.inj e1
      rw [hdrop] at qi
      have qj := qi.le le2 er2 es2
      have qj : AftS X.gp T W (mbind (bindT t d) fun _ => mbind mb fun f => match f with
        | .nx => forM t mb (l.drop (i + 1))
        | .ct => forM t mb (l.drop (i + 1))
        | .bk => mret .nx
        | .rt d => mret (.rt d)) s2 D := qj
      refine AftS.bindG qj J2 rx (fun c ρ S => bindT_noexc t d _ _ c ρ S) fun s3 σ3 H3 le3 J3 q3 => AftS.go J3 ?_
      unfold AftS mbind at q3
      unfold AftS
      cases e : mb s3.ρ s3.S with
      | ok f ρ S =>
        rw [e] at q3
        intro s4 σ4 H4 le4 er4 es4 J4
        have more : AftS X.gp T W (forM t mb (l.drop (i + 1))) s4 D → ∃ si, Le s1 si ∧ At X.gp T si σ4 H4 ∧ AftS X.gp T W (forM t mb (l.drop (i + 1))) si D := fun q4 => ⟨s4, lei.trans (le2.trans (le3.trans le4)), J4, q4⟩
        have conv : ∀ {mm : M Fl}, (match mm ρ S with
            | .ok f ρ S => ∀ s' σ' H', Le s3 s' → s'.ρ = ρ → s'.S = S → At X.gp T s' σ' H' → FlD X.gp s' D σ' H' f
            | .exc c ρ S => ∀ s' σ' H', Le s3 s' → s'.ρ = ρ → s'.S = S → At X.gp T s' σ' H' → W (gcls X.gp c) none σ' H'
            | .stk => False) → AftS X.gp T W mm s4 D := fun {mm} qq => by
          unfold AftS
          rw [er4, es4]
          cases e2 : mm ρ S with
          | ok f ρ' S' => rw [e2] at qq; exact fun s' σ' H' l' => qq s' σ' H' (le4.trans l')
          | exc c ρ' S' => rw [e2] at qq; exact fun s' σ' H' l' => qq s' σ' H' (le4.trans l')
          | stk => rw [e2] at qq; exact qq
        cases f with
        | nx => exact more (conv q3)
        | ct => exact more (conv q3)
        | bk => exact (conv (mm := mret .nx) q3).ret J4
        | rt d' => exact (conv (mm := mret (.rt d')) q3).ret J4
      | exc c ρ S =>
        rw [e] at q3
        exact fun s' σ' H' l' => q3 s' σ' H' l'
      | stk => rw [e] at q3; exact q3
    · have e : i = l.length := by omega
      subst e
      rw [List.drop_length] at qi
      exact .inl ⟨wk.stop si σ2 H2 lei.lp Ji, qi.ret Ji⟩⟩
theorem s_whl {c : Expr} {body : List Stmt} {mt : M Bool} {mb : M Fl} {n : Nat} (hp : PassesOwn (model X.prog X.w) X.A X.env X.xe) (hc : SB T W X c mt) (hb : SSs T W X body mb) : SS T W X (.While c body [] pos) (whlM mt mb n) :=
  ss_weak (ps_while hp hc hb) fun D σ H s I q => by
    refine ⟨fun m σ H => ∃ si, At X.gp T si σ H ∧ AftS X.gp T W (whlM mt mb m) si D, ⟨n, s, I, q⟩, ?_⟩
    rintro m σ1 H1 ⟨si, Ji, qi⟩
    cases m with
    | zero => exact qi.elim
    | succ m =>
      have qi : AftS X.gp T W (mbind mt fun b => if b then mbind mb fun f => (match f with
        | .nx => whlM mt mb m
        | .ct => whlM mt mb m
        | .bk => mret .nx
        | .rt d => mret (.rt d)) else mret .nx) si D := qi
      refine ⟨si, Ji, qi.bind.mono fun b s3 H3 le3 J3 q3 => ?_⟩
      cases b with
      | false =>
        simp only [Bool.false_eq_true, if_false] at q3 ⊢
        exact q3.ret J3
      | true =>
        simp only [if_true] at q3 ⊢
        refine ⟨fun σ H => ∃ si, At X.gp T si σ H ∧ AftS X.gp T W (whlM mt mb m) si D, fun σ' H' p' => ⟨m, Nat.lt_succ_self _, p'⟩, AftS.go J3 ?_⟩
        unfold AftS mbind at q3
        unfold AftS
        cases e : mb s3.ρ s3.S with
        | ok f ρ S =>
          rw [e] at q3
          intro s4 σ4 H4 le4 er4 es4 J4
          have conv : ∀ {mm : M Fl}, (match mm ρ S with
              | .ok f ρ S => ∀ s' σ' H', Le s3 s' → s'.ρ = ρ → s'.S = S → At X.gp T s' σ' H' → FlD X.gp s' D σ' H' f
              | .exc c ρ S => ∀ s' σ' H', Le s3 s' → s'.ρ = ρ → s'.S = S → At X.gp T s' σ' H' → W (gcls X.gp c) none σ' H'
              | .stk => False) → AftS X.gp T W mm s4 D := fun {mm} qq => by
            unfold AftS
            rw [er4, es4]
            cases e2 : mm ρ S with
            | ok f ρ' S' => rw [e2] at qq; exact fun s' σ' H' l' => qq s' σ' H' (le4.trans l')
            | exc c ρ' S' => rw [e2] at qq; exact fun s' σ' H' l' => qq s' σ' H' (le4.trans l')
            | stk => rw [e2] at qq; exact qq
          cases f with
          | nx => exact ⟨s4, J4, conv q3⟩
          | ct => exact ⟨s4, J4, conv q3⟩
          | bk => exact (conv (mm := mret .nx) q3).ret J4
          | rt d' => exact (conv (mm := mret (.rt d')) q3).ret J4
        | exc c ρ S =>
          rw [e] at q3
          exact fun s' σ' H' l' => q3 s' σ' H' l'
        | stk => rw [e] at q3; exact q3
/-! ### comprehensions -/
section
variable {elt tg iter tg1 iter1 : Expr} {ifs ifs1 : List Expr} {scope : Scope} {own : List (Str × Nat)} {vs1 : List Nat} {mi mi1 : M (List MP.D)} {ft ft1 : MP.D → M Unit} {ix ix1 : List Nat} {mc mc1 : M Bool} {me : M MP.D}
theorem r_lc (hc : X.calm = true) (hN : X.N.Nodup) (hi : SI T W X tg iter mi) (ok : BlkOk X.N X.env.scope scope own) (hix : ∀ i ∈ ix, i ∈ own.map (·.2))
    (hg : ∀ (s : Shared) (H : Hp) (C : Addr) (cl : List (Str × Addr)) (fp : List Addr), SG T (X.blk s H scope (compEnvC scope cl C X.env) fp) tg ix ft) (ht : ∀ (s : Shared) (H : Hp) (C : Addr) (cl : List (Str × Addr)) (fp : List Addr), STs T (X.blk s H scope (compEnvC scope cl C X.env) fp) ifs mc)
    (he : ∀ (s : Shared) (H : Hp) (C : Addr) (cl : List (Str × Addr)) (fp : List Addr), SE T WF (X.blk s H scope (compEnvC scope cl C X.env) fp) elt me) (hs : ∀ x, foldedSetIterable iter X.env x = pure x) :
    SF T W X (.ListComp elt [⟨tg, iter, ifs, 0⟩] scope pos) (lcM (clM mi ft (own.map (·.2)) mc (mbind me fun d => mret [d]))) :=
  (pe_lc hc hN hi ok hg ht he hs).weak fun σ H Q h => t_lc hix h
theorem r_lc2 (hc : X.calm = true) (hN : X.N.Nodup) (hi : SI T W X tg iter mi) (ok : BlkOk X.N X.env.scope scope own) (hv : ∀ i ∈ vs1, i ∈ own.map (·.2)) (hix : ∀ i ∈ ix, i ∈ own.map (·.2)) (hix1 : ∀ i ∈ ix1, i ∈ vs1)
    (hg : ∀ (s : Shared) (H : Hp) (C : Addr) (cl : List (Str × Addr)) (fp : List Addr), SG T (X.blk s H scope (compEnvC scope cl C X.env) fp) tg ix ft) (ht : ∀ (s : Shared) (H : Hp) (C : Addr) (cl : List (Str × Addr)) (fp : List Addr), STs T (X.blk s H scope (compEnvC scope cl C X.env) fp) ifs mc)
    (hi1 : ∀ (s : Shared) (H : Hp) (C : Addr) (cl : List (Str × Addr)) (fp : List Addr), SI T WF (X.blk s H scope (compEnvC scope cl C X.env) fp) tg1 iter1 mi1)
    (hg1 : ∀ (s : Shared) (H : Hp) (C : Addr) (cl : List (Str × Addr)) (fp : List Addr), SG T (X.blk s H scope (compEnvC scope cl C X.env) fp) tg1 ix1 ft1) (ht1 : ∀ (s : Shared) (H : Hp) (C : Addr) (cl : List (Str × Addr)) (fp : List Addr), STs T (X.blk s H scope (compEnvC scope cl C X.env) fp) ifs1 mc1)
    (he : ∀ (s : Shared) (H : Hp) (C : Addr) (cl : List (Str × Addr)) (fp : List Addr), SE T WF (X.blk s H scope (compEnvC scope cl C X.env) fp) elt me) (hs : ∀ x, foldedSetIterable iter X.env x = pure x) (hs1 : ∀ env x, foldedSetIterable iter1 env x = pure x) :
    SF T W X (.ListComp elt [⟨tg, iter, ifs, 0⟩, ⟨tg1, iter1, ifs1, 0⟩] scope pos) (lcM (clM mi ft (own.map (·.2)) mc (clM mi1 ft1 vs1 mc1 (mbind me fun d => mret [d])))) :=
  (pe_lc2 hc hN hi ok hv hg ht hi1 hg1 ht1 he hs hs1).weak fun σ H Q h => t_lc2 hix hix1 h
/-- name = [..], on one line -/
theorem s_setLc {i : Nat} {y : Str} {py p2 : Pos} (hc : X.calm = true) (hN : X.N.Nodup) (hy : X.N[i]? = some y) (hyl : X.env.scope.names.lookup y = some .local)
    (hsw : swapsWith (.ListComp elt [⟨tg, iter, ifs, 0⟩] scope pos) (some (.Name y py)) p2.line X.env = pure true) (hi : SI T W X tg iter mi) (ok : BlkOk X.N X.env.scope scope own) (hix : ∀ i ∈ ix, i ∈ own.map (·.2))
    (hg : ∀ (s : Shared) (H : Hp) (C : Addr) (cl : List (Str × Addr)) (fp : List Addr), SG T (X.blk s H scope (compEnvC scope cl C X.env) fp) tg ix ft) (ht : ∀ (s : Shared) (H : Hp) (C : Addr) (cl : List (Str × Addr)) (fp : List Addr), STs T (X.blk s H scope (compEnvC scope cl C X.env) fp) ifs mc)
    (he : ∀ (s : Shared) (H : Hp) (C : Addr) (cl : List (Str × Addr)) (fp : List Addr), SE T WF (X.blk s H scope (compEnvC scope cl C X.env) fp) elt me) (hs : ∀ x, foldedSetIterable iter X.env x = pure x) :
    SS T W X (.Assign [.Name y py] (.ListComp elt [⟨tg, iter, ifs, 0⟩] scope pos) p2) (setOM i (lcM (clM mi ft (own.map (·.2)) mc (mbind me fun d => mret [d])))) :=
  ss_weak (ps_setLc hc hN hy hyl hsw hi ok hg ht he hs) fun D σ H s I q => t_lc hix (setO_core I q)
theorem s_setLc2 {i : Nat} {y : Str} {py p2 : Pos} (hc : X.calm = true) (hN : X.N.Nodup) (hy : X.N[i]? = some y) (hyl : X.env.scope.names.lookup y = some .local)
    (hsw : swapsWith (.ListComp elt [⟨tg, iter, ifs, 0⟩, ⟨tg1, iter1, ifs1, 0⟩] scope pos) (some (.Name y py)) p2.line X.env = pure true) (hi : SI T W X tg iter mi) (ok : BlkOk X.N X.env.scope scope own) (hv : ∀ i ∈ vs1, i ∈ own.map (·.2)) (hix : ∀ i ∈ ix, i ∈ own.map (·.2)) (hix1 : ∀ i ∈ ix1, i ∈ vs1)
    (hg : ∀ (s : Shared) (H : Hp) (C : Addr) (cl : List (Str × Addr)) (fp : List Addr), SG T (X.blk s H scope (compEnvC scope cl C X.env) fp) tg ix ft) (ht : ∀ (s : Shared) (H : Hp) (C : Addr) (cl : List (Str × Addr)) (fp : List Addr), STs T (X.blk s H scope (compEnvC scope cl C X.env) fp) ifs mc)
    (hi1 : ∀ (s : Shared) (H : Hp) (C : Addr) (cl : List (Str × Addr)) (fp : List Addr), SI T WF (X.blk s H scope (compEnvC scope cl C X.env) fp) tg1 iter1 mi1)
    (hg1 : ∀ (s : Shared) (H : Hp) (C : Addr) (cl : List (Str × Addr)) (fp : List Addr), SG T (X.blk s H scope (compEnvC scope cl C X.env) fp) tg1 ix1 ft1) (ht1 : ∀ (s : Shared) (H : Hp) (C : Addr) (cl : List (Str × Addr)) (fp : List Addr), STs T (X.blk s H scope (compEnvC scope cl C X.env) fp) ifs1 mc1)
    (he : ∀ (s : Shared) (H : Hp) (C : Addr) (cl : List (Str × Addr)) (fp : List Addr), SE T WF (X.blk s H scope (compEnvC scope cl C X.env) fp) elt me) (hs : ∀ x, foldedSetIterable iter X.env x = pure x) (hs1 : ∀ env x, foldedSetIterable iter1 env x = pure x) :
    SS T W X (.Assign [.Name y py] (.ListComp elt [⟨tg, iter, ifs, 0⟩, ⟨tg1, iter1, ifs1, 0⟩] scope pos) p2) (setOM i (lcM (clM mi ft (own.map (·.2)) mc (clM mi1 ft1 vs1 mc1 (mbind me fun d => mret [d]))))) :=
  ss_weak (ps_setLc2 hc hN hy hyl hsw hi ok hv hg ht hi1 hg1 ht1 he hs hs1) fun D σ H s I q => t_lc2 hix hix1 (setO_core I q)
end
end
end MP

namespace MP
open PySem PySem.Spec L2 PyProof.Rows
/-! ### (a, .., *rest) = .. -/
section
variable {prog : Program} {w : World} {A : Around} {E : Value → Shared → Prop} {s : Shared}
theorem unp_list {l : Addr} {items : Array Value} {n : Nat} {Q : List Value → Shared → Prop} (hl : s.heap.IsList l items) (hh : A.handled = none) (hn : n ≤ items.size) (hz : items.size ≤ sizeLine)
    (h : ∀ (h2 : Heap) (tk : Nat), (∀ b o, s.heap.get? b = some o → h2.get? b = some o) → Q (items.toList.take n ++ [.ref h2.objs.size]) { s with heap := h2.push { cls := .type "list", data := .seq (items.toList.drop n).toArray }, toks := tk }) :
    wpAny (model prog w) A (unpackItems (.ref l) (n + 1) (some n)) Q E s := by
  have ll : l < s.heap.objs.size := by obtain ⟨o, ho, _⟩ := id hl; exact Heap.lt_size ho
  have ne : l ≠ s.heap.objs.size := Nat.ne_of_lt ll
  unfold unpackItems
  refine wpAny_bind ?_
  unfold notIterableAtAll
  refine wpAny_bind (wpAny_specialOf hl.typeIs slot_list_iter.lookup (wpAny_pure ?_))
  simp only [Bool.false_eq_true, if_false]
  refine wpAny_bind (wpAny_holding (wpAny_pyIter_list hl ?_))
  refine wpAny_bind (wpAny_holding (PySem.W.kun_draw ne n 0 _ _ ⟨_, Heap.get?_push_size _ rfl, rfl, rfl⟩ (hl.push _) (by omega) fun h1 it1 sb => ?_))
  have hl1 : h1.IsList l items := (hl.push _).extBut sb.extBut ne
  rw [Nat.zero_add] at it1
  obtain ⟨oi, hoi, _⟩ := id it1
  obtain ⟨ol, hol, _⟩ := id hl1
  rw [List.drop_zero]
  have len1 : (items.toList.take n).length = n := by rw [List.length_take, Array.length_toList]; omega
  rw [if_neg (show ¬ ((items.toList.take n).length < n) by rw [len1]; omega)]
  refine wpAny_bind (wpAny_holding (PySem.W.kun_collect (s := { s with heap := h1 }) (T := "list_iterator") (.inr (.inr (.inl rfl))) (Walks.list (A := A.in1) hh s.heap.objs.size l ne items) (fun j u st => st.1.typeIs) (k := n) hn ⟨it1, hl1⟩ (Heap.lt_size hoi) (Heap.lt_size hol) (fun h2 tk hk => ?_) hz))
  have e0 : n + 1 - 1 - n = 0 := by omega
  rw [e0]
  show wpAny _ _ (if (items.toList.drop n).length < 0 then _ else _) _ _ _
  rw [if_neg (by omega)]
  show wpAny _ _ (newList ((items.toList.drop n).take ((items.toList.drop n).length - 0)) >>= fun d => pure (items.toList.take n ++ [d] ++ (items.toList.drop n).drop ((items.toList.drop n).length - 0))) _ _ _
  rw [Nat.sub_zero, List.take_length, List.drop_length]
  refine wpAny_bind (wpAny_newObj_type (wpAny_pure ?_) (by show (items.toList.drop n).toArray.size ≤ sizeLine; rw [List.size_toArray, List.length_drop, Array.length_toList]; omega))
  rw [List.append_nil]
  exact h h2 tk fun b o e => hk b o (Nat.ne_of_lt (Heap.lt_size e)) (sb.extBut b o (Nat.ne_of_lt (Heap.lt_size e)) (Heap.get?_push_of_some _ e))
theorem unp_tup {l : Addr} {items : Array Value} {n : Nat} {Q : List Value → Shared → Prop} (hl : IsTup s.heap l items) (hh : A.handled = none) (hn : n ≤ items.size) (hz : items.size ≤ sizeLine)
    (h : ∀ (h2 : Heap) (tk : Nat), (∀ b o, s.heap.get? b = some o → h2.get? b = some o) → Q (items.toList.take n ++ [.ref h2.objs.size]) { s with heap := h2.push { cls := .type "list", data := .seq (items.toList.drop n).toArray }, toks := tk }) :
    wpAny (model prog w) A (unpackItems (.ref l) (n + 1) (some n)) Q E s := by
  have ll : l < s.heap.objs.size := by obtain ⟨o, ho, _⟩ := id hl; exact Heap.lt_size ho
  have ne : l ≠ s.heap.objs.size := Nat.ne_of_lt ll
  unfold unpackItems
  refine wpAny_bind ?_
  unfold notIterableAtAll
  refine wpAny_bind (wpAny_specialOf hl.typeIs slot_tuple_iter.lookup (wpAny_pure ?_))
  simp only [Bool.false_eq_true, if_false]
  refine wpAny_bind (wpAny_holding (iter_tuple hl ?_))
  refine wpAny_bind (wpAny_holding (draw_tuple ne n 0 _ _ ⟨_, Heap.get?_push_size _ rfl, rfl, rfl⟩ (hl.push _) (by omega) fun h1 it1 sb => ?_))
  have hl1 : IsTup h1 l items := (hl.push _).extBut sb.extBut ne
  rw [Nat.zero_add] at it1
  obtain ⟨oi, hoi, _⟩ := id it1
  obtain ⟨ol, hol, _⟩ := id hl1
  rw [List.drop_zero]
  have len1 : (items.toList.take n).length = n := by rw [List.length_take, Array.length_toList]; omega
  rw [if_neg (show ¬ ((items.toList.take n).length < n) by rw [len1]; omega)]
  refine wpAny_bind (wpAny_holding (PySem.W.kun_collect (s := { s with heap := h1 }) (T := "tuple_iterator") (.inr (.inr (.inr rfl))) (Walks.tuple (A := A.in1) hh s.heap.objs.size l ne items) (fun j u st => st.1.typeIs) (k := n) hn ⟨it1, hl1⟩ (Heap.lt_size hoi) (Heap.lt_size hol) (fun h2 tk hk => ?_) hz))
  have e0 : n + 1 - 1 - n = 0 := by omega
  rw [e0]
  show wpAny _ _ (if (items.toList.drop n).length < 0 then _ else _) _ _ _
  rw [if_neg (by omega)]
  show wpAny _ _ (newList ((items.toList.drop n).take ((items.toList.drop n).length - 0)) >>= fun d => pure (items.toList.take n ++ [d] ++ (items.toList.drop n).drop ((items.toList.drop n).length - 0))) _ _ _
  rw [Nat.sub_zero, List.take_length, List.drop_length]
  refine wpAny_bind (wpAny_newObj_type (wpAny_pure ?_) (by show (items.toList.drop n).toArray.size ≤ sizeLine; rw [List.size_toArray, List.length_drop, Array.length_toList]; omega))
  rw [List.append_nil]
  exact h h2 tk fun b o e => hk b o (Nat.ne_of_lt (Heap.lt_size e)) (sb.extBut b o (Nat.ne_of_lt (Heap.lt_size e)) (Heap.get?_push_of_some _ e))
end
section
variable {T : List NdefX.NTab} {W : WX} {X : Cx} {pos : Pos}
theorem Vals.take' {vs : List V} {us : List Value} (h : Vals vs us) : ∀ n : Nat, Vals (vs.take n) (us.take n) := by
  induction h with
  | nil => intro n; rw [List.take_nil, List.take_nil]; exact .nil
  | cons r t ih =>
    intro n
    cases n with
    | zero => exact .nil
    | succ n => exact .cons r (ih n)
theorem gs_star {e : Expr} {p2 : Pos} {ix : List Nat} {f : D → M Unit} (h1 : SG T X e ix f) (hs : (assignEach [.Starred e p2] X.env).map (·.2) = [assign e X.env]) : SGs T X [.Starred e p2] ix (fun l => match l with | [d] => f d | _ => mstk) := by
  refine ⟨fun pins st σ H vs us Q I r ⟨s, l, A, rl, q⟩ => ?_⟩
  match l with
  | [] => exact q.elim
  | _ :: _ :: _ => exact q.elim
  | [d] =>
    obtain ⟨v, vr, ev, rv, rr⟩ := rl
    have e2 : vr = [] := rr
    subst e2 ev
    cases r with
    | cons r rr =>
      cases rr
      rw [hs]
      exact assignInOrder_cons (thn (h1.run pins st σ H v _ Q I r ⟨s, d, A, rv, q⟩) fun _ s1 ⟨σ1, H1, I1, q1⟩ => assignInOrder_nil ⟨σ1, H1, I1, q1⟩)
theorem g_tupS {es : List Expr} {k n : Nat} {ix : List Nat} {f : List D → M Unit} (hc : X.calm = true) (h : SGs T X es ix f) (hl : (assignEach es X.env).length = n + 1) (hst : (assignEach es X.env).findIdx? (·.1) = some n) :
    SG T X (.Tuple es k pos) ix (fun d => match seqD d with
    | some l => if decide (n ≤ l.length) then f (l.take n ++ [.lst (l.drop n)]) else mstk
    | none => mstk) := by
  have key : ∀ (pins : List (Addr × Obj)) (st : Shared) (σ : L2.St) (H : Hp) (s : Sg) (l : List D) (vs : List V) (its : List Value) (Q : L2.St → Hp → Prop) (h2 : Heap) (tk : Nat), L2.Inv X pins σ H st → At X.gp T s σ H → reps X.gp s.μ s.G l vs → Vals vs its → its.length ≤ sizeLine →
      (match f (l.take n ++ [.lst (l.drop n)]) s.ρ s.S with
      | .ok _ ρ S => ∀ s' σ' H', Le s s' → s'.ρ = ρ → s'.S = S → At X.gp T s' σ' H' → σ'.length = σ.length → (∀ i, i ∉ ix → σ'[i]? = σ[i]?) → Q σ' H'
      | _ => False) → (∀ b o, st.heap.get? b = some o → h2.get? b = some o) →
      wpAny (model X.prog X.w) X.A (assignInOrder ((assignEach es X.env).map (·.2)) (its.take n ++ [.ref h2.objs.size])) (fun _ s' => ∃ σ' H', L2.Inv X pins σ' H' s' ∧ Q σ' H') X.xe { st with heap := h2.push { cls := .type "list", data := .seq (its.drop n).toArray }, toks := tk } := by
    intro pins st σ H s l vs its Q h2 tk I A rs rv hz q kp
    have I2 : L2.Inv X pins σ H { st with heap := h2, toks := tk } := I.kept kp
    have hp : H h2.objs.size = none := I2.hok.fresh (Nat.le_refl _)
    have I3 : L2.Inv X pins σ (upd H h2.objs.size (.lst (vs.drop n))) { st with heap := h2.push { cls := .type "list", data := .seq (its.drop n).toArray }, toks := tk } :=
      I2.laid (t' := tk) (fun b o e => Heap.get?_push_of_some _ e) (Nat.le_refl _) ⟨by rw [List.length_drop, rv.length]; omega, its.drop n, 0, rv.drop n, Heap.get?_push_size _ rfl⟩
    obtain ⟨A2, fr⟩ := At.newlst A hp (reps_drop n rs)
    obtain ⟨s3, le3, er, es3, A3, r3⟩ := fr.freeze A2
    refine h.run pins _ σ _ (vs.take n ++ [.ref h2.objs.size]) _ Q I3 ((Vals.take' rv n).append (.cons (show L2.RelV (V.ref h2.objs.size) (.ref h2.objs.size) from rfl) .nil)) ⟨s3, l.take n ++ [.lst (l.drop n)], A3, reps_append (reps_take n (reps_le le3 rs)) ⟨_, [], rfl, r3, rfl⟩, ?_⟩
    rw [er, es3]
    revert q
    cases f (l.take n ++ [.lst (l.drop n)]) s.ρ s.S with
    | ok u ρ S => exact fun q s' σ' H' l' => q s' σ' H' (le3.trans l')
    | exc c ρ S => exact fun q => q
    | stk => exact fun q => q
  refine ⟨fun pins st σ H v u Q I r ⟨s, d, A, rd, q⟩ => ?_⟩
  have fin : ∀ (l : List D), (match (if decide (n ≤ l.length) then f (l.take n ++ [.lst (l.drop n)]) else mstk) s.ρ s.S with
      | .ok _ ρ S => ∀ s' σ' H', Le s s' → s'.ρ = ρ → s'.S = S → At X.gp T s' σ' H' → σ'.length = σ.length → (∀ i, i ∉ ix → σ'[i]? = σ[i]?) → Q σ' H'
      | _ => False) → n ≤ l.length ∧ (match f (l.take n ++ [.lst (l.drop n)]) s.ρ s.S with
      | .ok _ ρ S => ∀ s' σ' H', Le s s' → s'.ρ = ρ → s'.S = S → At X.gp T s' σ' H' → σ'.length = σ.length → (∀ i, i ∉ ix → σ'[i]? = σ[i]?) → Q σ' H'
      | _ => False) := fun l q => by
    by_cases hn : n ≤ l.length
    · rw [decide_eq_true hn, if_pos rfl] at q
      exact ⟨hn, q⟩
    · rw [decide_eq_false hn] at q
      exact q.elim
  cases d with
  | lst l =>
    obtain ⟨hn, q⟩ := fin l q
    obtain ⟨a, vs, ev, e1, rs⟩ := rd
    subst ev
    cases r
    obtain ⟨its, rv, pl, hz⟩ := I.list (SqL.of (A.gh _ _ e1) : SqL X.K H a vs)
    have ln := reps_len rs
    have ln2 := rv.length
    rw [PyProof.Rows.assign_Tuple]
    refine wpAny_bind (wpAny_standAt ?_)
    unfold unpack
    rw [hl, hst]
    refine wpAny_bind (wpAny_holding (unp_list pl.isList (I.ok.hd hc) (by rw [List.size_toArray]; omega) (by rw [List.size_toArray]; omega) fun h2 tk kp => ?_))
    exact key pins st σ H s l vs its Q h2 tk I A rs rv (by omega) q kp
  | tup l =>
    obtain ⟨hn, q⟩ := fin l q
    obtain ⟨a, vs, ev, e1, rs⟩ := rd
    subst ev
    cases r
    obtain ⟨its, rv, pl, hz⟩ := I.tuple (SqT.mono A.gh e1)
    have ln := reps_len rs
    have ln2 := rv.length
    rw [PyProof.Rows.assign_Tuple]
    refine wpAny_bind (wpAny_standAt ?_)
    unfold unpack
    rw [hl, hst]
    refine wpAny_bind (wpAny_holding (unp_tup pl (I.ok.hd hc) (by rw [List.size_toArray]; omega) (by rw [List.size_toArray]; omega) fun h2 tk kp => ?_))
    exact key pins st σ H s l vs its Q h2 tk I A rs rv (by omega) q kp
  | _ => exact q.elim
end
end MP

namespace MP
open PySem PySem.Spec L2
/-- what is told of the top -/
structure Gz where
  gcs : List (Str × D)
  fns : List Str
  blt : List Str
/-- .. and of a body's names -/
structure Cz where
  N : List Str
  sc : Scope
  fnb : Str → Bool
  P : Gz
def nodbg (x : Str) : Bool := !(x == ("__debug__" : Str)) && !(x == ("__classdict__" : Str))
def visB (c : Cz) (x : Str) : Bool := (match c.sc.names.lookup x with
  | some .local => true
  | some .cell => true
  | some .free => true
  | _ => false) && nodbg x
def stoB (c : Cz) (x : Str) : Bool := match c.sc.names.lookup x with
  | some .local => true
  | some .cell => c.fnb x
  | _ => false
def glB (c : Cz) (x : Str) : Bool := decide (c.sc.names.lookup x = some .globalImplicit) && nodbg x
def bltB (c : Cz) (x : Str) : Bool := glB c x && c.P.blt.contains x
def fnB (c : Cz) (x : Str) : Bool := glB c x && c.P.fns.contains x
def slotB (c : Cz) (i : Nat) (x : Str) : Bool := decide (c.N[i]? = some x)
def litEq : D → D → Bool
  | .non, .non => true
  | .bl a, .bl b => a == b
  | .int a, .int b => a == b
  | .str a, .str b => a == b
  | _, _ => false
theorem litEq_eq {a b : D} (h : litEq a b = true) : a = b := by
  cases a <;> cases b <;> first
    | rfl
    | (unfold litEq at h; simp only [beq_iff_eq] at h; rw [h])
    | (unfold litEq at h; cases h)
def cstB : Const → D → Bool
  | .none, .non => true
  | .bool a, .bl b => a == b
  | .int a, .int b => a == b
  | .str a, .str b => a == b
  | _, _ => false
def noStar : Expr → Bool
  | .Starred _ _ => false
  | _ => true
theorem noStar_ne {e : Expr} (h : noStar e = true) : ∀ x p, e ≠ .Starred x p := fun x p q => by subst q; cases h
def noCall : Expr → Bool
  | .Call _ _ _ _ => false
  | _ => true
theorem noCall_ne {e : Expr} (h : noCall e = true) : ∀ f as ks p, e ≠ .Call f as ks p := fun f as ks p q => by subst q; cases h
def noSlice : Expr → Bool
  | .Slice _ _ _ _ => false
  | _ => true
theorem noSlice_plain {b : Expr} (h : noSlice b = true) : PlainIx b := fun o i => by cases b <;> first | rfl | cases h
def noSet : Expr → Bool
  | .Set _ _ _ => false
  | _ => true
theorem noSet_folded {e : Expr} (h : noSet e = true) (env : Env) : ∀ x, foldedSetIterable e env x = pure x := fun x => by cases e <;> first | rfl | cases h
def noComp : Expr → Bool
  | .ListComp _ _ _ _ | .SetComp _ _ _ _ | .DictComp _ _ _ _ _ => false
  | _ => true
theorem noComp_swap {e : Expr} (h : noComp e = true) (t : Option Expr) (l : Nat) (env : Env) : swapsWith e t l env = pure false := by cases e <;> first | rfl | cases h
def noTup : Expr → Bool
  | .Tuple _ _ _ | .List _ _ => false
  | _ => true
theorem noTup_swap {t e : Expr} (h : noTup t = true ∨ noTup e = true) (env : Env) : swappedStores [t] e env = pure none := by
  rcases h with h | h
  · cases t <;> first | rfl | cases h
  · cases e <;> first
      | (cases t <;> rfl)
      | cases h
def plainT : Expr → Bool
  | .UnaryOp .Not _ _ | .BoolOp _ _ _ | .IfExp _ _ _ _ | .Compare _ _ _ _ => false
  | _ => true
theorem plainT_true {e : Expr} (h : plainT e = true) (env : Env) : ∀ whole, isTrue e env whole = (do let v ← whole; standAt e.pos; holding [v] (truthy v)) := fun whole => by
  cases e <;> first
    | rfl
    | cases h
    | (rename_i op _ _; cases op <;> first | rfl | cases h)
theorem assignEach_plain {env : Env} : ∀ {es : List Expr}, es.all noStar = true → (assignEach es env).length = es.length ∧ (assignEach es env).findIdx? (·.1) = none
  | [], _ => ⟨rfl, rfl⟩
  | e :: es, h => by
    simp only [List.all_cons, Bool.and_eq_true] at h
    obtain ⟨h1, h2⟩ := assignEach_plain (env := env) h.2
    have e1 : assignEach (e :: es) env = (false, assign e env) :: assignEach es env := by
      cases e <;> first | rfl | (exact absurd h.1 (by simp [noStar]))
    rw [e1]
    refine ⟨congrArg Nat.succ h1, ?_⟩
    rw [List.findIdx?_cons]
    simp [h2]
theorem assignEach_cons {env : Env} {e : Expr} {es : List Expr} (h : noStar e = true) : (assignEach (e :: es) env).map (·.2) = assign e env :: (assignEach es env).map (·.2) := by
  cases e <;> first | rfl | (exact absurd h (by simp [noStar]))
/-- the scope of a block, as it runs -/
def blkCz (c : Cz) (scope : Scope) : Cz := ⟨c.N, relS scope c.sc, fun x => scope.names.lookup x == some .cell, c.P⟩
def ownP (c : Cz) (own : List Nat) : List (Str × Nat) := own.map fun i => (c.N.getD i Str.empty, i)
theorem ownP_ix (c : Cz) (own : List Nat) : (ownP c own).map (·.2) = own := by
  unfold ownP
  rw [List.map_map]
  exact List.map_id _
def tgsLen : Tgs → Nat
  | .nil => 0
  | .cons _ ts => tgsLen ts + 1
mutual
def chkG (c : Cz) : Tg → Expr → Bool
  | .v i, .Name x _ => slotB c i x && stoB c x
  | .tup ts, .Tuple es _ _ => chkGs c ts es && es.all noStar
  | .tupS n ts, .Tuple es _ _ => chkGS c ts es && decide (es.length = n + 1)
  | _, _ => false
def chkGs (c : Cz) : Tgs → List Expr → Bool
  | .nil, [] => true
  | .cons t ts, e :: es => chkG c t e && chkGs c ts es
  | _, _ => false
def chkGS (c : Cz) : Tgs → List Expr → Bool
  | .cons t .nil, [.Starred e _] => chkG c t e
  | .cons t ts, e :: es => chkG c t e && noStar e && chkGS c ts es
  | _, _ => false
end
def subIx (a b : List Nat) : Bool := a.all fun i => b.contains i
theorem subIx_sub {a b : List Nat} (h : subIx a b = true) : ∀ i ∈ a, i ∈ b := fun i hi => by
  have := List.all_eq_true.mp h i hi
  simpa using this
def tyNames : List Ty → List Expr → Bool
  | [], [] => true
  | t :: ts, .Name x _ :: es => decide ((tyName t).map (fun u => (u : Str)) = some x) && tyNames ts es
  | _, _ => false
def isNil : E → Bool
  | .nil => true
  | _ => false
mutual
def chkE (c : Cz) : E → Expr → Bool
  | .cst d, .Constant k _ _ => cstB k d
  | .gc x d, .Name y _ => decide (x = y) && glB c y && c.P.gcs.any fun q => decide (q.1 = y) && litEq q.2 d
  | .fnv x, .Name y _ => decide (x = y) && fnB c y
  | .var i, .Name y _ => slotB c i y && visB c y
  | .bin o a b, .BinOp l o' r _ => decide (o = o') && chkE c a l && chkE c b r
  | .binL o a b, .BinOp l o' r _ => decide (o = o') && chkE c a l && chkE c b r
  | .cmp o a b, .Compare l [o'] [r] _ => decide (o = o') && chkE c a l && chkE c b r && !behindInMarks o' r
  | .cmp2 o1 o2 a b d, .Compare l [p1, p2] [r, q] _ => decide (o1 = p1) && decide (o2 = p2) && chkE c a l && chkE c b r && chkE c d q && !lastMarks [p1, p2] [r, q]
  | .bop o es, .BoolOp o' xs _ => decide (o = o') && chkB c es xs
  | .not_ a, .UnaryOp .Not x _ => chkE c a x
  | .neg a, .UnaryOp .USub x _ => chkE c a x
  | .ite t a b, .IfExp tx x y _ => chkT c t tx && chkE c a x && chkE c b y
  | .tup es, .Tuple xs _ _ => chkEs c es xs
  | .lst es, .List xs _ => chkEs c es xs
  | .new es, .List xs _ => chkEs c es xs
  | .idx a b, .Subscript x y _ => chkE c a x && chkE c b y && noSlice y
  | .sl a lo hi, .Subscript x (.Slice l h none _) _ => chkE c a x && (match l with
      | none => isNil lo
      | some z => !isNil lo && chkE c lo z) && (match h with
      | none => isNil hi
      | some z => !isNil hi && chkE c hi z)
  | .slL a lo hi, .Subscript x (.Slice l h none _) _ => chkE c a x && (match l with
      | none => isNil lo
      | some z => !isNil lo && chkE c lo z) && (match h with
      | none => isNil hi
      | some z => !isNil hi && chkE c hi z)
  | .call x es ks kes, .Call (.Name y _) xs kws _ => decide (x = y) && fnB c y && chkEs c es xs && (match xs with
      | [] => ks.isEmpty && kws.isEmpty
      | _ => true) && decide (kws.map (·.arg) = ks.map some) && chkKs c kes kws
  | .callv i es, .Call (.Name y _) xs [] _ => slotB c i y && visB c y && chkEs c es xs && !xs.isEmpty
  | .bl b es, .Call (.Name y _) xs [] _ => decide ((blName b).1 = y) && bltB c y && chkEs c es xs && !xs.isEmpty
  | .fl .list es, .Call (.Name y _) xs [] _ => decide (("list" : Str) = y) && bltB c y && chkEs c es xs && !xs.isEmpty
  | .isi a ts, .Call (.Name y _) [x, .Name z _] [] _ => decide (("isinstance" : Str) = y) && bltB c y && bltB c z && chkE c a x && noStar x && (match ts with
      | [t] => decide ((tyName t).map (fun u => (u : Str)) = some z)
      | _ => false)
  | .isi a ts, .Call (.Name y _) [x, .Tuple zs _ _] [] _ => decide (("isinstance" : Str) = y) && bltB c y && chkE c a x && noStar x && !ts.isEmpty && decide (ts.length ≤ 100) && tyNames ts zs && (zs.all fun z => match z with
      | .Name u _ => bltB c u
      | _ => false)
  | .mt m o es, .Call (.Attribute ox y ap) xs [] p => decide ((mtName m).1 = y) && chkE c o ox && noCall ox && chkEs c es xs && !xs.isEmpty && decide (xs.length < 20) && (ap.endLine == p.line)
  | .mtF m o es, .Call (.Attribute ox y ap) xs [] p => decide ((mtFName m).1 = y) && chkE c o ox && noCall ox && chkEs c es xs && !xs.isEmpty && decide (xs.length < 20) && (ap.endLine == p.line)
  | .lc cl, .ListComp elt gs scope _ => chkCl c cl elt gs scope
  | .fs es, .JoinedStr xs _ => chkEs c es xs && decide (2 ≤ xs.length)
  | .fmt e, .FormattedValue x k none _ => decide (k = -1) && chkE c e x
  | .nev, _ => true
  | _, _ => false
def chkB (c : Cz) : Es → List Expr → Bool
  | .cons e .nil, [x] => chkE c e x
  | .cons e es, x :: xs => chkE c e x && chkB c es xs
  | _, _ => false
def chkEs (c : Cz) : Es → List Expr → Bool
  | .nil, [] => true
  | .cons e es, x :: xs => chkE c e x && noStar x && chkEs c es xs
  | _, _ => false
def chkKs (c : Cz) : Es → List Keyword → Bool
  | .nil, [] => true
  | .cons e es, ⟨_, x, _⟩ :: xs => chkE c e x && chkKs c es xs
  | _, _ => false
def chkT (c : Cz) : T → Expr → Bool
  | .v e, x => plainT x && chkE c e x
  | .cmp o a b, .Compare l [o'] [r] _ => decide (o = o') && chkE c a l && chkE c b r && !behindInMarks o' r
  | .cmp2 o1 o2 a b d, .Compare l [p1, p2] [r, q] _ => decide (o1 = p1) && decide (o2 = p2) && chkE c a l && chkE c b r && chkE c d q && !lastMarks [p1, p2] [r, q]
  | .not_ t, .UnaryOp .Not x _ => chkT c t x
  | .bop o ts, .BoolOp o' xs _ => decide (o = o') && chkTs c ts xs
  | _, _ => false
def chkTs (c : Cz) : Ts → List Expr → Bool
  | .cons t .nil, [x] => chkT c t x
  | .cons t ts, x :: xs => chkT c t x && chkTs c ts xs
  | _, _ => false
def chkIfs (c : Cz) : Ts → List Expr → Bool
  | .nil, [] => true
  | .cons t .nil, [x] => chkT c t x
  | _, _ => false
def chkI (c : Cz) : It → Expr → Expr → Bool
  | .val e, _, x => chkE c e x && noSet x
  | .rng1 a, _, .Call (.Name y _) [x] [] _ => decide (("range" : Str) = y) && bltB c y && chkE c a x && noStar x
  | .rng2 a b, _, .Call (.Name y _) [x, z] [] _ => decide (("range" : Str) = y) && bltB c y && chkE c a x && chkE c b z && noStar x && noStar z
  | .rng3 a b d, _, .Call (.Name y _) [x, z, u] [] _ => decide (("range" : Str) = y) && bltB c y && chkE c a x && chkE c b z && chkE c d u && noStar x && noStar z && noStar u
  | .enm a, .Tuple _ _ _, .Call (.Name y _) [x] [] _ => decide (("enumerate" : Str) = y) && bltB c y && chkE c a x && noStar x
  | .zip a b, .Tuple _ _ _, .Call (.Name y _) [x, z] [] _ => decide (("zip" : Str) = y) && bltB c y && chkE c a x && chkE c b z && noStar x && noStar z
  | _, _, _ => false
def chkCl (c : Cz) : Cl → Expr → List Comprehension → Scope → Bool
  | .gen t own it cs (.fin e), elt, [⟨tg, iter, ifs, a⟩], scope => decide (a = 0) && chkI c it tg iter && noSet iter && blkC c.N c.sc scope (ownP c own) && subIx (tgIx t) own && chkG (blkCz c scope) t tg && chkIfs (blkCz c scope) cs ifs && chkE (blkCz c scope) e elt
  | .gen t own it cs (.gen t1 own1 it1 cs1 (.fin e)), elt, [⟨tg, iter, ifs, a⟩, ⟨tg1, iter1, ifs1, a1⟩], scope => decide (a = 0) && decide (a1 = 0) && chkI c it tg iter && noSet iter && noSet iter1 && blkC c.N c.sc scope (ownP c own) && subIx (tgIx t) own && subIx own1 own && subIx (tgIx t1) own1 &&
      chkG (blkCz c scope) t tg && chkIfs (blkCz c scope) cs ifs && chkI (blkCz c scope) it1 tg1 iter1 && chkG (blkCz c scope) t1 tg1 && chkIfs (blkCz c scope) cs1 ifs1 && chkE (blkCz c scope) e elt
  | _, _, _, _ => false
end
mutual
def chkC (c : Cz) : C → Stmt → Bool
  | .skip, .Pass _ => true
  | .skip, .Expr (.Constant (.str _) _ _) _ => true
  | .ex e, .Expr x _ => chkE c e x && noComp x
  | .set t e, .Assign [tg] x _ => chkG c t tg && noStar tg && chkE c e x && noComp x && (noTup tg || noTup x)
  | .setO i e, .Assign [.Name y yp] x p => slotB c i y && stoB c y && ((noComp x && chkE c e x) || (match e, x with
      | .lc cl, .ListComp elt gs scope pos => chkCl c cl elt gs scope && decide (c.sc.names.lookup y = some .local) && (yp.line == pos.line) && !(scope.names.any fun (n, k) => n == y && (k == .local || k == .cell))
      | _, _ => false))
  | .aug i o e, .AugAssign (.Name y _) o' x _ => slotB c i y && stoB c y && decide (o = o') && chkE c e x
  | .seti o i e, .Assign [.Subscript ox ix _] x _ => chkE c o ox && chkE c i ix && noSlice ix && chkE c e x && noComp x
  | .app o e, .Expr (.Call (.Attribute ox y ap) [x] [] p2) _ => decide (("append" : Str) = y) && chkE c o ox && noCall ox && (ap.endLine == p2.line) && chkE c e x && noStar x
  | .ext o e, .Expr (.Call (.Attribute ox y ap) [x] [] p2) _ => decide (("extend" : Str) = y) && chkE c o ox && noCall ox && (ap.endLine == p2.line) && chkE c e x && noStar x
  | .ret e, .Return (some x) _ => chkE c e x
  | .retN, .Return none _ => true
  | .ite t a b, .If x xs ys _ => chkT c t x && chkCs c a xs && chkCs c b ys
  | .for_ t it b, .For tg iter body [] _ => chkG c t tg && chkI c it tg iter && noSet iter && chkCs c b body
  | .whl _ t b, .While x body [] _ => chkT c t x && chkCs c b body
  | .brk, .Break _ => true
  | .cont, .Continue _ => true
  | .nev, _ => true
  | _, _ => false
def chkCs (c : Cz) : C → List Stmt → Bool
  | .skip, [] => true
  | .seq a b, st :: rest => chkC c a st && chkCs c b rest
  | .nev, _ => true
  | _, _ => false
end
end MP

namespace MP
open PySem PySem.Spec L2
structure Gk (T : List NdefX.NTab) (X : Cx) (c : Cz) (W : WX) (cl : Calls) : Prop where
  N : X.N = c.N
  nd : c.N.Nodup
  sc : X.env.scope = c.sc
  fn : X.fn = c.fnb
  kind : c.sc.kind = .function
  calm : X.calm = true
  tk : Takes X W
  own : PassesOwn (model X.prog X.w) X.A X.env X.xe
  hu : X.A.units + 70 < cLine
  gcs : ∀ q ∈ c.P.gcs, ∃ u v, X.mg q.1 = some u ∧ RelV v u ∧ ∀ μ G, rep X.gp μ G q.2 v
  fns : ∀ x ∈ c.P.fns, ∃ f, X.mg x = some (.ref f) ∧ PySem.W.keepIn X.K (.ref f) = true
  blt : ∀ x ∈ c.P.blt, X.mg x = none
  calls : ∀ (X' : Cx) (W' : WX), X'.gp = X.gp → X'.A = X.A → Takes X' W' → CallsR T X' W' cl
section
variable {T : List NdefX.NTab} {W : WX} {X : Cx} {c : Cz} {cl : Calls} (K : Gk T X c W cl)
include K
theorem Gk.slot {i : Nat} {x : Str} (h : slotB c i x = true) : X.N[i]? = some x := by rw [K.N]; exact of_decide_eq_true h
theorem nodbg_of {x : Str} (h : nodbg x = true) : (x == ("__debug__" : Str)) = false ∧ (x == ("__classdict__" : Str)) = false := by
  unfold nodbg at h
  simp only [Bool.and_eq_true, Bool.not_eq_true'] at h
  exact h
theorem Gk.vis {x : Str} (h : visB c x = true) : Vis X.env.scope x ∧ (x == ("__debug__" : Str)) = false ∧ (x == ("__classdict__" : Str)) = false := by
  unfold visB at h
  rw [Bool.and_eq_true] at h
  refine ⟨?_, nodbg_of K h.2⟩
  rw [K.sc]
  have h1 := h.1
  split at h1
  · exact .inl (by assumption)
  · exact .inr (.inl (by assumption))
  · exact .inr (.inr (by assumption))
  · cases h1
theorem Gk.sto {x : Str} (h : stoB c x = true) : Loc X.env.scope x ∧ (X.fn x = true ∨ X.env.scope.names.lookup x = some .local) := by
  unfold stoB at h
  rw [K.sc, K.fn]
  split at h
  · exact ⟨.inl (by assumption), .inr (by assumption)⟩
  · exact ⟨.inr (by assumption), .inl h⟩
  · cases h
theorem Gk.gl {x : Str} (h : glB c x = true) : Gl X x ∧ (x == ("__debug__" : Str)) = false := by
  unfold glB at h
  rw [Bool.and_eq_true] at h
  refine ⟨?_, (nodbg_of K h.2).1⟩
  show X.env.scope.names.lookup x = _
  rw [K.sc]
  exact of_decide_eq_true h.1
theorem Gk.bltn {x : Str} (h : bltB c x = true) : Gl X x ∧ X.mg x = none := by
  unfold bltB at h
  rw [Bool.and_eq_true] at h
  exact ⟨(K.gl h.1).1, K.blt x (by simpa using h.2)⟩
theorem Gk.fun_ {x : Str} (h : fnB c x = true) : Gl X x ∧ (x == ("__debug__" : Str)) = false ∧ ∃ f, X.mg x = some (.ref f) ∧ PySem.W.keepIn X.K (.ref f) = true := by
  unfold fnB at h
  rw [Bool.and_eq_true] at h
  exact ⟨(K.gl h.1).1, (K.gl h.1).2, K.fns x (by simpa using h.2)⟩
/-- a block's context -/
theorem Gk.blk {s : Shared} {H : Hp} {scope : Scope} {C : Addr} {cls : List (Str × Addr)} {fp : List Addr} (hk : scope.kind = .function) : Gk T (X.blk s H scope (compEnvC scope cls C X.env) fp) (blkCz c scope) WF cl where
  N := K.N
  nd := K.nd
  sc := by show relS scope X.env.scope = _; rw [K.sc]; rfl
  fn := rfl
  kind := hk
  calm := K.calm
  tk := fun u s' ⟨_, _, _, _, _, _, _, _, _, _, _, _, _, _, _, _, w⟩ => w
  own := PassesOwn.never
  hu := K.hu
  gcs := K.gcs
  fns := K.fns
  blt := K.blt
  calls := fun X' W' h1 h2 h3 => K.calls X' W' h1 h2 h3
end
section
variable {T : List NdefX.NTab} {W : WX} {X : Cx} {c : Cz} {cl : Calls} {pos : Pos}
theorem f_nev {ex : Expr} : SF T W X ex mstk := ⟨fun _ _ _ _ _ _ ⟨_, _, q⟩ => q.elim⟩
theorem e_nev {ex : Expr} : SE T W X ex mstk := ⟨fun _ _ _ _ _ _ ⟨_, _, q⟩ => q.elim⟩
theorem b_nev {ex : Expr} : SB T W X ex mstk := ⟨fun _ _ _ _ _ _ ⟨_, _, q⟩ => q.elim⟩
theorem sp_var {e : E} {ex : Expr} (K : Gk T X c W cl) (h : chkE c e ex = true) (he : SE T W X ex (evE cl e)) : SP T W X ex (asP e (evE cl e)) := by
  cases e with
  | var i =>
    cases ex with
    | Name x p =>
      unfold chkE at h
      rw [Bool.and_eq_true] at h
      obtain ⟨v1, v2, v3⟩ := K.vis h.2
      exact r_peek (K.slot h.1) v1 v2 v3
    | _ => unfold chkE at h; cases h
  | _ => exact sp_of_se he
theorem cst_ok {k : Const} {d : D} {j : Nat} (h : cstB k d = true) : SE T W X (.Constant k j pos) (mret d) := by
  cases k <;> cases d <;> first
    | (unfold cstB at h; cases h; done)
    | exact r_ret pe_non fun _ _ => rfl
    | (unfold cstB at h; simp only [beq_iff_eq] at h; subst h; exact r_ret pe_bl fun _ _ => rfl)
    | (unfold cstB at h; simp only [beq_iff_eq] at h; subst h; exact r_ret pe_int fun _ _ => rfl)
    | (unfold cstB at h; simp only [beq_iff_eq] at h; subst h; exact r_ret pe_str fun _ _ => rfl)
theorem evEs_len : ∀ (es : Es) (ρ : Fr) (S : Store) (l : List D) (ρ' : Fr) (S' : Store), evEs cl es ρ S = .ok l ρ' S' → ∀ kws : List Keyword, chkKs c es kws = true → l.length = kws.length
  | .nil, ρ, S, l, ρ', S', h, kws, hk => by
    unfold evEs at h
    cases h
    cases kws with
    | nil => rfl
    | cons _ _ => unfold chkKs at hk; cases hk
  | .cons e es, ρ, S, l, ρ', S', h, kws, hk => by
    cases kws with
    | nil => unfold chkKs at hk; cases hk
    | cons k kws =>
      obtain ⟨kn, kx, kp⟩ := k
      unfold evEs at h
      obtain ⟨d, ρ1, S1, h1, h2⟩ := mbind_ok h
      obtain ⟨l2, ρ2, S2, h3, h4⟩ := mbind_ok h2
      cases h4
      unfold chkKs at hk
      rw [Bool.and_eq_true] at hk
      exact congrArg Nat.succ (evEs_len es _ _ _ _ _ h3 kws hk.2)
theorem arr_len {kws : List Keyword} {ks : List Str} (h : kws.map (·.arg) = ks.map some) : kws.length = ks.length := by
  have := congrArg List.length h
  simpa using this
theorem chkEs_stars : ∀ {es : Es} {xs : List Expr}, chkEs c es xs = true → ∀ x ∈ xs, noStar x = true
  | .nil, [], _, x, hx => by cases hx
  | .nil, _ :: _, h, x, hx => by unfold chkEs at h; cases h
  | .cons _ _, [], h, x, hx => by unfold chkEs at h; cases h
  | .cons e es, y :: xs, h, x, hx => by
    unfold chkEs at h
    simp only [Bool.and_eq_true] at h
    rcases List.mem_cons.mp hx with hx | hx
    · subst hx; exact h.1.2
    · exact chkEs_stars h.2 x hx
theorem tys_names : ∀ {ts : List Ty} {zs : List Expr}, tyNames ts zs = true → ∃ us : List String, ts.map tyName = us.map some ∧ zs.length = us.length ∧ us.length = ts.length ∧ ∀ (K : Gk T X c W cl), (zs.all fun z => match z with
      | .Name u _ => bltB c u
      | _ => false) = true → TyEs X zs us
  | [], [], _ => ⟨[], rfl, rfl, rfl, fun _ _ => .nil⟩
  | [], _ :: _, h => by unfold tyNames at h; cases h
  | _ :: _, [], h => by unfold tyNames at h; cases h
  | t :: ts, z :: zs, h => by
    cases z with
    | Name x p =>
      unfold tyNames at h
      rw [Bool.and_eq_true] at h
      obtain ⟨us, h1, h2, h3, h4⟩ := tys_names h.2
      have h0 := of_decide_eq_true h.1
      cases hu : tyName t with
      | none => rw [hu] at h0; cases h0
      | some u =>
        rw [hu] at h0
        have hx : (u : Str) = x := Option.some.inj h0
        subst hx
        refine ⟨u :: us, by rw [List.map_cons, List.map_cons, hu, h1], by simp [h2], by simp [h3], fun K hz => ?_⟩
        simp only [List.all_cons, Bool.and_eq_true] at hz
        obtain ⟨g1, g2⟩ := K.bltn hz.1
        obtain ⟨n1, n2⟩ := ty_nn hu
        exact .cons (pe_bltn g1 g2 (tyV_boot hu) rfl n1 n2) (h4 K hz.2)
    | _ => unfold tyNames at h; cases h
/-! ### targets -/
mutual
theorem snd_G : ∀ (t : Tg) (ex : Expr) {X : Cx} {c : Cz} {W : WX}, Gk T X c W cl → chkG c t ex = true → SG T X ex (tgIx t) (bindT t)
  | .v i, ex, X, c, W, K, h => by
    cases ex with
    | Name x p =>
      unfold chkG at h
      rw [Bool.and_eq_true] at h
      obtain ⟨h1, h2⟩ := K.sto h.2
      have := g_name (T := T) (pos := p) (by rw [K.N]; exact K.nd) (K.slot h.1) h1 h2
      unfold tgIx
      exact this
    | _ => unfold chkG at h; cases h
  | .tup ts, ex, X, c, W, K, h => by
    cases ex with
    | Tuple es k p =>
      unfold chkG at h
      rw [Bool.and_eq_true] at h
      obtain ⟨a1, a2⟩ := assignEach_plain (env := X.env) h.2
      obtain ⟨s1, s2⟩ := snd_Gs ts es K h.1 h.2
      have := g_tup (T := T) (pos := p) (k := k) K.calm s1 a1 a2 fun l ρ S hl => s2 l ρ S hl
      unfold tgIx
      exact this
    | _ => unfold chkG at h; cases h
  | .tupS n ts, ex, X, c, W, K, h => by
    cases ex with
    | Tuple es k p =>
      unfold chkG at h
      rw [Bool.and_eq_true] at h
      have hn := of_decide_eq_true h.2
      obtain ⟨s1, s2, s3⟩ := snd_GS ts es K h.1
      have := g_tupS (T := T) (pos := p) (k := k) (n := n) K.calm s1 (by rw [s2, hn]) (by rw [s3, hn]; rfl)
      unfold tgIx
      exact this
    | _ => unfold chkG at h; cases h
theorem snd_Gs : ∀ (ts : Tgs) (es : List Expr) {X : Cx} {c : Cz} {W : WX}, Gk T X c W cl → chkGs c ts es = true → es.all noStar = true → SGs T X es (tgIxs ts) (bindTs ts) ∧ ∀ (l : List D) (ρ : Fr) (S : Store), l.length ≠ es.length → bindTs ts l ρ S = .stk
  | .nil, [], X, c, W, K, h, hs => ⟨by
      have e : bindTs .nil = fun l => match l with | [] => mret () | _ => mstk := by funext l; cases l <;> rfl
      rw [e]
      exact gs_nil, fun l ρ S hl => by
    cases l with
    | nil => exact absurd rfl hl
    | cons _ _ => rfl⟩
  | .nil, _ :: _, X, c, W, K, h, hs => by unfold chkGs at h; cases h
  | .cons _ _, [], X, c, W, K, h, hs => by unfold chkGs at h; cases h
  | .cons t ts, e :: es, X, c, W, K, h, hs => by
    unfold chkGs at h
    rw [Bool.and_eq_true] at h
    simp only [List.all_cons, Bool.and_eq_true] at hs
    obtain ⟨s1, s2⟩ := snd_Gs ts es K h.2 hs.2
    refine ⟨?_, fun l ρ S hl => ?_⟩
    · have e : bindTs (.cons t ts) = fun l => match l with | d :: r => mbind (bindT t d) fun _ => bindTs ts r | _ => mstk := by funext l; cases l <;> rfl
      rw [e]
      exact gs_cons (snd_G t _ K h.1) s1 (assignEach_cons hs.1)
    · cases l with
      | nil => rfl
      | cons d l =>
        show mbind (bindT t d) (fun _ => bindTs ts l) ρ S = .stk
        unfold mbind
        cases e1 : bindT t d ρ S with
        | ok a ρ1 S1 => exact s2 l ρ1 S1 (fun z => hl (congrArg Nat.succ z))
        | exc c ρ1 S1 => exact absurd e1 (bindT_noexc t d ρ S c ρ1 S1)
        | stk => rfl
theorem snd_GS : ∀ (ts : Tgs) (es : List Expr) {X : Cx} {c : Cz} {W : WX}, Gk T X c W cl → chkGS c ts es = true → SGs T X es (tgIxs ts) (bindTs ts) ∧ (assignEach es X.env).length = es.length ∧ (assignEach es X.env).findIdx? (·.1) = some (es.length - 1)
  | .nil, _, X, c, W, K, h => by unfold chkGS at h; cases h
  | .cons _ .nil, [], X, c, W, K, h => by unfold chkGS at h; cases h
  | .cons _ (.cons _ _), [], X, c, W, K, h => by unfold chkGS at h; cases h
  | .cons t .nil, [e], X, c, W, K, h => by
    cases e with
    | Starred e p =>
      unfold chkGS at h
      refine ⟨?_, rfl, rfl⟩
      have e1 : bindTs (.cons t .nil) = fun l => match l with | [d] => bindT t d | _ => mstk := by
        funext l
        match l with
        | [] => rfl
        | [d] =>
          funext ρ S
          show mbind (bindT t d) (fun _ => bindTs .nil []) ρ S = bindT t d ρ S
          unfold mbind
          cases bindT t d ρ S <;> rfl
        | d :: d2 :: r =>
          funext ρ S
          show mbind (bindT t d) (fun _ => bindTs .nil (d2 :: r)) ρ S = .stk
          unfold mbind
          cases e1 : bindT t d ρ S with
          | ok a ρ1 S1 => rfl
          | exc c ρ1 S1 => exact absurd e1 (bindT_noexc t d ρ S c ρ1 S1)
          | stk => rfl
      rw [e1]
      unfold tgIxs tgIxs
      rw [List.append_nil]
      exact gs_star (snd_G t e K h) rfl
    | _ =>
      unfold chkGS at h
      simp only [chkGS, Bool.and_false, Bool.false_eq_true] at h
  | .cons t (.cons t2 ts), [e], X, c, W, K, h => by
    cases e <;> (unfold chkGS at h; simp only [chkGS, Bool.and_false, Bool.false_eq_true] at h)
  | .cons t .nil, e :: e2 :: es, X, c, W, K, h => by
    unfold chkGS at h
    simp only [chkGS, Bool.and_false, Bool.false_eq_true] at h
  | .cons t (.cons t2 ts), e :: e2 :: es, X, c, W, K, h => by
    unfold chkGS at h
    simp only [Bool.and_eq_true] at h
    obtain ⟨⟨h1, h2⟩, h3⟩ := h
    obtain ⟨s1, s2, s3⟩ := snd_GS (.cons t2 ts) (e2 :: es) K h3
    have e0 : assignEach (e :: e2 :: es) X.env = (false, assign e X.env) :: assignEach (e2 :: es) X.env := by
      cases e <;> first | rfl | (exact absurd h2 (by simp [noStar]))
    refine ⟨?_, by rw [e0]; exact congrArg Nat.succ s2, ?_⟩
    · have e1 : bindTs (.cons t (.cons t2 ts)) = fun l => match l with | d :: r => mbind (bindT t d) fun _ => bindTs (.cons t2 ts) r | _ => mstk := by funext l; cases l <;> rfl
      rw [e1]
      exact gs_cons (snd_G t _ K h1) s1 (assignEach_cons h2)
    · rw [e0, List.findIdx?_cons]
      simp [s3]
end
end
end MP

namespace MP
open PySem PySem.Spec L2
section
variable {T : List NdefX.NTab} {cl : Calls}
theorem lcFacts {X : Cx} {c : Cz} {W : WX} (K : Gk T X c W cl) {scope : Scope} {own : List Nat} (h : blkC c.N c.sc scope (ownP c own) = true) : BlkOk X.N X.env.scope scope (ownP c own) := by
  rw [K.N, K.sc]; exact blkOk_by h
/-- what a comprehension's soundness says -/
def LcOk (T : List NdefX.NTab) (W : WX) (X : Cx) (cl : Calls) (c : Cl) (elt : Expr) (gs : List Comprehension) (scope : Scope) : Prop :=
  (∀ pos, SF T W X (.ListComp elt gs scope pos) (lcM (evCl cl c))) ∧ ∀ (i : Nat) (y : Str) (py p2 pos : Pos), X.N[i]? = some y → X.env.scope.names.lookup y = some .local → (py.line == pos.line) = true → (scope.names.any fun (n, k) => n == y && (k == .local || k == .cell)) = false →
    SS T W X (.Assign [.Name y py] (.ListComp elt gs scope pos) p2) (setOM i (lcM (evCl cl c)))
theorem sts_nil {X : Cx} : STs T X [] (mret true) := ⟨fun pins st σ H Q I ⟨s, A, q⟩ => pts_nil.run pins st σ H Q I (q.ret A)⟩
theorem sts_one {X : Cx} {x : Expr} {m : M Bool} (h : SB T WF X x m) : STs T X [x] (mbind m fun b => if b then mret true else mret false) :=
  ⟨fun pins st σ H Q I ⟨s, A, q⟩ => (pts_one h).run pins st σ H Q I ⟨s, A, q.bind.mono fun b s1 H1 le J q1 => by cases b <;> exact q1.ret J⟩⟩
theorem isi_name {t : Ty} {z : Str} (h : (tyName t).map (fun u => (u : Str)) = some z) : ∃ u, tyName t = some u ∧ (u : Str) = z := by
  cases hu : tyName t with
  | none => rw [hu] at h; cases h
  | some u => rw [hu] at h; exact ⟨u, rfl, Option.some.inj h⟩
theorem nonempty_cons {α : Type} {l : List α} (h : (!l.isEmpty) = true) : ∃ a r, l = a :: r := by
  cases l with
  | nil => cases h
  | cons a r => exact ⟨a, r, rfl⟩

theorem isNil_eq {e : E} (h : isNil e = true) : e = .nil := by cases e <;> first | rfl | cases h
theorem asO_some {e : E} {m : M D} (h : isNil e = false) : asO e m = mbind m fun d => match d with
    | .int i => mret (.int i)
    | _ => mstk := by cases e <;> first | rfl | cases h
/-- parts of a slice -/
theorem snd_O {X : Cx} {c : Cz} {W : WX} {e : E} {l : Option Expr} (h : (match l with
      | none => isNil e
      | some z => !isNil e && chkE c e z) = true) (k : ∀ z, l = some z → chkE c e z = true → SE T W X z (evE cl e)) : SO T W X l (asO e (evE cl e)) := by
  cases l with
  | none =>
    have := isNil_eq h
    subst this
    exact o_nil
  | some z =>
    simp only [Bool.and_eq_true, Bool.not_eq_true'] at h
    rw [asO_some h.1]
    exact o_some (k z rfl h.2)
theorem cl_no0 {c : Cz} {e : E} {elt : Expr} {gs : List Comprehension} {scope : Scope} (h : chkCl c (.fin e) elt gs scope = true) : False := Bool.false_ne_true h
theorem cl_no1 {c : Cz} {t own it cs} {e : E} {elt : Expr} {scope : Scope} (h : chkCl c (.gen t own it cs (.fin e)) elt [] scope = true) : False := Bool.false_ne_true h
theorem cl_no2 {c : Cz} {t own it cs} {e : E} {elt : Expr} {g1 g2 gs} {scope : Scope} (h : chkCl c (.gen t own it cs (.fin e)) elt (g1 :: g2 :: gs) scope = true) : False := by obtain ⟨_, _, _, _⟩ := g1; exact Bool.false_ne_true h
theorem cl_no3 {c : Cz} {t own it cs t1 own1 it1 cs1} {e : E} {elt : Expr} {scope : Scope} (h : chkCl c (.gen t own it cs (.gen t1 own1 it1 cs1 (.fin e))) elt [] scope = true) : False := Bool.false_ne_true h
theorem cl_no4 {c : Cz} {t own it cs t1 own1 it1 cs1} {e : E} {elt : Expr} {g} {scope : Scope} (h : chkCl c (.gen t own it cs (.gen t1 own1 it1 cs1 (.fin e))) elt [g] scope = true) : False := by obtain ⟨_, _, _, _⟩ := g; exact Bool.false_ne_true h
theorem cl_no5 {c : Cz} {t own it cs t1 own1 it1 cs1} {e : E} {elt : Expr} {g1 g2 g3 gs} {scope : Scope} (h : chkCl c (.gen t own it cs (.gen t1 own1 it1 cs1 (.fin e))) elt (g1 :: g2 :: g3 :: gs) scope = true) : False := by obtain ⟨_, _, _, _⟩ := g1; obtain ⟨_, _, _, _⟩ := g2; exact Bool.false_ne_true h
theorem cl_no6 {c : Cz} {t own it cs t1 own1 it1 cs1 t2 own2 it2 cs2 r} {elt : Expr} {gs} {scope : Scope} (h : chkCl c (.gen t own it cs (.gen t1 own1 it1 cs1 (.gen t2 own2 it2 cs2 r))) elt gs scope = true) : False := Bool.false_ne_true h
mutual
theorem snd_E : ∀ (e : E) (ex : Expr) {X : Cx} {c : Cz} {W : WX}, Gk T X c W cl → chkE c e ex = true → SE T W X ex (evE cl e) ∧ SF T W X ex (evF cl e)
  | .cst d, ex, X, c, W, K, h => by
    cases ex with
    | Constant k j p => exact ⟨cst_ok h, f_nev⟩
    | _ => simp [chkE] at h
  | .gc x d, ex, X, c, W, K, h => by
    cases ex with
    | Name y p =>
      simp only [chkE, Bool.and_eq_true, List.any_eq_true, decide_eq_true_eq] at h
      obtain ⟨⟨h1, h2⟩, q, hq, h3, h4⟩ := h
      obtain ⟨u, v, e1, e2, e3⟩ := K.gcs q hq
      have e4 := litEq_eq h4
      rw [h3] at e1
      rw [e4] at e3
      obtain ⟨g1, g2⟩ := K.gl h2
      exact ⟨r_ret (pe_glob g1 e1 e2 g2) e3, f_nev⟩
    | _ => simp [chkE] at h
  | .fnv x, ex, X, c, W, K, h => by
    cases ex with
    | Name y p =>
      simp only [chkE, Bool.and_eq_true, decide_eq_true_eq] at h
      obtain ⟨h1, h2⟩ := h
      subst h1
      obtain ⟨g1, g2, f, g3, g4⟩ := K.fun_ h2
      have r : ∀ μ G, rep X.gp μ G (.fn x) (.ref f) := fun μ G => ⟨f, rfl, g3, g4⟩
      exact ⟨r_ret (pe_glob (v := .ref f) g1 g3 rfl g2) r, f_nev⟩
    | _ => simp [chkE] at h
  | .var i, ex, X, c, W, K, h => by
    cases ex with
    | Name y p =>
      simp only [chkE, Bool.and_eq_true] at h
      obtain ⟨v1, v2, v3⟩ := K.vis h.2
      exact ⟨r_var (K.slot h.1) v1 v2 v3, f_nev⟩
    | _ => simp [chkE] at h
  | .bin o a b, ex, X, c, W, K, h => by
    cases ex with
    | BinOp l o' r p =>
      simp only [chkE, Bool.and_eq_true, decide_eq_true_eq] at h
      obtain ⟨⟨h1, h2⟩, h3⟩ := h
      subst h1
      exact ⟨r_bin (sp_var K h2 (snd_E a l K h2).1) (sp_var K h3 (snd_E b r K h3).1), f_nev⟩
    | _ => simp [chkE] at h
  | .binL o a b, ex, X, c, W, K, h => by
    cases ex with
    | BinOp l o' r p =>
      simp only [chkE, Bool.and_eq_true, decide_eq_true_eq] at h
      obtain ⟨⟨h1, h2⟩, h3⟩ := h
      subst h1
      have := r_binL (pos := p) (o := o) (sp_var K h2 (snd_E a l K h2).1) (sp_var K h3 (snd_E b r K h3).1)
      exact ⟨se_of_sf this, this⟩
    | _ => simp [chkE] at h
  | .cmp o a b, ex, X, c, W, K, h => by
    cases ex with
    | Compare l os rs p =>
      match os, rs, h with
      | [o'], [r], h =>
        simp only [chkE, Bool.and_eq_true, decide_eq_true_eq, Bool.not_eq_true'] at h
        obtain ⟨⟨⟨h1, h2⟩, h3⟩, h4⟩ := h
        subst h1
        exact ⟨r_cmp K.hu (sp_var K h2 (snd_E a l K h2).1) (sp_var K h3 (snd_E b _ K h3).1) h4, f_nev⟩
      | [], _, h => simp [chkE] at h
      | _ :: _ :: _, _, h => simp [chkE] at h
      | [_], [], h => simp [chkE] at h
      | [_], _ :: _ :: _, h => simp [chkE] at h
    | _ => simp [chkE] at h
  | .cmp2 o o2 a b d, ex, X, c, W, K, h => by
    cases ex with
    | Compare l os rs p =>
      match os, rs, h with
      | [p1, p2], [r, q], h =>
        simp only [chkE, Bool.and_eq_true, decide_eq_true_eq, Bool.not_eq_true'] at h
        obtain ⟨⟨⟨⟨⟨h1, h2⟩, h3⟩, h4⟩, h5⟩, h6⟩ := h
        subst h1 h2
        exact ⟨r_cmp2 K.hu (sp_var K h3 (snd_E a l K h3).1) (sp_var K h4 (snd_E b _ K h4).1) (sp_var K h5 (snd_E d _ K h5).1) h6, f_nev⟩
      | [], _, h => simp [chkE] at h
      | [_], _, h => simp [chkE] at h
      | _ :: _ :: _ :: _, _, h => simp [chkE] at h
      | [_, _], [], h => simp [chkE] at h
      | [_, _], [_], h => simp [chkE] at h
      | [_, _], _ :: _ :: _ :: _, h => simp [chkE] at h
    | _ => simp [chkE] at h
  | .bop o es, ex, X, c, W, K, h => by
    cases ex with
    | BoolOp o' xs p =>
      simp only [chkE, Bool.and_eq_true, decide_eq_true_eq] at h
      obtain ⟨h1, h2⟩ := h
      subst h1
      exact ⟨snd_B es xs o p K h2, f_nev⟩
    | _ => simp [chkE] at h
  | .not_ a, ex, X, c, W, K, h => by
    cases ex with
    | UnaryOp o x p =>
      cases o with
      | Not =>
        simp only [chkE] at h
        exact ⟨r_not (snd_E a x K h).1, f_nev⟩
      | _ => simp [chkE] at h
    | _ => simp [chkE] at h
  | .neg a, ex, X, c, W, K, h => by
    cases ex with
    | UnaryOp o x p =>
      cases o with
      | USub =>
        simp only [chkE] at h
        exact ⟨r_neg (snd_E a x K h).1, f_nev⟩
      | _ => simp [chkE] at h
    | _ => simp [chkE] at h
  | .ite t a b, ex, X, c, W, K, h => by
    cases ex with
    | IfExp tx x y p =>
      simp only [chkE, Bool.and_eq_true] at h
      obtain ⟨⟨h1, h2⟩, h3⟩ := h
      exact ⟨r_ite (snd_T t tx K h1) (snd_E a x K h2).1 (snd_E b y K h3).1, f_nev⟩
    | _ => simp [chkE] at h
  | .tup es, ex, X, c, W, K, h => by
    cases ex with
    | Tuple xs k p =>
      simp only [chkE] at h
      exact ⟨r_tup (snd_Es es xs K h).1, f_nev⟩
    | _ => simp [chkE] at h
  | .lst es, ex, X, c, W, K, h => by
    cases ex with
    | List xs p =>
      simp only [chkE] at h
      have := r_lst (pos := p) (snd_Es es xs K h).1
      exact ⟨se_of_sf this, this⟩
    | _ => simp [chkE] at h
  | .new es, ex, X, c, W, K, h => by
    cases ex with
    | List xs p =>
      simp only [chkE] at h
      exact ⟨r_new (snd_Es es xs K h).1, f_nev⟩
    | _ => simp [chkE] at h
  | .idx a b, ex, X, c, W, K, h => by
    cases ex with
    | Subscript x y p =>
      simp only [chkE, Bool.and_eq_true] at h
      obtain ⟨⟨h1, h2⟩, h3⟩ := h
      exact ⟨r_idx (sp_var K h1 (snd_E a x K h1).1) (snd_E b y K h2).1 (noSlice_plain h3), f_nev⟩
    | _ => simp [chkE] at h
  | .sl a lo hi, ex, X, c, W, K, h => by
    cases ex with
    | Subscript x y p =>
      cases y with
      | Slice l u st p2 =>
        cases st with
        | none =>
          simp only [chkE, Bool.and_eq_true] at h
          obtain ⟨⟨h1, h2⟩, h3⟩ := h
          exact ⟨r_sl (sp_var K h1 (snd_E a x K h1).1) (snd_O h2 fun z e hz => (snd_E lo z K hz).1) (snd_O h3 fun z e hz => (snd_E hi z K hz).1), f_nev⟩
        | some _ => simp [chkE] at h
      | _ => simp [chkE] at h
    | _ => simp [chkE] at h
  | .slL a lo hi, ex, X, c, W, K, h => by
    cases ex with
    | Subscript x y p =>
      cases y with
      | Slice l u st p2 =>
        cases st with
        | none =>
          simp only [chkE, Bool.and_eq_true] at h
          obtain ⟨⟨h1, h2⟩, h3⟩ := h
          have := r_slL (pos := p) (p2 := p2) (sp_var K h1 (snd_E a x K h1).1) (snd_O h2 fun z e hz => (snd_E lo z K hz).1) (snd_O h3 fun z e hz => (snd_E hi z K hz).1)
          exact ⟨se_of_sf this, this⟩
        | some _ => simp [chkE] at h
      | _ => simp [chkE] at h
    | _ => simp [chkE] at h
  | .nil, ex, X, c, W, K, h => by cases ex <;> simp [chkE] at h
  | .nev, ex, X, c, W, K, h => ⟨e_nev, f_nev⟩
  | .call x es ks kes, ex, X, c, W, K, h => by
    cases ex with
    | Call fx xs kws p =>
      cases fx with
      | Name y p2 =>
        simp only [chkE, Bool.and_eq_true, decide_eq_true_eq] at h
        obtain ⟨⟨⟨⟨⟨h1, h2⟩, h3⟩, h4⟩, h5⟩, h6⟩ := h
        subst h1
        obtain ⟨g1, g2, f, g3, g4⟩ := K.fun_ h2
        have hC := K.calls X W rfl rfl K.tk
        cases xs with
        | nil =>
          simp only [Bool.and_eq_true, List.isEmpty_iff] at h4
          obtain ⟨k1, k2⟩ := h4
          subst k1 k2
          cases es with
          | nil =>
            cases kes with
            | nil => exact ⟨r_call0 g1 g3 g4 hC g2, f_nev⟩
            | cons _ _ => simp [chkKs] at h6
          | cons _ _ => simp [chkEs] at h3
        | cons x1 xs =>
          have hn : ∀ e ∈ x1 :: xs, ∀ x p, e ≠ .Starred x p := fun e he => noStar_ne (chkEs_stars h3 e he)
          exact ⟨r_callK g1 g3 g4 hC g2 hn (snd_Es es _ K h3).1 h5 (snd_Ks kes kws K h6) fun ρ S l ρ' S' e => (evEs_len kes ρ S l ρ' S' e kws h6).trans (arr_len h5), f_nev⟩
      | _ => simp [chkE] at h
    | _ => simp [chkE] at h
  | .callv i es, ex, X, c, W, K, h => by
    cases ex with
    | Call fx xs kws p =>
      cases fx with
      | Name y p2 =>
        cases kws with
        | nil =>
          simp only [chkE, Bool.and_eq_true] at h
          obtain ⟨⟨⟨h1, h2⟩, h3⟩, h4⟩ := h
          obtain ⟨x1, xs', e1⟩ := nonempty_cons h4
          subst e1
          obtain ⟨v1, v2, v3⟩ := K.vis h2
          have hn : ∀ e ∈ x1 :: xs', ∀ x p, e ≠ .Starred x p := fun e he => noStar_ne (chkEs_stars h3 e he)
          exact ⟨r_callv (K.slot h1) v1 v2 v3 (K.calls X W rfl rfl K.tk) hn (snd_Es es _ K h3).1, f_nev⟩
        | cons _ _ => simp [chkE] at h
      | _ => simp [chkE] at h
    | _ => simp [chkE] at h
  | .bl b es, ex, X, c, W, K, h => by
    cases ex with
    | Call fx xs kws p =>
      cases fx with
      | Name y p2 =>
        cases kws with
        | nil =>
          simp only [chkE, Bool.and_eq_true, decide_eq_true_eq] at h
          obtain ⟨⟨⟨h1, h2⟩, h3⟩, h4⟩ := h
          obtain ⟨x1, xs', e1⟩ := nonempty_cons h4
          subst e1 h1
          obtain ⟨g1, g2⟩ := K.bltn h2
          have hn : ∀ e ∈ x1 :: xs', ∀ x p, e ≠ .Starred x p := fun e he => noStar_ne (chkEs_stars h3 e he)
          exact ⟨r_bl K.calm g1 g2 hn (snd_Es es _ K h3).2.1, f_nev⟩
        | cons _ _ => simp [chkE] at h
      | _ => simp [chkE] at h
    | _ => simp [chkE] at h
  | .fl b es, ex, X, c, W, K, h => by
    cases b with
    | list =>
    cases ex with
    | Call fx xs kws p =>
      cases fx with
      | Name y p2 =>
        cases kws with
        | nil =>
          simp only [chkE, Bool.and_eq_true, decide_eq_true_eq] at h
          obtain ⟨⟨⟨h1, h2⟩, h3⟩, h4⟩ := h
          obtain ⟨x1, xs', e1⟩ := nonempty_cons h4
          subst e1 h1
          obtain ⟨g1, g2⟩ := K.bltn h2
          have hn : ∀ e ∈ x1 :: xs', ∀ x p, e ≠ .Starred x p := fun e he => noStar_ne (chkEs_stars h3 e he)
          have := r_list (pos := p) (p := p2) g1 g2 hn (snd_Es es _ K h3).2.1
          exact ⟨se_of_sf this, this⟩
        | cons _ _ => simp [chkE] at h
      | _ => simp [chkE] at h
    | _ => simp [chkE] at h
  | .isi a ts, ex, X, c, W, K, h => by
    cases ex with
    | Call fx xs kws p =>
      cases fx with
      | Name y p2 =>
        cases kws with
        | nil =>
          match xs, h with
          | [], h => simp [chkE] at h
          | [_], h => simp [chkE] at h
          | _ :: _ :: _ :: _, h => simp [chkE] at h
          | [x, z0], h =>
          cases z0 with
          | Name z p3 =>
            simp only [chkE, Bool.and_eq_true, decide_eq_true_eq] at h
            obtain ⟨⟨⟨⟨⟨h1, h2⟩, h3⟩, h4⟩, h5⟩, h6⟩ := h
            subst h1
            obtain ⟨g1, g2⟩ := K.bltn h2
            obtain ⟨g3, g4⟩ := K.bltn h3
            match ts, h6 with
            | [t], h6 =>
              obtain ⟨u, e1, e2⟩ := isi_name (of_decide_eq_true h6)
              subst e2
              exact ⟨r_isi g1 g2 e1 g3 g4 (noStar_ne h5) (sp_var K h4 (snd_E a x K h4).1), f_nev⟩
            | [], h6 => cases h6
            | _ :: _ :: _, h6 => cases h6
          | Tuple zs k p3 =>
            simp only [chkE, Bool.and_eq_true, decide_eq_true_eq] at h
            obtain ⟨⟨⟨⟨⟨⟨⟨h1, h2⟩, h3⟩, h4⟩, h5⟩, h6⟩, h7⟩, h8⟩ := h
            subst h1
            obtain ⟨g1, g2⟩ := K.bltn h2
            obtain ⟨t, ts', e1⟩ := nonempty_cons h5
            subst e1
            obtain ⟨us, u1, u2, u3, u4⟩ := tys_names h7
            exact ⟨r_isiT g1 g2 u1 (u4 K h8) (by rw [u3]; exact h6) (noStar_ne h4) (sp_var K h3 (snd_E a x K h3).1), f_nev⟩
          | _ => simp [chkE] at h
        | cons _ _ => simp [chkE] at h
      | _ => simp [chkE] at h
    | _ => simp [chkE] at h
  | .mt m o es, ex, X, c, W, K, h => by
    cases ex with
    | Call fx xs kws p =>
      cases fx with
      | Attribute ox y ap =>
        cases kws with
        | nil =>
          simp only [chkE, Bool.and_eq_true, decide_eq_true_eq] at h
          obtain ⟨⟨⟨⟨⟨⟨h1, h2⟩, h3⟩, h4⟩, h5⟩, h6⟩, h7⟩ := h
          obtain ⟨x1, xs', e1⟩ := nonempty_cons h5
          subst e1 h1
          have hn : ∀ e ∈ x1 :: xs', ∀ x p, e ≠ .Starred x p := fun e he => noStar_ne (chkEs_stars h4 e he)
          exact ⟨r_mt hn (by simp only [List.length_cons] at h6; omega) (noCall_ne h3) h7 (snd_E o ox K h2).1 (snd_Es es _ K h4).2.1, f_nev⟩
        | cons _ _ => simp [chkE] at h
      | _ => simp [chkE] at h
    | _ => simp [chkE] at h
  | .mtF m o es, ex, X, c, W, K, h => by
    cases ex with
    | Call fx xs kws p =>
      cases fx with
      | Attribute ox y ap =>
        cases kws with
        | nil =>
          simp only [chkE, Bool.and_eq_true, decide_eq_true_eq] at h
          obtain ⟨⟨⟨⟨⟨⟨h1, h2⟩, h3⟩, h4⟩, h5⟩, h6⟩, h7⟩ := h
          obtain ⟨x1, xs', e1⟩ := nonempty_cons h5
          subst e1 h1
          have hn : ∀ e ∈ x1 :: xs', ∀ x p, e ≠ .Starred x p := fun e he => noStar_ne (chkEs_stars h4 e he)
          have := r_mtF (pos := p) (m := m) (apos := ap) hn (by simp only [List.length_cons] at h6; omega) (noCall_ne h3) h7 (snd_E o ox K h2).1 (snd_Es es _ K h4).2.1
          exact ⟨se_of_sf this, this⟩
        | cons _ _ => simp [chkE] at h
      | _ => simp [chkE] at h
    | _ => simp [chkE] at h
  | .lc cm, ex, X, c, W, K, h => by
    cases ex with
    | ListComp elt gs scope p =>
      simp only [chkE] at h
      have := (snd_Cl cm elt gs scope K h).1 p
      exact ⟨se_of_sf this, this⟩
    | _ => simp [chkE] at h
  | .fs es, ex, X, c, W, K, h => by
    cases ex with
    | JoinedStr xs p =>
      simp only [chkE, Bool.and_eq_true, decide_eq_true_eq] at h
      match xs, h with
      | x1 :: x2 :: xs, h => exact ⟨r_fs (snd_Es es _ K h.1).2.2, f_nev⟩
      | [], h => exact absurd h.2 (by simp)
      | [_], h => exact absurd h.2 (by simp)
    | _ => simp [chkE] at h
  | .fmt e, ex, X, c, W, K, h => by
    cases ex with
    | FormattedValue x k f p =>
      cases f with
      | none =>
        simp only [chkE, Bool.and_eq_true, decide_eq_true_eq] at h
        obtain ⟨h1, h2⟩ := h
        subst h1
        exact ⟨r_fmt (snd_E e x K h2).1, f_nev⟩
      | some _ => simp [chkE] at h
    | _ => simp [chkE] at h
termination_by structural x => x
theorem snd_B : ∀ (es : Es) (xs : List Expr) (o : BoolOp) (pos : Pos) {X : Cx} {c : Cz} {W : WX}, Gk T X c W cl → chkB c es xs = true → SE T W X (.BoolOp o xs pos) (evB cl o es)
  | .nil, xs, o, pos, X, c, W, K, h => by simp [chkB] at h
  | .cons e .nil, [x], o, pos, X, c, W, K, h => by
    simp only [chkB] at h
    have := r_one (T := T) (W := W) (o := o) (pos := pos) (snd_E e x K h).1
    cases o <;> exact this
  | .cons e .nil, [], o, pos, X, c, W, K, h => by simp [chkB] at h
  | .cons e .nil, x :: y :: xs, o, pos, X, c, W, K, h => by simp [chkB] at h
  | .cons e (.cons e2 es), [], o, pos, X, c, W, K, h => by simp [chkB] at h
  | .cons e (.cons e2 es), [x], o, pos, X, c, W, K, h => by simp [chkB] at h
  | .cons e (.cons e2 es), x :: y :: xs, o, pos, X, c, W, K, h => by
    have h' : (chkE c e x && chkB c (.cons e2 es) (y :: xs)) = true := h
    rw [Bool.and_eq_true] at h'
    have h1 := (snd_E e x K h'.1).1
    have h2 := snd_B (.cons e2 es) (y :: xs) o pos K h'.2
    cases o with
    | And => exact r_and h1 h2
    | Or => exact r_or h1 h2
termination_by structural x => x
theorem snd_Es : ∀ (es : Es) (xs : List Expr) {X : Cx} {c : Cz} {W : WX}, Gk T X c W cl → chkEs c es xs = true → SA T W X xs (evEs cl es) ∧ SPs T W X xs (evPs cl es) ∧ SJ T W X xs (evJ cl es)
  | .nil, [], X, c, W, K, h => ⟨a_nil, ps_nil, .nil⟩
  | .nil, _ :: _, X, c, W, K, h => by simp [chkEs] at h
  | .cons _ _, [], X, c, W, K, h => by simp [chkEs] at h
  | .cons e es, x :: xs, X, c, W, K, h => by
    simp only [chkEs, Bool.and_eq_true] at h
    obtain ⟨⟨h1, h2⟩, h3⟩ := h
    obtain ⟨r1, r2, r3⟩ := snd_Es es xs K h3
    have he := (snd_E e x K h1).1
    exact ⟨a_cons he r1 (starCons (noStar_ne h2)), ps_cons' (sp_var K h1 he) r2 (starCons (noStar_ne h2)), .cons he r3⟩
termination_by structural x => x
theorem snd_Ks : ∀ (es : Es) (xs : List Keyword) {X : Cx} {c : Cz} {W : WX}, Gk T X c W cl → chkKs c es xs = true → SK T W X xs (evEs cl es)
  | .nil, [], X, c, W, K, h => k_nil
  | .nil, _ :: _, X, c, W, K, h => by simp [chkKs] at h
  | .cons _ _, [], X, c, W, K, h => by simp [chkKs] at h
  | .cons e es, ⟨n, x, p⟩ :: xs, X, c, W, K, h => by
    simp only [chkKs, Bool.and_eq_true] at h
    exact k_cons (snd_E e x K h.1).1 (snd_Ks es xs K h.2)
termination_by structural x => x
theorem snd_T : ∀ (t : MP.T) (ex : Expr) {X : Cx} {c : Cz} {W : WX}, Gk T X c W cl → chkT c t ex = true → SB T W X ex (evT cl t)
  | .v e, ex, X, c, W, K, h => by
    have h' : (plainT ex && chkE c e ex) = true := by simpa only [chkT] using h
    rw [Bool.and_eq_true] at h'
    exact t_val (sp_var K h'.2 (snd_E e ex K h'.2).1) (plainT_true h'.1 X.env)
  | .cmp o a b, ex, X, c, W, K, h => by
    cases ex with
    | Compare l os rs p =>
      match os, rs, h with
      | [o'], [r], h =>
        simp only [chkT, Bool.and_eq_true, decide_eq_true_eq, Bool.not_eq_true'] at h
        obtain ⟨⟨⟨h1, h2⟩, h3⟩, h4⟩ := h
        subst h1
        exact t_cmp K.hu (sp_var K h2 (snd_E a l K h2).1) (sp_var K h3 (snd_E b _ K h3).1) h4
      | [], _, h => simp [chkT] at h
      | _ :: _ :: _, _, h => simp [chkT] at h
      | [_], [], h => simp [chkT] at h
      | [_], _ :: _ :: _, h => simp [chkT] at h
    | _ => simp [chkT] at h
  | .cmp2 o o2 a b d, ex, X, c, W, K, h => by
    cases ex with
    | Compare l os rs p =>
      match os, rs, h with
      | [p1, p2], [r, q], h =>
        simp only [chkT, Bool.and_eq_true, decide_eq_true_eq, Bool.not_eq_true'] at h
        obtain ⟨⟨⟨⟨⟨h1, h2⟩, h3⟩, h4⟩, h5⟩, h6⟩ := h
        subst h1 h2
        exact t_cmp2 K.hu (sp_var K h3 (snd_E a l K h3).1) (sp_var K h4 (snd_E b _ K h4).1) (sp_var K h5 (snd_E d _ K h5).1) h6
      | [], _, h => simp [chkT] at h
      | [_], _, h => simp [chkT] at h
      | _ :: _ :: _ :: _, _, h => simp [chkT] at h
      | [_, _], [], h => simp [chkT] at h
      | [_, _], [_], h => simp [chkT] at h
      | [_, _], _ :: _ :: _ :: _, h => simp [chkT] at h
    | _ => simp [chkT] at h
  | .not_ t, ex, X, c, W, K, h => by
    cases ex with
    | UnaryOp o x p =>
      cases o with
      | Not =>
        simp only [chkT] at h
        exact t_not (snd_T t x K h)
      | _ => simp [chkT] at h
    | _ => simp [chkT] at h
  | .bop o ts, ex, X, c, W, K, h => by
    cases ex with
    | BoolOp o' xs p =>
      simp only [chkT, Bool.and_eq_true, decide_eq_true_eq] at h
      obtain ⟨h1, h2⟩ := h
      subst h1
      exact (snd_Ts ts xs o p K h2).pt
    | _ => simp [chkT] at h
termination_by structural x => x
theorem snd_Ts : ∀ (ts : Ts) (xs : List Expr) (o : BoolOp) (pos : Pos) {X : Cx} {c : Cz} {W : WX}, Gk T X c W cl → chkTs c ts xs = true → SW T W X (.BoolOp o xs pos) (evTs cl o ts)
  | .nil, xs, o, pos, X, c, W, K, h => by simp [chkTs] at h
  | .cons t .nil, [x], o, pos, X, c, W, K, h => by
    have h' : chkT c t x = true := by simpa only [chkTs] using h
    cases o with
    | And => exact w_and1 (snd_T t x K h')
    | Or => exact w_or1 (snd_T t x K h')
  | .cons t .nil, [], o, pos, X, c, W, K, h => by simp [chkTs] at h
  | .cons t .nil, x :: y :: xs, o, pos, X, c, W, K, h => by simp [chkTs] at h
  | .cons t (.cons t2 ts), [], o, pos, X, c, W, K, h => by simp [chkTs] at h
  | .cons t (.cons t2 ts), [x], o, pos, X, c, W, K, h => by simp [chkTs] at h
  | .cons t (.cons t2 ts), x :: y :: xs, o, pos, X, c, W, K, h => by
    have h' : (chkT c t x && chkTs c (.cons t2 ts) (y :: xs)) = true := h
    rw [Bool.and_eq_true] at h'
    have h1 := snd_T t x K h'.1
    have h2 := snd_Ts (.cons t2 ts) (y :: xs) o pos K h'.2
    cases o with
    | And => exact w_and h1 h2
    | Or => exact w_or h1 h2
termination_by structural x => x
theorem snd_Ifs : ∀ (ts : Ts) (xs : List Expr) {X : Cx} {c : Cz}, Gk T X c WF cl → chkIfs c ts xs = true → STs T X xs (evTs cl .And ts)
  | .nil, [], X, c, K, h => sts_nil
  | .nil, _ :: _, X, c, K, h => by simp [chkIfs] at h
  | .cons t .nil, [x], X, c, K, h => by
    have h' : chkT c t x = true := by simpa only [chkIfs] using h
    exact sts_one (snd_T t x K h')
  | .cons t .nil, [], X, c, K, h => by simp [chkIfs] at h
  | .cons t .nil, _ :: _ :: _, X, c, K, h => by simp [chkIfs] at h
  | .cons t (.cons t2 ts), _, X, c, K, h => by simp [chkIfs] at h
termination_by structural x => x
theorem snd_I : ∀ (it : It) (k : Bool) (tg ex : Expr) {X : Cx} {c : Cz} {W : WX}, Gk T X c W cl → chkI c it tg ex = true → SI T W X tg ex (evI cl k it)
  | .val e, k, tg, ex, X, c, W, K, h => by
    have h' : (chkE c e ex && noSet ex) = true := by simpa only [chkI] using h
    rw [Bool.and_eq_true] at h'
    have he := (snd_E e ex K h'.1).1
    cases k with
    | true => exact i_val (sp_of_se he)
    | false => exact i_val (sp_var K h'.1 he)
  | .rng1 a, k, tg, ex, X, c, W, K, h => by
    cases ex with
    | Call f xs kws p2 =>
      cases f with
      | Name y p =>
        match xs, kws, h with
        | [x], [], h =>
          simp only [chkI, Bool.and_eq_true, decide_eq_true_eq] at h
          obtain ⟨⟨⟨h1, h2⟩, h3⟩, h4⟩ := h
          subst h1
          obtain ⟨g1, g2⟩ := K.bltn h2
          exact i_rng1 g1 g2 (noStar_ne h4) (snd_E a x K h3).1
        | [], _, h => simp [chkI] at h
        | [_], _ :: _, h => simp [chkI] at h
        | _ :: _ :: _, _, h => simp [chkI] at h
      | _ => simp [chkI] at h
    | _ => simp [chkI] at h
  | .rng2 a b, k, tg, ex, X, c, W, K, h => by
    cases ex with
    | Call f xs kws p2 =>
      cases f with
      | Name y p =>
        match xs, kws, h with
        | [x, z], [], h =>
          simp only [chkI, Bool.and_eq_true, decide_eq_true_eq] at h
          obtain ⟨⟨⟨⟨⟨h1, h2⟩, h3⟩, h4⟩, h5⟩, h6⟩ := h
          subst h1
          obtain ⟨g1, g2⟩ := K.bltn h2
          exact i_rng2 g1 g2 (noStar_ne h5) (noStar_ne h6) (snd_E a x K h3).1 (snd_E b z K h4).1
        | [], _, h => simp [chkI] at h
        | [_], _, h => simp [chkI] at h
        | [_, _], _ :: _, h => simp [chkI] at h
        | _ :: _ :: _ :: _, _, h => simp [chkI] at h
      | _ => simp [chkI] at h
    | _ => simp [chkI] at h
  | .rng3 a b d, k, tg, ex, X, c, W, K, h => by
    cases ex with
    | Call f xs kws p2 =>
      cases f with
      | Name y p =>
        match xs, kws, h with
        | [x, z, u], [], h =>
          simp only [chkI, Bool.and_eq_true, decide_eq_true_eq] at h
          obtain ⟨⟨⟨⟨⟨⟨⟨h1, h2⟩, h3⟩, h4⟩, h5⟩, h6⟩, h7⟩, h8⟩ := h
          subst h1
          obtain ⟨g1, g2⟩ := K.bltn h2
          exact i_rng3 g1 g2 (noStar_ne h6) (noStar_ne h7) (noStar_ne h8) (snd_E a x K h3).1 (snd_E b z K h4).1 (snd_E d u K h5).1
        | [], _, h => simp [chkI] at h
        | [_], _, h => simp [chkI] at h
        | [_, _], _, h => simp [chkI] at h
        | [_, _, _], _ :: _, h => simp [chkI] at h
        | _ :: _ :: _ :: _ :: _, _, h => simp [chkI] at h
      | _ => simp [chkI] at h
    | _ => simp [chkI] at h
  | .enm a, k, tg, ex, X, c, W, K, h => by
    cases tg with
    | Tuple es kk tp =>
      cases ex with
      | Call f xs kws p2 =>
        cases f with
        | Name y p =>
          match xs, kws, h with
          | [x], [], h =>
            simp only [chkI, Bool.and_eq_true, decide_eq_true_eq] at h
            obtain ⟨⟨⟨h1, h2⟩, h3⟩, h4⟩ := h
            subst h1
            obtain ⟨g1, g2⟩ := K.bltn h2
            have he := (snd_E a x K h3).1
            cases k with
            | true => exact i_enm g1 g2 (noStar_ne h4) (sp_of_se he)
            | false => exact i_enm g1 g2 (noStar_ne h4) (sp_var K h3 he)
          | [], _, h => simp [chkI] at h
          | [_], _ :: _, h => simp [chkI] at h
          | _ :: _ :: _, _, h => simp [chkI] at h
        | _ => simp [chkI] at h
      | _ => simp [chkI] at h
    | _ => simp [chkI] at h
  | .zip a b, k, tg, ex, X, c, W, K, h => by
    cases tg with
    | Tuple es kk tp =>
      cases ex with
      | Call f xs kws p2 =>
        cases f with
        | Name y p =>
          match xs, kws, h with
          | [x, z], [], h =>
            simp only [chkI, Bool.and_eq_true, decide_eq_true_eq] at h
            obtain ⟨⟨⟨⟨⟨h1, h2⟩, h3⟩, h4⟩, h5⟩, h6⟩ := h
            subst h1
            obtain ⟨g1, g2⟩ := K.bltn h2
            have ha := (snd_E a x K h3).1
            have hb := (snd_E b z K h4).1
            cases k with
            | true => exact i_zip g1 g2 (noStar_ne h5) (noStar_ne h6) (sp_of_se ha) (sp_of_se hb)
            | false => exact i_zip g1 g2 (noStar_ne h5) (noStar_ne h6) (sp_var K h3 ha) (sp_var K h4 hb)
          | [], _, h => simp [chkI] at h
          | [_], _, h => simp [chkI] at h
          | [_, _], _ :: _, h => simp [chkI] at h
          | _ :: _ :: _ :: _, _, h => simp [chkI] at h
        | _ => simp [chkI] at h
      | _ => simp [chkI] at h
    | _ => simp [chkI] at h
termination_by structural x => x
theorem snd_Cl : ∀ (t : Cl) (elt : Expr) (gs : List Comprehension) (scope : Scope) {X : Cx} {c : Cz} {W : WX}, Gk T X c W cl → chkCl c t elt gs scope = true → LcOk T W X cl t elt gs scope
  | .gen t own it cs (.fin e), elt, [⟨tg, iter, ifs, a⟩], scope, X, c, W, K, h => by
    simp only [chkCl, Bool.and_eq_true, decide_eq_true_eq] at h
    obtain ⟨⟨⟨⟨⟨⟨⟨h0, h1⟩, h2⟩, h3⟩, h4⟩, h5⟩, h6⟩, h7⟩ := h
    subst h0
    have bk := lcFacts K h3
    have Kb := fun (s : Shared) (H : Hp) (C : Addr) (cls : List (Str × Addr)) (fp : List Addr) => K.blk (s := s) (H := H) (C := C) (cls := cls) (fp := fp) bk.kind
    have hix : ∀ i ∈ tgIx t, i ∈ (ownP c own).map (·.2) := by rw [ownP_ix]; exact subIx_sub h4
    have nd : X.N.Nodup := by rw [K.N]; exact K.nd
    have hi := snd_I it false tg iter K h1
    refine ⟨fun pos => ?_, fun i y py p2 pos y1 y2 y3 y4 => ?_⟩
    · have := r_lc (pos := pos) K.calm nd hi bk hix (fun s H C cls fp => snd_G t tg (Kb s H C cls fp) h5) (fun s H C cls fp => snd_Ifs cs ifs (Kb s H C cls fp) h6) (fun s H C cls fp => (snd_E e elt (Kb s H C cls fp) h7).1) (noSet_folded h2 X.env)
      rw [ownP_ix] at this
      exact this
    · have hk : X.env.scope.kind = .function := by rw [K.sc]; exact K.kind
      have := s_setLc (p2 := p2) (pos := pos) K.calm nd y1 y2 (sw_true hk y2 y3 y4) hi bk hix (fun s H C cls fp => snd_G t tg (Kb s H C cls fp) h5) (fun s H C cls fp => snd_Ifs cs ifs (Kb s H C cls fp) h6) (fun s H C cls fp => (snd_E e elt (Kb s H C cls fp) h7).1) (noSet_folded h2 X.env)
      rw [ownP_ix] at this
      exact this
  | .gen t own it cs (.gen t1 own1 it1 cs1 (.fin e)), elt, [⟨tg, iter, ifs, a⟩, ⟨tg1, iter1, ifs1, a1⟩], scope, X, c, W, K, h => by
    simp only [chkCl, Bool.and_eq_true, decide_eq_true_eq] at h
    obtain ⟨⟨⟨⟨⟨⟨⟨⟨⟨⟨⟨⟨⟨⟨h0, h01⟩, h1⟩, h2⟩, h21⟩, h3⟩, h4⟩, h41⟩, h42⟩, h5⟩, h6⟩, h7⟩, h8⟩, h9⟩, h10⟩ := h
    subst h0 h01
    have bk := lcFacts K h3
    have Kb := fun (s : Shared) (H : Hp) (C : Addr) (cls : List (Str × Addr)) (fp : List Addr) => K.blk (s := s) (H := H) (C := C) (cls := cls) (fp := fp) bk.kind
    have hix : ∀ i ∈ tgIx t, i ∈ (ownP c own).map (·.2) := by rw [ownP_ix]; exact subIx_sub h4
    have hv : ∀ i ∈ own1, i ∈ (ownP c own).map (·.2) := by rw [ownP_ix]; exact subIx_sub h41
    have hix1 := subIx_sub h42
    have nd : X.N.Nodup := by rw [K.N]; exact K.nd
    have hi := snd_I it false tg iter K h1
    refine ⟨fun pos => ?_, fun i y py p2 pos y1 y2 y3 y4 => ?_⟩
    · have := r_lc2 (pos := pos) K.calm nd hi bk hv hix hix1 (fun s H C cls fp => snd_G t tg (Kb s H C cls fp) h5) (fun s H C cls fp => snd_Ifs cs ifs (Kb s H C cls fp) h6) (fun s H C cls fp => snd_I it1 false tg1 iter1 (Kb s H C cls fp) h7) (fun s H C cls fp => snd_G t1 tg1 (Kb s H C cls fp) h8) (fun s H C cls fp => snd_Ifs cs1 ifs1 (Kb s H C cls fp) h9) (fun s H C cls fp => (snd_E e elt (Kb s H C cls fp) h10).1) (noSet_folded h2 X.env) (noSet_folded h21)
      rw [ownP_ix] at this
      exact this
    · have hk : X.env.scope.kind = .function := by rw [K.sc]; exact K.kind
      have := s_setLc2 (p2 := p2) (pos := pos) K.calm nd y1 y2 (sw_true hk y2 y3 y4) hi bk hv hix hix1 (fun s H C cls fp => snd_G t tg (Kb s H C cls fp) h5) (fun s H C cls fp => snd_Ifs cs ifs (Kb s H C cls fp) h6) (fun s H C cls fp => snd_I it1 false tg1 iter1 (Kb s H C cls fp) h7) (fun s H C cls fp => snd_G t1 tg1 (Kb s H C cls fp) h8) (fun s H C cls fp => snd_Ifs cs1 ifs1 (Kb s H C cls fp) h9) (fun s H C cls fp => (snd_E e elt (Kb s H C cls fp) h10).1) (noSet_folded h2 X.env) (noSet_folded h21)
      rw [ownP_ix] at this
      exact this
  | .fin _, elt, gs, scope, X, c, W, K, h => (cl_no0 h).elim
  | .gen _ _ _ _ (.fin _), elt, [], scope, X, c, W, K, h => (cl_no1 h).elim
  | .gen _ _ _ _ (.fin _), elt, _ :: _ :: _, scope, X, c, W, K, h => (cl_no2 h).elim
  | .gen _ _ _ _ (.gen _ _ _ _ (.fin _)), elt, [], scope, X, c, W, K, h => (cl_no3 h).elim
  | .gen _ _ _ _ (.gen _ _ _ _ (.fin _)), elt, [_], scope, X, c, W, K, h => (cl_no4 h).elim
  | .gen _ _ _ _ (.gen _ _ _ _ (.fin _)), elt, _ :: _ :: _ :: _, scope, X, c, W, K, h => (cl_no5 h).elim
  | .gen _ _ _ _ (.gen _ _ _ _ (.gen _ _ _ _ _)), elt, gs, scope, X, c, W, K, h => (cl_no6 h).elim
termination_by structural x => x
end
end
end MP

namespace MP
open PySem PySem.Spec L2
section
variable {T : List NdefX.NTab} {cl : Calls} {sub : Str → Str → Bool}
theorem sb_asg {ox ix : Expr} {p2 : Pos} {env : Env} (h : noSlice ix = true) : ∀ v, assign (.Subscript ox ix p2) env v = (do
      let ov ← holding [v] (eval ox env)
      let iv ← holding [v, ov] (eval ix env)
      standAt p2
      holding [v, ov, iv] (setItem ov iv v)
      release [v, ov, iv] []) := by intro _; cases ix <;> first | rfl | cases h
mutual
theorem snd_C : ∀ (b : C) (st : Stmt) {X : Cx} {c : Cz} {W : WX}, Gk T X c W cl → chkC c b st = true → SS T W X st (evC cl sub b)
  | .skip, st, X, c, W, K, h => by
    cases st with
    | Pass p => exact s_pass
    | Expr e p =>
      cases e with
      | Constant k j p2 =>
        cases k with
        | str x => exact s_doc
        | _ => simp [chkC] at h
      | _ => simp [chkC] at h
    | _ => simp [chkC] at h
  | .seq a b, st, X, c, W, K, h => by cases st <;> simp [chkC] at h
  | .ex e, st, X, c, W, K, h => by
    cases st with
    | Expr x p =>
      have h' : (chkE c e x && noComp x) = true := by simpa only [chkC] using h
      rw [Bool.and_eq_true] at h'
      exact s_ex (snd_E e x K h'.1).1 (noComp_swap h'.2 _ _ _)
    | _ => simp [chkC] at h
  | .set t e, st, X, c, W, K, h => by
    cases st with
    | Assign tgs x p =>
      match tgs, h with
      | [tg], h =>
        simp only [chkC, Bool.and_eq_true, Bool.or_eq_true] at h
        obtain ⟨⟨⟨⟨h1, h2⟩, h3⟩, h4⟩, h5⟩ := h
        exact s_asg (snd_G t tg K h1) (snd_E e x K h3).1 (noComp_swap h4 _ _ _) (noTup_swap h5 _) (assignEach_cons h2)
      | [], h => simp [chkC] at h
      | _ :: _ :: _, h => simp [chkC] at h
    | _ => simp [chkC] at h
  | .setO i e, st, X, c, W, K, h => by
    cases st with
    | Assign tgs x p =>
      match tgs, h with
      | [], h => exact (Bool.false_ne_true h).elim
      | t1 :: _ :: _, h => cases t1 <;> exact (Bool.false_ne_true h).elim
      | [tg], h =>
      cases tg with
      | Name y yp =>
        simp only [chkC, Bool.and_eq_true, Bool.or_eq_true] at h
        obtain ⟨⟨h1, h2⟩, h3⟩ := h
        have nd : X.N.Nodup := by rw [K.N]; exact K.nd
        obtain ⟨l1, l2⟩ := K.sto h2
        rcases h3 with ⟨h3, h4⟩ | h3
        · exact s_setO nd (K.slot h1) l1 l2 (snd_E e x K h4).2 (noComp_swap h3 _ _ _)
        · cases e with
          | lc cm =>
            cases x with
            | ListComp elt gs scope pos =>
              simp only [Bool.and_eq_true, decide_eq_true_eq, Bool.not_eq_true'] at h3
              obtain ⟨⟨⟨h3, h4⟩, h5⟩, h6⟩ := h3
              exact (snd_Cl cm elt gs scope K h3).2 i y yp p pos (K.slot h1) (by rw [K.sc]; exact h4) h5 h6
            | _ => cases h3
          | _ => cases h3
      | _ => simp [chkC] at h
    | _ => simp [chkC] at h
  | .aug i o e, st, X, c, W, K, h => by
    cases st with
    | AugAssign tg o' x p =>
      cases tg with
      | Name y yp =>
        simp only [chkC, Bool.and_eq_true, decide_eq_true_eq] at h
        obtain ⟨⟨⟨h1, h2⟩, h3⟩, h4⟩ := h
        subst h3
        have nd : X.N.Nodup := by rw [K.N]; exact K.nd
        obtain ⟨l1, l2⟩ := K.sto h2
        exact s_aug nd (K.slot h1) l1 l2 (snd_E e x K h4).1
      | _ => simp [chkC] at h
    | _ => simp [chkC] at h
  | .seti o i e, st, X, c, W, K, h => by
    cases st with
    | Assign tgs x p =>
      match tgs, h with
      | [], h => exact (Bool.false_ne_true h).elim
      | t1 :: _ :: _, h => cases t1 <;> exact (Bool.false_ne_true h).elim
      | [tg], h =>
      cases tg with
      | Subscript ox ix p2 =>
        simp only [chkC, Bool.and_eq_true] at h
        obtain ⟨⟨⟨⟨h1, h2⟩, h3⟩, h4⟩, h5⟩ := h
        exact s_seti (snd_E e x K h4).1 (sp_var K h1 (snd_E o ox K h1).1) (snd_E i ix K h2).1 (sb_asg h3) (show swapsWithSole [.Subscript ox ix p2] x p.line X.env = pure false from noComp_swap h5 (some (.Subscript ox ix p2)) p.line X.env) (noTup_swap (.inl rfl) _) rfl
      | _ => simp [chkC] at h
    | _ => simp [chkC] at h
  | .app o e, st, X, c, W, K, h => by
    cases st with
    | Expr ex p =>
      cases ex with
      | Call f xs kws p2 =>
        cases f with
        | Attribute ox y ap =>
          match xs, kws, h with
          | [x], [], h =>
            simp only [chkC, Bool.and_eq_true, decide_eq_true_eq] at h
            obtain ⟨⟨⟨⟨⟨h1, h2⟩, h3⟩, h4⟩, h5⟩, h6⟩ := h
            subst h1
            exact s_app (noStar_ne h6) (sp_var K h2 (snd_E o ox K h2).1) (noCall_ne h3) h4 (snd_E e x K h5).1 rfl
          | [], _, h => simp [chkC] at h
          | [_], _ :: _, h => simp [chkC] at h
          | _ :: _ :: _, _, h => simp [chkC] at h
        | _ => simp [chkC] at h
      | _ => simp [chkC] at h
    | _ => simp [chkC] at h
  | .ext o e, st, X, c, W, K, h => by
    cases st with
    | Expr ex p =>
      cases ex with
      | Call f xs kws p2 =>
        cases f with
        | Attribute ox y ap =>
          match xs, kws, h with
          | [x], [], h =>
            simp only [chkC, Bool.and_eq_true, decide_eq_true_eq] at h
            obtain ⟨⟨⟨⟨⟨h1, h2⟩, h3⟩, h4⟩, h5⟩, h6⟩ := h
            subst h1
            exact s_ext (noStar_ne h6) (sp_var K h2 (snd_E o ox K h2).1) (noCall_ne h3) h4 (snd_E e x K h5).1 rfl
          | [], _, h => simp [chkC] at h
          | [_], _ :: _, h => simp [chkC] at h
          | _ :: _ :: _, _, h => simp [chkC] at h
        | _ => simp [chkC] at h
      | _ => simp [chkC] at h
    | _ => simp [chkC] at h
  | .ret e, st, X, c, W, K, h => by
    cases st with
    | Return x p =>
      cases x with
      | some x =>
        have h' : chkE c e x = true := by simpa only [chkC] using h
        exact s_ret (snd_E e x K h').1
      | none => simp [chkC] at h
    | _ => simp [chkC] at h
  | .retN, st, X, c, W, K, h => by
    cases st with
    | Return x p =>
      cases x with
      | some x => simp [chkC] at h
      | none => exact s_retN
    | _ => simp [chkC] at h
  | .ite t a b, st, X, c, W, K, h => by
    cases st with
    | If x xs ys p =>
      simp only [chkC, Bool.and_eq_true] at h
      obtain ⟨⟨h1, h2⟩, h3⟩ := h
      exact s_if (snd_T t x K h1) (snd_Cs a xs K h2) (snd_Cs b ys K h3)
    | _ => simp [chkC] at h
  | .for_ t it b, st, X, c, W, K, h => by
    cases st with
    | For tg iter body els p =>
      cases els with
      | nil =>
        simp only [chkC, Bool.and_eq_true] at h
        obtain ⟨⟨⟨h1, h2⟩, h3⟩, h4⟩ := h
        exact s_for K.own K.calm (snd_I it true tg iter K h2) (snd_G t tg K h1) (snd_Cs b body K h4) (noSet_folded h3 _)
      | cons _ _ => simp [chkC] at h
    | _ => simp [chkC] at h
  | .whl n t b, st, X, c, W, K, h => by
    cases st with
    | While x body els p =>
      cases els with
      | nil =>
        simp only [chkC, Bool.and_eq_true] at h
        exact s_whl K.own (snd_T t x K h.1) (snd_Cs b body K h.2)
      | cons _ _ => simp [chkC] at h
    | _ => simp [chkC] at h
  | .brk, st, X, c, W, K, h => by
    cases st with
    | Break p => exact s_brk
    | _ => simp [chkC] at h
  | .cont, st, X, c, W, K, h => by
    cases st with
    | Continue p => exact s_cont
    | _ => simp [chkC] at h
  | .raise x, st, X, c, W, K, h => by cases st <;> simp [chkC] at h
  | .tryc b x hh, st, X, c, W, K, h => by cases st <;> simp [chkC] at h
  | .nev, st, X, c, W, K, h => s_nev
termination_by structural x => x
theorem snd_Cs : ∀ (b : C) (sts : List Stmt) {X : Cx} {c : Cz} {W : WX}, Gk T X c W cl → chkCs c b sts = true → SSs T W X sts (evC cl sub b)
  | .skip, sts, X, c, W, K, h => by
    cases sts with
    | nil => exact s_nil
    | cons _ _ => simp [chkCs] at h
  | .seq a b, sts, X, c, W, K, h => by
    cases sts with
    | nil => simp [chkCs] at h
    | cons st rest =>
      have h' : (chkC c a st && chkCs c b rest) = true := h
      rw [Bool.and_eq_true] at h'
      exact s_cons (snd_C a st K h'.1) (snd_Cs b rest K h'.2)
  | .nev, sts, X, c, W, K, h => ss_nev
  | .ex _, sts, X, c, W, K, h => by cases sts <;> simp [chkCs] at h
  | .set _ _, sts, X, c, W, K, h => by cases sts <;> simp [chkCs] at h
  | .setO _ _, sts, X, c, W, K, h => by cases sts <;> simp [chkCs] at h
  | .aug _ _ _, sts, X, c, W, K, h => by cases sts <;> simp [chkCs] at h
  | .seti _ _ _, sts, X, c, W, K, h => by cases sts <;> simp [chkCs] at h
  | .app _ _, sts, X, c, W, K, h => by cases sts <;> simp [chkCs] at h
  | .ext _ _, sts, X, c, W, K, h => by cases sts <;> simp [chkCs] at h
  | .ret _, sts, X, c, W, K, h => by cases sts <;> simp [chkCs] at h
  | .retN, sts, X, c, W, K, h => by cases sts <;> simp [chkCs] at h
  | .ite _ _ _, sts, X, c, W, K, h => by cases sts <;> simp [chkCs] at h
  | .for_ _ _ _, sts, X, c, W, K, h => by cases sts <;> simp [chkCs] at h
  | .whl _ _ _, sts, X, c, W, K, h => by cases sts <;> simp [chkCs] at h
  | .brk, sts, X, c, W, K, h => by cases sts <;> simp [chkCs] at h
  | .cont, sts, X, c, W, K, h => by cases sts <;> simp [chkCs] at h
  | .raise _, sts, X, c, W, K, h => by cases sts <;> simp [chkCs] at h
  | .tryc _ _ _, sts, X, c, W, K, h => by cases sts <;> simp [chkCs] at h
termination_by structural x => x
end
end
end MP

namespace MP
open PySem PySem.Spec L2
/-- a def of the text, as it stands -/
structure DefI (K : PySem.W.Frag) (mg : Str → Option Value) (Z : Gz) (fn : Fn) (f : Addr) (fd : FuncData) : Prop where
  body : ∃ qual params body scope dvs kws, FunD K fn.name qual params body scope dvs kws f fd ∧ FnScope fn.N fn.ps scope ∧ chkCs ⟨fn.N, scope, fun _ => true, Z⟩ fn.body body = true
  glo : mg fn.name = some (.ref f)
  bind : ∀ (g : Gp) (μ : List Addr) (G : Hp) (st : Shared) (us ws : List Value) (ks : List Str) (vs zs : List V) (args ds kds : List D), g.K = K → K.In st.heap → Vals vs us → Vals zs ws → kds.length = ks.length → arrange fn ds ks kds = some args → reps g μ G ds vs → reps g μ G kds zs →
    ∃ us' vs', BindsTo st fd ⟨us, ks.zip ws⟩ (fn.ps.zip us') ∧ Vals vs' us' ∧ reps g μ G args vs' ∧ args.length = fn.ps.length
structure TopI (K : PySem.W.Frag) (mg : Str → Option Value) (Z : Gz) : Prop where
  gcs : ∀ q ∈ Z.gcs, ∃ u v, mg q.1 = some u ∧ RelV v u ∧ ∀ (g : Gp) μ G, rep g μ G q.2 v
  fns : ∀ x ∈ Z.fns, ∃ f, mg x = some (.ref f) ∧ PySem.W.keepIn K (.ref f) = true
  blt : ∀ x ∈ Z.blt, mg x = none
/-- a def's promise -/
def spD (T : List NdefX.NTab) (g : Gp) (cl : Calls) (sub : Str → Str → Bool) (fn : Fn) : Sp := fun vs H Q E => ∃ s σ args, At g T s σ H ∧ reps g s.μ s.G args vs ∧ args.length = fn.ps.length ∧ (match runFn cl sub fn args s.S with
  | .ok d S' => ∀ s' H', Le s s' → s'.ρ = s.ρ → s'.S = S' → At g T s' σ H' → ∀ v, rep g s'.μ s'.G d v → Q v H'
  | .exc c S' => ∀ s' H', Le s s' → s'.ρ = s.ρ → s'.S = S' → At g T s' σ H' → E (gcls g c) none H'
  | .stk => False)
theorem reps_get2 {g : Gp} {μ : List Addr} {G : Hp} : ∀ {l : List D} {vs : List V} {i : Nat} {v : V}, reps g μ G l vs → vs[i]? = some v → ∃ d, l[i]? = some d ∧ rep g μ G d v
  | [], vs, i, v, h, e => by
    have : vs = [] := h
    subst this
    simp at e
  | d :: l, vs, i, v, ⟨w, r, e, h1, h2⟩, q => by
    subst e
    cases i with
    | zero => simp at q; subst q; exact ⟨d, rfl, h1⟩
    | succ i => obtain ⟨d', a, b⟩ := reps_get2 h2 (by simpa using q); exact ⟨d', by simpa using a, b⟩
theorem frame0_len {fn : Fn} {args : List D} {vs : List V} (h : args.length = vs.length) : (frame0 fn args).length = (L2.start fn.N vs).length := by
  unfold frame0 L2.start
  simp only [List.length_append, List.length_map, List.length_replicate, h]
/-- a def's frame, at its entry -/
theorem At.start {g : Gp} {T : List NdefX.NTab} {s : Sg} {σ : L2.St} {H : Hp} {fn : Fn} {args : List D} {vs : List V} (I : At g T s σ H) (r : reps g s.μ s.G args vs) : At g T ⟨⟨H, s.G, s.μ, fun _ => none⟩, s.G, s.μ, frame0 fn args, s.S⟩ (L2.start fn.N vs) H := by
  have ln := reps_len r
  refine Sim.enter I (frame0_len ln) fun i sl e => ?_
  have e : (frame0 fn args)[i]? = some sl := e
  unfold frame0 at e
  by_cases hi : i < args.length
  · rw [List.getElem?_append_left (by simpa using hi), List.getElem?_map] at e
    obtain ⟨d, e1, e2⟩ := Option.map_eq_some_iff.mp e
    subst e2
    obtain ⟨v, e3, e4⟩ := reps_get r e1
    refine .inr ⟨d, v, rfl, ?_, e4⟩
    unfold L2.start
    rw [List.getElem?_append_left (by rw [List.length_map, ← ln]; exact hi), List.getElem?_map, e3]
    rfl
  · rw [List.getElem?_append_right (by simpa using hi), List.getElem?_replicate] at e
    split at e
    · cases e; exact .inl rfl
    · cases e
section
variable {P : Program} {w : World} {K : PySem.W.Frag} {mg : Str → Option Value} {base : Heap} {T : List NdefX.NTab} {Pg : Pgm} {Z : Gz}
/-- a body -/
theorem fn_ok {fn : Fn} {f : Addr} {fd : FuncData} {n : Nat} (hT : TopI K mg Z) (D : DefI K mg Z fn f fd)
    (hC : ∀ (X : Cx) (W : WX), X.gp = ⟨P, w, K, mg, base⟩ → Room n X.A → Takes X W → CallsR T X W (callF Pg n)) : FnOk P w K mg base (CX P w) (n + 1) f fd fn.ps (spD T ⟨P, w, K, mg, base⟩ (callF Pg n) Pg.sub fn) := by
  obtain ⟨qual, params, body, scope, dvs, kws, F, S, hc⟩ := D.body
  refine F.ok S (fun vs H Q E h => ?_) fun cdv A outer s H vs Q E hr h => ?_
  · obtain ⟨s, σ, args, I, r, hl, _⟩ := h
    rw [← reps_len r]; exact hl
  · obtain ⟨sg, σ, args, I, r, hl, q⟩ := h
    refine ⟨tSt T (fun cls d _ H' => E cls d H') ⟨P, w, K, mg, base⟩ (evC (callF Pg n) Pg.sub fn.body), ?_, ?_⟩
    · refine snd_Cs (cl := callF Pg n) fn.body body (c := ⟨fn.N, scope, fun _ => true, Z⟩) ?_ hc
      have hr' : Room n (cxOf (CX P w) P w K mg base fn.N qual scope f cdv A outer s H E).A := hr
      exact { N := rfl, nd := S.nd, sc := rfl, fn := rfl, kind := S.kind, calm := rfl, tk := takes_of rfl rfl rfl rfl, own := passes_of rfl, hu := by have := hr'.un; omega, gcs := fun q hq => (by
          obtain ⟨u, v, e1, e2, e3⟩ := hT.gcs q hq
          exact ⟨u, v, e1, e2, fun μ G => e3 _ μ G⟩), fns := hT.fns, blt := hT.blt, calls := fun X' W' h1 h2 h3 => hC X' W' h1 (by rw [h2]; exact hr') h3 }
    · refine tSt_iff.mpr ⟨_, I.start r, ?_⟩
      unfold runFn at q
      unfold AftS
      dsimp only
      have back : ∀ (s' : Sg) (σ' : L2.St) (H' : Hp), Le ⟨⟨H, sg.G, sg.μ, fun _ => none⟩, sg.G, sg.μ, frame0 fn args, sg.S⟩ s' → At ⟨P, w, K, mg, base⟩ T s' σ' H' → Le sg { s' with B := sg.B, ρ := sg.ρ } ∧ At ⟨P, w, K, mg, base⟩ T { s' with B := sg.B, ρ := sg.ρ } σ H' := fun s' σ' H' le J => by
        have eB := le.B
        obtain ⟨B', G', μ', ρ', S'⟩ := s'
        have eB : B' = ⟨H, sg.G, sg.μ, fun _ => none⟩ := eB
        subst eB
        obtain ⟨J2, h1, h2⟩ := Sim.mono_base I J
        exact ⟨⟨rfl, h1, h2⟩, J2⟩
      cases e : evC (callF Pg n) Pg.sub fn.body (frame0 fn args) sg.S with
      | stk => rw [e] at q; exact q
      | exc c ρ S' =>
        rw [e] at q
        intro s' σ' H' le e1 e2 J
        obtain ⟨l2, J2⟩ := back s' σ' H' le J
        exact q _ H' l2 rfl e2 J2
      | ok fl ρ S' =>
        rw [e] at q
        intro s' σ' H' le e1 e2 J
        obtain ⟨l2, J2⟩ := back s' σ' H' le J
        cases fl with
        | nx => exact q _ H' l2 rfl e2 J2 .non rfl
        | rt d => exact fun v hv => q _ H' l2 rfl e2 J2 v hv
        | bk => exact q.elim
        | ct => exact q.elim
theorem calls_ok (hT : TopI K mg Z) (hd : ∀ fn ∈ Pg.fns, ∃ f fd, DefI K mg Z fn f fd) : ∀ (n : Nat) (X : Cx) (W : WX), X.gp = ⟨P, w, K, mg, base⟩ → Room n X.A → Takes X W → CallsR T X W (callF Pg n)
  | 0, X, W, hg, hr, tk => fun x f pins st σ H ds kds ks us ws vs zs s Q hm I rv rz hl A r1 r2 q => q.elim
  | n + 1, X, W, hg, hr, tk => fun x f pins st σ H ds kds ks us ws vs zs s Q hm I rv rz hl A r1 r2 q => by
    have ih := calls_ok hT hd n
    obtain rfl : P = X.prog := (congrArg Gp.P hg).symm
    obtain rfl : w = X.w := (congrArg Gp.w hg).symm
    obtain rfl : K = X.K := (congrArg Gp.K hg).symm
    obtain rfl : mg = X.mg := (congrArg Gp.mg hg).symm
    obtain rfl : base = X.base := (congrArg Gp.base hg).symm
    unfold Aft lift0 callF at q
    dsimp only at q
    cases hf : Pg.fns.find? fun f => f.name == x with
    | none => rw [hf] at q; exact q.elim
    | some fn =>
      rw [hf] at q
      dsimp only at q
      have hmem := List.mem_of_find?_eq_some hf
      have hname : fn.name = x := by
        have := List.find?_some hf
        simpa using this
      obtain ⟨f', fd, Df⟩ := hd fn hmem
      have ef : f' = f := by
        have h1 := Df.glo
        rw [hname, hm] at h1
        have h2 := Option.some.inj h1
        injection h2 with h3
        exact h3.symm
      subst ef
      cases ha : arrange fn ds ks kds with
      | none => rw [ha] at q; exact q.elim
      | some args =>
        rw [ha] at q
        dsimp only at q
        obtain ⟨us', vs', hb, rv', ra, hlen⟩ := Df.bind X.gp s.μ s.G st us ws ks vs zs args ds kds rfl I.kIn rv rz hl ha r1 r2
        have F := fn_ok (n := n) hT Df ih
        have hsp : spD T X.gp (callF Pg n) Pg.sub fn vs' H Q (fun cls d H' => W cls d σ H') := by
          refine ⟨s, σ, args, A, ra, hlen, ?_⟩
          revert q
          cases runFn (callF Pg n) Pg.sub fn args s.S with
          | stk => exact fun q => q
          | exc c S' => exact fun q s' H' l e1 e2 J => q s' H' l e1 e2 J
          | ok d S' => exact fun q s' H' l e1 e2 J => q s' H' l e1 e2 J
        refine wpAny_call (codeAny_mono (F.run X.A X.stack st H ⟨us, ks.zip ws⟩ us' vs' Q (fun cls d H' => W cls d σ H') hr I.env0 hb rv' hsp) fun r s' hq => ?_)
        cases r with
        | error e => exact tk _ _ (XE.of_call I (fun cls d H' h => h) hq)
        | ok fl =>
          cases fl with
          | ret u => exact I.after hq
          | next => exact False.elim hq
          | brk => exact False.elim hq
          | cont => exact False.elim hq
end
end MP

namespace MP
open PySem PySem.Spec L2
/-! ### the head's hook, with names that are None -/
def nonB (K : PySem.W.Frag) (nn : List Str) : Bool := nn.all fun x => decide (PySem.W.nsIn K mainGlobals x = some (some .none))
abbrev AlM : Type := He.AlD × Bool
def obsM (fa : List He.Fa) (fn : List He.DefD) (nn : List Str) (K : PySem.W.Frag) : AlM := (He.obsD fa fn K, nonB K nn)
def obsMG (n : Nat) (fa : List He.Fa) (fn : List He.DefD) (nn : List Str) (g : Addr → Option Obj) : AlM := obsM fa fn nn (He.frG g (He.asD g n))
def hookM (n : Nat) (fa : List He.Fa) (fn : List He.DefD) (nn : List Str) : PySem.W.Hook where
  α := AlM
  obs := fun s => obsMG n fa fn nn s.heap.get?
  val := fun _ => (He.valD fn, true)
  says := fun _ h => ∃ K : PySem.W.Frag, K.In h ∧ He.SaysD fa fn K ∧ nonB K nn = true
  of := fun _ _ e => ⟨_, He.frG_in, congrArg Prod.fst e, congrArg Prod.snd e⟩
  keeps := fun _ _ _ ⟨K, hK, c⟩ k => ⟨K, PySem.W.Frag.In.keeps hK k, c⟩
theorem obsMG_eq {n : Nat} {fa : List He.Fa} {fn : List He.DefD} {nn : List Str} {g : Addr → Option Obj} {s : Shared} (h : ∀ a, g a = s.heap.get? a) : obsMG n fa fn nn g = (hookM n fa fn nn).obs s := by
  have e : g = s.heap.get? := funext h
  rw [e] <;> rfl
theorem non_ok {K : PySem.W.Frag} {h : Heap} {mg : Str → Option Value} {nn : List Str} (X : K.In h) (G : h.Ns mainGlobals mg) (c : nonB K nn = true) {x : Str} (hx : x ∈ nn) : mg x = some .none :=
  PySem.W.mg_of X G (of_decide_eq_true (List.all_eq_true.mp c x hx))
/-! ### binding without keywords -/
theorem bind_plain {K : PySem.W.Frag} {fn : Fn} {fd : FuncData} (hk : fn.kwd = []) (hp : fn.npos = fn.ps.length) (hb : Binds K fd fn.ps []) :
    ∀ (g : Gp) (μ : List Addr) (G : Hp) (st : Shared) (us ws : List Value) (ks : List Str) (vs zs : List V) (args ds kds : List D), g.K = K → K.In st.heap → Vals vs us → Vals zs ws → kds.length = ks.length → arrange fn ds ks kds = some args → reps g μ G ds vs → reps g μ G kds zs →
    ∃ us' vs', BindsTo st fd ⟨us, ks.zip ws⟩ (fn.ps.zip us') ∧ Vals vs' us' ∧ reps g μ G args vs' ∧ args.length = fn.ps.length := by
  intro g μ G st us ws ks vs zs args ds kds hg hK rv rz hl ha r1 r2
  unfold arrange at ha
  rw [hk] at ha
  split at ha
  · rename_i hc
    simp only [Bool.and_eq_true, beq_iff_eq, List.map_nil, List.contains_nil, Bool.false_eq_true] at hc
    have e1 : args = ds := by
      have := Option.some.inj ha
      simpa using this.symm
    subst e1
    have e2 : ks = [] := by
      cases ks with
      | nil => rfl
      | cons k ks => simp at hc
    subst e2
    have l1 : us.length = fn.ps.length := by rw [← rv.length, ← reps_len r1, hc.1, hp]
    refine ⟨us, vs, ?_, rv, r1, by rw [hc.1, hp]⟩
    have := hb st us hK (by simpa using l1)
    simpa using this
  · cases ha
/-! ### the end -/
/-- what is given of the script -/
def spLaw (K : PySem.W.Frag) (m : Nat) : Sp := fun vs H Q _ => ∃ (a : Addr) (ns : List Int), vs = [.ref a] ∧ ns.length ≤ m ∧ (∀ z ∈ ns, Builtin.Int.intBits z ≤ 1048576) ∧ SqL K H a (ns.map V.int) ∧ ∀ H', Q (.bl true) H'
theorem reps_ints {g : Gp} {μ : List Addr} {G : Hp} : ∀ ns : List Int, reps g μ G (ns.map D.int) (ns.map V.int)
  | [] => rfl
  | n :: ns => ⟨_, _, rfl, rfl, reps_ints ns⟩
/-- the tracked things that aren't tables -/
noncomputable def ghost (H : Hp) : Hp := fun a => match H a with
  | some (.tbl _) => none
  | o => o
theorem ghost_sub (H : Hp) : Sub (ghost H) H := fun a o e => by
  unfold ghost at e
  cases h : H a with
  | none => rw [h] at e; cases e
  | some u =>
    rw [h] at e
    cases u <;> first | exact e | cases e
theorem ghost_notbl (H : Hp) : ∀ a ps, ghost H a ≠ some (.tbl ps) := fun a ps e => by
  unfold ghost at e
  cases h : H a with
  | none => rw [h] at e; cases e
  | some u =>
    rw [h] at e
    cases u <;> cases e
theorem ghost_at {H : Hp} {a : Addr} {o : HO} (h : H a = some o) (n : ∀ ps, o ≠ .tbl ps) : ghost H a = some o := by
  unfold ghost
  rw [h]
  cases o <;> first | rfl | exact absurd rfl (n _)
theorem ghost_lst {K : PySem.W.Frag} {H : Hp} {a : Addr} {vs : List V} (h : SqL K H a vs) : SqL K (ghost H) a vs := by
  rcases h with (q | ⟨o, q⟩) | q
  · exact .inl (.inl (ghost_at q fun ps z => nomatch z))
  · exact .inl (.inr ⟨o, ghost_at q fun ps z => nomatch z⟩)
  · exact .inr q
theorem law_at {l : PySem.W.OpenLaw} {w : World} {K : PySem.W.Frag} {mg : Str → Option Value} {fa : Addr} {h : Heap} {Pg : Pgm} {Z : Gz} {lawFn : Fn} {n m : Nat} (hT : TopI K mg Z) (hd : ∀ fn ∈ Pg.fns, ∃ f fd, DefI K mg Z fn f fd)
    {f : Addr} {fd : FuncData} (hl : DefI K mg Z lawFn f fd) (hfa : mg lawFn.name = some (.ref fa)) (hps : lawFn.ps = [("script" : Str)]) (hb : ∀ (s : Shared) (u : Value), BindsTo s fd ⟨[u], []⟩ [("script", u)])
    (hrun : ∀ ns : List Int, ns.length ≤ m → (∀ z ∈ ns, Builtin.Int.intBits z ≤ 1048576) → ∃ S, runFn (callF Pg n) Pg.sub lawFn [.fz (ns.map D.int)] [] = .ok (.bl true) S) :
    LamX.LawAtS l w K (CX l.prog w) (n + 1) m "script" mg fa h := by
  have ef : f = fa := by
    have h1 := hl.glo
    rw [hfa] at h1
    have h2 := Option.some.inj h1
    injection h2 with h3
    exact h3.symm
  subst ef
  refine ⟨fd, [], spLaw K m, fun p hp => (by cases hp), fun p hp => (by cases hp), fun p hp => (by cases hp), hb, fun H a ns h1 h2 _ h3 => ⟨a, ns, rfl, h1, h2, h3, fun _ => rfl⟩, fun base hKb hG _ => ?_⟩
  have F := fn_ok (P := l.prog) (w := w) (base := base) (T := []) (n := n) hT hl (calls_ok hT hd n)
  rw [hps] at F
  refine F.imp fun vs H Q E ⟨a, ns, e1, e2, e3, e4, e5⟩ => ?_
  subst e1
  obtain ⟨S, hr⟩ := hrun ns e2 e3
  refine ⟨⟨⟨fun _ => none, fun _ => none, [], fun _ => none⟩, ghost H, [], [], []⟩, [], [.fz (ns.map D.int)], ?_, ⟨.ref a, [], rfl, ⟨a, ns.map V.int, rfl, ghost_lst e4, reps_ints ns⟩, rfl⟩, by rw [hps]; rfl, ?_⟩
  · refine ⟨ghost_sub H, fun a o e => (nomatch e), fun a e => rfl, fun a o e => (nomatch e), fun a o e => .inr rfl, ⟨[], rfl, fun a ha => (by cases ha)⟩, List.nodup_nil, fun a ha => (by cases ha), rfl, fun k o a e => (by simp at e), rfl, fun i sl e => (by simp at e), fun i j m m' e => (by simp at e), fun p hp => (by cases hp), ghost_notbl H, fun a vs e => (nomatch e)⟩
  · show (match runFn (callF Pg n) Pg.sub lawFn [.fz (ns.map D.int)] [] with
      | .ok d S' => _
      | .exc c S' => _
      | .stk => _)
    rw [hr]
    intro s' H' le e1 e2 J v hv
    have : v = .bl true := hv
    subst this
    exact e5 H'
end MP

namespace MP
open PySem PySem.Spec L2
def scB (N P : List Str) (sc : Scope) : Bool := decide (sc.kind = .function) && (!sc.isCoroutine) && (!sc.isGenerator) && decide N.Nodup && decide (N.take P.length = P) && (P.all fun x => match sc.names.lookup x with
  | some .local => true
  | some .cell => true
  | _ => false) && sc.names.all fun y => match y.2 with
  | .free => false
  | _ => true
theorem scB_ok {N P : List Str} {sc : Scope} (h : scB N P sc = true) : FnScope N P sc := by
  unfold scB at h
  simp only [Bool.and_eq_true, decide_eq_true_eq, Bool.not_eq_true', List.all_eq_true] at h
  obtain ⟨⟨⟨⟨⟨⟨h1, h2⟩, h3⟩, h4⟩, h5⟩, h6⟩, h7⟩ := h
  refine ⟨h1, h2, h3, h4, h5, fun x hx => ?_, fun y hy e => ?_⟩
  · have := h6 x hx
    split at this
    · exact .inl (by assumption)
    · exact .inr (by assumption)
    · cases this
  · have := h7 y hy
    rw [e] at this
    cases this
/-- a def's row against its core syntax -/
def okD (Z : Gz) (fn : Fn) (d : He.DefD) : Bool := decide (d.name = fn.name) && decide (d.at_ = (fn.name, none)) && scB fn.N fn.ps d.scope && chkCs ⟨fn.N, d.scope, fun _ => true, Z⟩ fn.body d.body && fn.kwd.isEmpty && decide (fn.npos = fn.ps.length) && d.dfl.isEmpty && d.kwd.isEmpty
/-- how a def without defaults binds -/
def BindF (d : He.DefD) (n : Nat) (ps : List Str) : Prop := ∀ (kV doc pm : Value) (an : Option Addr) (cdv ct : Value) (us : List Value), us.length = n → bindArgs (PySem.W.fnOf d.name d.qual d.params d.body d.scope .none kV doc pm an cdv ct) ⟨us, []⟩ = pure (ps.zip us)
theorem defI_of {K : PySem.W.Frag} {h : Heap} {mg : Str → Option Value} {fa : List He.Fa} {dns : List He.DefD} {Z : Gz} (X : K.In h) (G : h.Ns mainGlobals mg) (c : He.SaysD fa dns K) {fn : Fn} {d : He.DefD} {i : Nat} (hi : dns[i]? = some d) (hg : He.Fa.glo fn.name ∈ fa)
    (ok : okD Z fn d = true) (hb : BindF d fn.ps.length fn.ps) : ∃ f fd, DefI K mg Z fn f fd ∧ ∀ (s : Shared) (us : List Value), us.length = fn.ps.length → BindsTo s fd ⟨us, []⟩ (fn.ps.zip us) := by
  unfold okD at ok
  simp only [Bool.and_eq_true, decide_eq_true_eq, List.isEmpty_iff] at ok
  obtain ⟨⟨⟨⟨⟨⟨⟨h1, h2⟩, h3⟩, h4⟩, h5⟩, h6⟩, h7⟩, h8⟩ := ok
  obtain ⟨fd, F⟩ := c.def_ i hi
  obtain ⟨at_, name, qual, params, body, scope, dfl, kwd⟩ := d
  dsimp only at h1 h2 h3 h4 h7 h8 F hb
  subst h1 h2 h7 h8
  have F : FunD K fn.name qual params body scope [] [] (He.fAd K (fn.name, none)) fd := F
  have gl : mg fn.name = some (.ref (He.ga K fn.name)) := by
    obtain ⟨j, hj⟩ := List.mem_iff_getElem?.mp hg
    exact He.glo_ok X G (c.fact j hj)
  have hb' := hb
  refine ⟨He.ga K fn.name, fd, ⟨⟨qual, params, body, scope, [], [], F, scB_ok h3, h4⟩, gl, bind_plain h5 h6 (F.bindsN hb)⟩, fun s us hl => F.bindsA hb s us hl⟩
/-- the top's facts -/
theorem topI_of {K : PySem.W.Frag} {h : Heap} {mg : Str → Option Value} {fa : List He.Fa} {dns : List He.DefD} {nn : List Str} {Z : Gz} (X : K.In h) (G : h.Ns mainGlobals mg) (c : He.SaysD fa dns K) (cn : nonB K nn = true)
    (hg : ∀ q ∈ Z.gcs, (∃ i, q.2 = .int i ∧ He.Fa.int q.1 i ∈ fa) ∨ (∃ z, q.2 = .str z ∧ He.Fa.str q.1 z ∈ fa) ∨ (q.2 = .non ∧ q.1 ∈ nn))
    (hf : ∀ x ∈ Z.fns, He.Fa.glo x ∈ fa ∧ ∃ d ∈ dns, d.at_ = (x, none)) (hb : ∀ x ∈ Z.blt, He.Fa.free x ∈ fa) : TopI K mg Z where
  gcs := fun q hq => by
    rcases hg q hq with ⟨i, e, m⟩ | ⟨z, e, m⟩ | ⟨e, m⟩
    · obtain ⟨j, hj⟩ := List.mem_iff_getElem?.mp m
      obtain ⟨t, ht⟩ := He.int_ok X G (c.fact j hj)
      exact ⟨_, .int i, ht, ⟨t, rfl⟩, fun g μ G => by rw [e]; exact rfl⟩
    · obtain ⟨j, hj⟩ := List.mem_iff_getElem?.mp m
      obtain ⟨t, ht⟩ := He.str_ok X G (c.fact j hj)
      exact ⟨_, .str z, ht, ⟨t, rfl⟩, fun g μ G => by rw [e]; exact rfl⟩
    · exact ⟨_, .non, non_ok X G cn m, rfl, fun g μ G => by rw [e]; exact rfl⟩
  fns := fun x hx => by
    obtain ⟨m, d, hd, e⟩ := hf x hx
    obtain ⟨j, hj⟩ := List.mem_iff_getElem?.mp m
    obtain ⟨i, hi⟩ := List.mem_iff_getElem?.mp hd
    obtain ⟨fd, F⟩ := c.def_ i hi
    refine ⟨_, He.glo_ok X G (c.fact j hj), ?_⟩
    have := F.kp
    rw [e] at this
    exact this
  blt := fun x hx => by
    obtain ⟨j, hj⟩ := List.mem_iff_getElem?.mp (hb x hx)
    exact He.free_ok X G (c.fact j hj)
def BindAll : List Fn → List He.DefD → Prop
  | [], [] => True
  | f :: fs, d :: ds => BindF d f.ps.length f.ps ∧ BindAll fs ds
  | _, _ => False
theorem BindAll.append : ∀ {a : List Fn} {b : List He.DefD} {c : List Fn} {d : List He.DefD}, BindAll a b → BindAll c d → BindAll (a ++ c) (b ++ d)
  | [], [], _, _, _, h => h
  | [], _ :: _, _, _, h, _ => h.elim
  | _ :: _, [], _, _, h, _ => h.elim
  | f :: fs, x :: ds, _, _, ⟨h1, h2⟩, h => ⟨h1, h2.append h⟩
theorem BindAll.get : ∀ {a : List Fn} {b : List He.DefD} {i : Nat} {f : Fn}, BindAll a b → a[i]? = some f → ∃ d, b[i]? = some d ∧ BindF d f.ps.length f.ps ∧ (f, d) ∈ a.zip b
  | [], _, _, _, _, e => by simp at e
  | _ :: _, [], _, _, h, _ => h.elim
  | g :: fs, x :: ds, 0, f, ⟨h1, h2⟩, e => by
    simp at e
    subst e
    exact ⟨x, rfl, h1, List.mem_cons_self⟩
  | g :: fs, x :: ds, i + 1, f, ⟨h1, h2⟩, e => by
    obtain ⟨d, e1, e2, e3⟩ := BindAll.get (i := i) h2 (by simpa using e)
    exact ⟨d, by simpa using e1, e2, List.mem_cons_of_mem _ e3⟩
theorem defs_of {K : PySem.W.Frag} {h : Heap} {mg : Str → Option Value} {fa : List He.Fa} {fns : List Fn} {dns : List He.DefD} {Z : Gz} (X : K.In h) (G : h.Ns mainGlobals mg) (c : He.SaysD fa dns K)
    (ok : ((fns.zip dns).all fun r => okD Z r.1 r.2) = true) (ba : BindAll fns dns) (hg : (fns.map (·.name)).all (fun x => fa.any fun z => match z with | .glo y => decide (y = x) | _ => false) = true) :
    ∀ fn ∈ fns, ∃ f fd, DefI K mg Z fn f fd ∧ ∀ (s : Shared) (us : List Value), us.length = fn.ps.length → BindsTo s fd ⟨us, []⟩ (fn.ps.zip us) := fun fn hfn => by
  obtain ⟨i, hi⟩ := List.mem_iff_getElem?.mp hfn
  obtain ⟨d, e1, e2, e3⟩ := ba.get hi
  have hm := List.all_eq_true.mp hg fn.name (List.mem_map_of_mem hfn)
  obtain ⟨z, hz, hz2⟩ := List.any_eq_true.mp hm
  have hmem : He.Fa.glo fn.name ∈ fa := by
    cases z with
    | glo y => rw [of_decide_eq_true hz2] at hz; exact hz
    | _ => cases hz2
  exact defI_of X G c e1 hmem (List.all_eq_true.mp ok _ e3) e2
/-- the top's facts, by computation -/
def topB (fa : List He.Fa) (dns : List He.DefD) (nn : List Str) (Z : Gz) : Bool := (Z.gcs.all fun q => match q.2 with
    | .int i => fa.any fun z => match z with | .int y j => decide (y = q.1) && decide (j = i) | _ => false
    | .str x => fa.any fun z => match z with | .str y j => decide (y = q.1) && decide (j = x) | _ => false
    | .non => nn.contains q.1
    | _ => false) && (Z.fns.all fun x => (fa.any fun z => match z with | .glo y => decide (y = x) | _ => false) && dns.any fun d => decide (d.at_ = (x, none))) &&
  Z.blt.all fun x => fa.any fun z => match z with | .free y => decide (y = x) | _ => false
theorem topI_by {K : PySem.W.Frag} {h : Heap} {mg : Str → Option Value} {fa : List He.Fa} {dns : List He.DefD} {nn : List Str} {Z : Gz} (X : K.In h) (G : h.Ns mainGlobals mg) (c : He.SaysD fa dns K) (cn : nonB K nn = true) (hb : topB fa dns nn Z = true) : TopI K mg Z := by
  unfold topB at hb
  simp only [Bool.and_eq_true, List.all_eq_true] at hb
  obtain ⟨⟨h1, h2⟩, h3⟩ := hb
  refine topI_of X G c cn (fun q hq => ?_) (fun x hx => ?_) fun x hx => ?_
  · have := h1 q hq
    obtain ⟨q1, q2⟩ := q
    cases q2 with
    | int i =>
      obtain ⟨z, hz, hz2⟩ := List.any_eq_true.mp this
      cases z with
      | int y j =>
        simp only [Bool.and_eq_true, decide_eq_true_eq] at hz2
        obtain ⟨e1, e2⟩ := hz2
        subst e1 e2
        exact .inl ⟨_, rfl, hz⟩
      | _ => cases hz2
    | str i =>
      obtain ⟨z, hz, hz2⟩ := List.any_eq_true.mp this
      cases z with
      | str y j =>
        simp only [Bool.and_eq_true, decide_eq_true_eq] at hz2
        obtain ⟨e1, e2⟩ := hz2
        subst e1 e2
        exact .inr (.inl ⟨_, rfl, hz⟩)
      | _ => cases hz2
    | non => exact .inr (.inr ⟨rfl, by simpa using this⟩)
    | _ => cases this
  · obtain ⟨a1, a2⟩ := h2 x hx
    obtain ⟨z, hz, hz2⟩ := List.any_eq_true.mp a1
    obtain ⟨d, hd, hd2⟩ := List.any_eq_true.mp a2
    refine ⟨?_, d, hd, of_decide_eq_true hd2⟩
    cases z with
    | glo y => rw [of_decide_eq_true hz2] at hz; exact hz
    | _ => cases hz2
  · obtain ⟨z, hz, hz2⟩ := List.any_eq_true.mp (h3 x hx)
    cases z with
    | free y => rw [of_decide_eq_true hz2] at hz; exact hz
    | _ => cases hz2
end MP

/-! running the evaluator by simp -/
namespace MP
open PySem
def bindO {α β : Type} (r : Out α) (k : α → Fr → Store → Out β) : Out β := match r with
  | .ok a ρ S => k a ρ S
  | .exc c ρ S => .exc c ρ S
  | .stk => .stk
section
variable {α β : Type} {m : M α} {k : α → M β} {a : α} {ρ ρ' : Fr} {S S' : Store} {c : Str} {cl : Calls}
theorem mbind_ap : mbind m k ρ S = bindO (m ρ S) k := rfl
theorem bindO_ok : bindO (.ok a ρ S) k = k a ρ S := rfl
theorem bindO_exc : bindO (.exc c ρ S : Out α) k = .exc c ρ S := rfl
theorem bindO_stk : bindO (.stk : Out α) k = .stk := rfl
theorem bindO_ite {p : Prop} [Decidable p] {x y : Out α} : bindO (if p then x else y) k = if p then bindO x k else bindO y k := by split <;> rfl
theorem ite_ap {p : Prop} [Decidable p] {m m' : M α} : (if p then m else m') ρ S = if p then m ρ S else m' ρ S := by split <;> rfl
theorem mret_ap : mret a ρ S = .ok a ρ S := rfl
theorem mstk_ap : (mstk : M α) ρ S = .stk := rfl
theorem mopt_some : mopt (some a) ρ S = .ok a ρ S := rfl
theorem mopt_none : mopt (none : Option α) ρ S = .stk := rfl
def liftO (r : Out0) (ρ : Fr) : Out D := match r with
  | .ok d S => .ok d ρ S
  | .exc c S => .exc c ρ S
  | .stk => .stk
theorem lift0_ap {r : Store → Out0} : lift0 r ρ S = liftO (r S) ρ := rfl
theorem liftO_ok {d : D} : liftO (.ok d S) ρ = .ok d ρ S := rfl
theorem asP_var {i : Nat} {m : M D} : asP (.var i) m = peek i := rfl
theorem peek_val {i : Nat} {d : D} (h : ρ[i]? = some (.val d)) : peek i ρ S = .ok (.v d) ρ S := by unfold peek; rw [h]
theorem peek_own {i : Nat} {o : MO} (h : ρ[i]? = some (.own o)) : peek i ρ S = .ok (.s i) ρ S := by unfold peek; rw [h]
theorem peek_lck {i : Nat} {o : MO} (h : ρ[i]? = some (.lck o)) : peek i ρ S = .ok (.s i) ρ S := by unfold peek; rw [h]
theorem take_val {i : Nat} {d : D} (h : ρ[i]? = some (.val d)) : take i ρ S = .ok d ρ S := by unfold take; rw [h]
theorem take_own {i : Nat} {l : List D} (h : ρ[i]? = some (.own (.lst l))) : take i ρ S = .ok (.lst l) (ρ.set i (.val (.lst l))) S := by unfold take; rw [h]
/-- no place of the store -/
def noRef : D → Bool
  | .ref _ => false
  | _ => true
theorem mval_v {d : D} (h : noRef d = true) : mval (.v d) ρ S = .ok d ρ S := by cases d <;> first | rfl | cases h
theorem mval_ref {n : Nat} {l : List D} (h : S[n]? = some (.lst l)) : mval (.v (.ref n)) ρ S = .ok (.lst l) ρ S := by
  simp only [mval, mbind, mres, mret, mrefd, h, moD]
theorem mval_own {i : Nat} {l : List D} (h : ρ[i]? = some (.own (.lst l))) : mval (.s i) ρ S = .ok (.lst l) ρ S := by
  simp only [mval, mbind, mres, mret, mrefd, h, moD]
theorem mval_lck {i : Nat} {l : List D} (h : ρ[i]? = some (.lck (.lst l))) : mval (.s i) ρ S = .ok (.lst l) ρ S := by
  simp only [mval, mbind, mres, mret, mrefd, h, moD]
theorem mval_int {i : Int} : mval (.v (.int i)) ρ S = .ok (.int i) ρ S := rfl
theorem mval_str {i : Str} : mval (.v (.str i)) ρ S = .ok (.str i) ρ S := rfl
theorem mval_bl {i : Bool} : mval (.v (.bl i)) ρ S = .ok (.bl i) ρ S := rfl
theorem mval_non : mval (.v .non) ρ S = .ok .non ρ S := rfl
theorem mval_tup {l : List D} : mval (.v (.tup l)) ρ S = .ok (.tup l) ρ S := rfl
theorem mval_lst {l : List D} : mval (.v (.lst l)) ρ S = .ok (.lst l) ρ S := rfl
theorem mval_fz {l : List D} : mval (.v (.fz l)) ρ S = .ok (.fz l) ρ S := rfl
theorem mval_fn {x : Str} : mval (.v (.fn x)) ρ S = .ok (.fn x) ρ S := rfl
theorem mresL_v {d : D} : mresL (.v d) ρ S = .ok d ρ S := rfl
theorem mresL_lck {i : Nat} {l : List D} (h : ρ[i]? = some (.lck (.lst l))) : mresL (.s i) ρ S = .ok (.lst l) ρ S := by simp only [mresL, h, moD]
/-! a def's end -/
def outO (r : Out Fl) : Out0 := match r with
  | .ok .nx _ S => .ok .non S
  | .ok (.rt d) _ S => .ok d S
  | .ok _ _ _ => .stk
  | .exc c _ S => .exc c S
  | .stk => .stk
theorem run_ap {sub : Str → Str → Bool} {fn : Fn} {args : List D} : runFn cl sub fn args S = outO (evC cl sub fn.body (frame0 fn args) S) := rfl
theorem outO_rt {d : D} : outO (.ok (.rt d) ρ S) = .ok d S := rfl
theorem outO_nx : outO (.ok .nx ρ S) = .ok .non S := rfl
theorem outO_ite {p : Prop} [Decidable p] {x y : Out Fl} : outO (if p then x else y) = if p then outO x else outO y := by split <;> rfl
/-! loops -/
theorem bindT_v {i : Nat} {d : D} (h : i < ρ.length) : bindT (.v i) d ρ S = .ok () (ρ.set i (.val d)) S := by
  show (if i < ρ.length then _ else _) = _
  rw [if_pos h]
theorem forM_nil {t : Tg} {b : M Fl} : forM t b [] ρ S = .ok .nx ρ S := rfl
/-- a loop whose turns all go on -/
theorem for_inv {t : Tg} {b : M Fl} {l : List D} (P : Nat → Fr → Store → Prop) (h0 : P 0 ρ S)
    (step : ∀ (i : Nat) (d : D) (ρ : Fr) (S : Store), l[i]? = some d → P i ρ S → ∃ ρ' S' f, bindO (bindT t d ρ S) (fun _ => b) = .ok f ρ' S' ∧ (f = .nx ∨ f = .ct) ∧ P (i + 1) ρ' S') : ∃ ρ' S', forM t b l ρ S = .ok .nx ρ' S' ∧ P l.length ρ' S' := by
  induction l generalizing ρ S P with
  | nil => exact ⟨ρ, S, rfl, h0⟩
  | cons d l ih =>
    obtain ⟨ρ1, S1, f, e, hf, p1⟩ := step 0 d ρ S rfl h0
    obtain ⟨ρ2, S2, e2, p2⟩ := ih (P := fun i => P (i + 1)) p1 fun i d ρ S h p => step (i + 1) d ρ S (by simpa using h) p
    refine ⟨ρ2, S2, ?_, p2⟩
    show mbind (bindT t d) (fun _ => mbind b fun f => match f with
      | .nx => forM t b l
      | .ct => forM t b l
      | .bk => mret .nx
      | .rt d => mret (.rt d)) ρ S = _
    rw [mbind_ap]
    cases h : bindT t d ρ S with
    | ok u ρ' S' =>
      rw [h, bindO_ok] at e
      rw [bindO_ok, mbind_ap, e, bindO_ok]
      rcases hf with hf | hf <;> subst hf <;> exact e2
    | exc c ρ' S' => rw [h] at e; cases e
    | stk => rw [h] at e; cases e
/-! comprehensions -/
theorem noOwn_lock (ρ : Fr) : noOwn (lockF ρ) = true := by
  unfold noOwn lockF
  rw [List.all_map, List.all_eq_true]
  intro x _
  cases x <;> rfl
theorem flat_pure {α : Type} {f : α → M (List D)} {g : α → List D} : ∀ {l : List α}, (∀ a ∈ l, f a ρ S = .ok (g a) ρ S) → flatM f l ρ S = .ok (l.flatMap g) ρ S
  | [], _ => rfl
  | a :: l, h => by
    show mbind (f a) (fun x => mbind (flatM f l) fun y => mret (x ++ y)) ρ S = _
    rw [mbind_ap, h a List.mem_cons_self, bindO_ok, mbind_ap, flat_pure fun b hb => h b (List.mem_cons_of_mem _ hb), bindO_ok]
    rfl
/-- one clause, its turns without changes -/
theorem lc_pure {t : Tg} {own : List Nat} {it : It} {cs : Ts} {r : Cl} {l : List D} {g : D → List D} (hi : evI cl false it (lockF ρ) S = .ok l (lockF ρ) S)
    (hd : ∀ d ∈ l, ∃ ρ2, bindO (bindT t d (wipeF (lockF ρ) own) S) (fun _ => mbind (evTs cl .And cs) fun k => if k then evCl cl r else mret []) = .ok (g d) ρ2 S) (hl : (l.flatMap g).length ≤ 16777216) :
    fLc (evCl cl (.gen t own it cs r)) ρ S = .ok (l.flatMap g) ρ S := by
  have e : flatM (fun d => fun ρ S => shut (mbind (bindT t d) fun _ => mbind (evTs cl .And cs) fun k => if k then evCl cl r else mret []) (wipeF ρ own) ρ S) l (lockF ρ) S = .ok (l.flatMap g) (lockF ρ) S := by
    refine flat_pure fun d hdm => ?_
    obtain ⟨ρ2, h⟩ := hd d hdm
    show shut (mbind (bindT t d) fun _ => mbind (evTs cl .And cs) fun k => if k then evCl cl r else mret []) (wipeF (lockF ρ) own) (lockF ρ) S = _
    unfold shut
    rw [mbind_ap, h]
  have e2 : evCl cl (.gen t own it cs r) (lockF ρ) S = .ok (l.flatMap g) (lockF ρ) S := by
    show mbind (evI cl false it) (fun l => fun ρ S => if noOwn ρ then flatM (fun d => fun ρ S => shut (mbind (bindT t d) fun _ => mbind (evTs cl .And cs) fun k => if k then evCl cl r else mret []) (wipeF ρ own) ρ S) l ρ S else .stk) (lockF ρ) S = _
    rw [mbind_ap, hi, bindO_ok, noOwn_lock, if_pos rfl]
    exact e
  unfold fLc
  rw [mbind_ap]
  show bindO (shut (evCl cl (.gen t own it cs r)) (lockF ρ) ρ S) okItems = _
  unfold shut
  rw [e2]
  show okItems (l.flatMap g) ρ S = _
  unfold okItems
  rw [show okLen (l.flatMap g).length = true from decide_eq_true hl]
  rfl
/-- .. without tests, each turn one item -/
theorem lc_map {t : Tg} {own : List Nat} {it : It} {e : E} {l : List D} {g : D → D} (hi : evI cl false it (lockF ρ) S = .ok l (lockF ρ) S)
    (hd : ∀ d ∈ l, ∃ ρ2, bindO (bindT t d (wipeF (lockF ρ) own) S) (fun _ => evE cl e) = .ok (g d) ρ2 S) (hl : l.length ≤ 16777216) :
    fLc (evCl cl (.gen t own it .nil (.fin e))) ρ S = .ok (l.map g) ρ S := by
  have e1 : ∀ l : List D, l.flatMap (fun d => [g d]) = l.map g := fun l => by
    induction l with
    | nil => rfl
    | cons x l ih => rw [List.flatMap_cons, ih]; rfl
  have h := lc_pure (t := t) (own := own) (cs := .nil) (r := .fin e) (g := fun d => [g d]) hi (fun d hdm => ?_) (by rw [e1, List.length_map]; exact hl)
  · rw [e1] at h
    exact h
  · obtain ⟨ρ2, h⟩ := hd d hdm
    refine ⟨ρ2, ?_⟩
    cases h1 : bindT t d (wipeF (lockF ρ) own) S with
    | ok u ρ' S' =>
      rw [h1, bindO_ok] at h
      rw [bindO_ok]
      show bindO (evTs cl .And .nil ρ' S') (fun k => if k then evCl cl (.fin e) else mret []) = _
      show (mbind (evE cl e) fun d => mret [d]) ρ' S' = _
      rw [mbind_ap, h]
      rfl
    | exc c ρ' S' => rw [h1] at h; cases h
    | stk => rw [h1] at h; cases h
/-- the items as images -/
theorem flat_img {α : Type} {a : α → D} {f : D → M (List D)} {g : α → List D} : ∀ {l : List α}, (∀ x ∈ l, f (a x) ρ S = .ok (g x) ρ S) → flatM f (l.map a) ρ S = .ok (l.flatMap g) ρ S
  | [], _ => rfl
  | x :: l, h => by
    show mbind (f (a x)) (fun z => mbind (flatM f (l.map a)) fun y => mret (z ++ y)) ρ S = _
    rw [mbind_ap, h x List.mem_cons_self, bindO_ok, mbind_ap, flat_img fun b hb => h b (List.mem_cons_of_mem _ hb), bindO_ok]
    rfl
theorem cl_img {α : Type} {a : α → D} {t : Tg} {own : List Nat} {it : It} {cs : Ts} {r : Cl} {l : List α} {g : α → List D} (hi : evI cl false it ρ S = .ok (l.map a) ρ S) (no : noOwn ρ = true)
    (hd : ∀ x ∈ l, ∃ ρ2, bindO (bindT t (a x) (wipeF ρ own) S) (fun _ => mbind (evTs cl .And cs) fun k => if k then evCl cl r else mret []) = .ok (g x) ρ2 S) :
    evCl cl (.gen t own it cs r) ρ S = .ok (l.flatMap g) ρ S := by
  have e : flatM (fun d => fun ρ S => shut (mbind (bindT t d) fun _ => mbind (evTs cl .And cs) fun k => if k then evCl cl r else mret []) (wipeF ρ own) ρ S) (l.map a) ρ S = .ok (l.flatMap g) ρ S := by
    refine flat_img fun x hx => ?_
    obtain ⟨ρ2, h⟩ := hd x hx
    show shut (mbind (bindT t (a x)) fun _ => mbind (evTs cl .And cs) fun k => if k then evCl cl r else mret []) (wipeF ρ own) ρ S = _
    unfold shut
    rw [mbind_ap, h]
  show mbind (evI cl false it) (fun l => fun ρ S => if noOwn ρ then flatM (fun d => fun ρ S => shut (mbind (bindT t d) fun _ => mbind (evTs cl .And cs) fun k => if k then evCl cl r else mret []) (wipeF ρ own) ρ S) l ρ S else .stk) ρ S = _
  rw [mbind_ap, hi, bindO_ok, no, if_pos rfl]
  exact e
theorem lc_of_cl {c : Cl} {l : List D} (h : evCl cl c (lockF ρ) S = .ok l (lockF ρ) S) (hl : l.length ≤ 16777216) : fLc (evCl cl c) ρ S = .ok l ρ S := by
  unfold fLc
  rw [mbind_ap]
  show bindO (shut (evCl cl c) (lockF ρ) ρ S) okItems = _
  unfold shut
  rw [h]
  show okItems l ρ S = _
  unfold okItems
  rw [show okLen l.length = true from decide_eq_true hl]
  rfl
theorem fm_one' {α β : Type} {f : α → β} : ∀ l : List α, (l.flatMap fun y => [f y]) = l.map f
  | [] => rfl
  | x :: l => by rw [List.flatMap_cons, fm_one' l]; rfl
theorem lc_img {α : Type} {a : α → D} {t : Tg} {own : List Nat} {it : It} {e : E} {l : List α} {g : α → D} (hi : evI cl false it (lockF ρ) S = .ok (l.map a) (lockF ρ) S)
    (hd : ∀ x ∈ l, ∃ ρ2, bindO (bindT t (a x) (wipeF (lockF ρ) own) S) (fun _ => evE cl e) = .ok (g x) ρ2 S) (hl : l.length ≤ 16777216) :
    fLc (evCl cl (.gen t own it .nil (.fin e))) ρ S = .ok (l.map g) ρ S := by
  have h := cl_img (t := t) (own := own) (cs := .nil) (r := .fin e) (g := fun x => [g x]) hi (noOwn_lock ρ) fun x hx => ?_
  · rw [fm_one'] at h
    exact lc_of_cl h (by rw [List.length_map]; exact hl)
  · obtain ⟨ρ2, h⟩ := hd x hx
    refine ⟨ρ2, ?_⟩
    cases h1 : bindT t (a x) (wipeF (lockF ρ) own) S with
    | ok u ρ' S' =>
      rw [h1, bindO_ok] at h
      rw [bindO_ok]
      show (mbind (evE cl e) fun d => mret [d]) ρ' S' = _
      rw [mbind_ap, h]
      rfl
    | exc c ρ' S' => rw [h1] at h; cases h
    | stk => rw [h1] at h; cases h
/-- a clause within a block -/
theorem cl_pure {t : Tg} {own : List Nat} {it : It} {cs : Ts} {r : Cl} {l : List D} {g : D → List D} (hi : evI cl false it ρ S = .ok l ρ S) (no : noOwn ρ = true)
    (hd : ∀ d ∈ l, ∃ ρ2, bindO (bindT t d (wipeF ρ own) S) (fun _ => mbind (evTs cl .And cs) fun k => if k then evCl cl r else mret []) = .ok (g d) ρ2 S) :
    evCl cl (.gen t own it cs r) ρ S = .ok (l.flatMap g) ρ S := by
  have e : flatM (fun d => fun ρ S => shut (mbind (bindT t d) fun _ => mbind (evTs cl .And cs) fun k => if k then evCl cl r else mret []) (wipeF ρ own) ρ S) l ρ S = .ok (l.flatMap g) ρ S := by
    refine flat_pure fun d hdm => ?_
    obtain ⟨ρ2, h⟩ := hd d hdm
    show shut (mbind (bindT t d) fun _ => mbind (evTs cl .And cs) fun k => if k then evCl cl r else mret []) (wipeF ρ own) ρ S = _
    unfold shut
    rw [mbind_ap, h]
  show mbind (evI cl false it) (fun l => fun ρ S => if noOwn ρ then flatM (fun d => fun ρ S => shut (mbind (bindT t d) fun _ => mbind (evTs cl .And cs) fun k => if k then evCl cl r else mret []) (wipeF ρ own) ρ S) l ρ S else .stk) ρ S = _
  rw [mbind_ap, hi, bindO_ok, no, if_pos rfl]
  exact e
theorem fm_one {α β : Type} {f : α → β} : ∀ l : List α, (l.flatMap fun y => [f y]) = l.map f
  | [] => rfl
  | x :: l => by rw [List.flatMap_cons, fm_one l]; rfl
theorem evCl_fin {e : E} : evCl cl (.fin e) ρ S = bindO (evE cl e ρ S) fun d => mret [d] := rfl
theorem evTs_nil : evTs cl .And .nil ρ S = .ok true ρ S := rfl
theorem allStr_map : ∀ {l : List Str}, allStr (l.map D.str) = some l
  | [] => rfl
  | x :: l => by
    show (allStr (l.map D.str)).map (x :: ·) = _
    rw [allStr_map]
    rfl
theorem join_str {a : Str} {l : List Str} (h : (l.map (·.length)).sum + l.length * a.length ≤ 16777216) : opMt .join (.str a) [.lst (l.map D.str)] = some (.str (Txt.join a l)) := by
  show ((allStr (l.map D.str)).bind fun ys => if okLen ((ys.map (·.length)).sum + ys.length * a.length) then some (D.str (Txt.join a ys)) else none) = _
  rw [allStr_map]
  show (if okLen ((l.map (·.length)).sum + l.length * a.length) then some (D.str (Txt.join a l)) else none) = _
  rw [show okLen ((l.map (·.length)).sum + l.length * a.length) = true from decide_eq_true h]
  rfl
theorem sum_le {α : Type} {f : α → Nat} {c : Nat} : ∀ {l : List α}, (∀ x ∈ l, f x ≤ c) → (l.map f).sum ≤ l.length * c
  | [], _ => by simp
  | x :: l, h => by
    have h1 := h x List.mem_cons_self
    have h2 := sum_le (l := l) fun y hy => h y (List.mem_cons_of_mem _ hy)
    rw [List.map_cons, List.sum_cons, List.length_cons, Nat.succ_mul]
    omega
theorem fBinL_ap {o : Operator} {pa pb : M PV} : fBinL o pa pb ρ S = bindO (pa ρ S) fun p => mbind pb fun q => mbind (mval p) fun x => mbind (mval q) fun y => mopt (opBinL o x y) := rfl
theorem fLst_ap {ml : M (List D)} : fLst ml ρ S = bindO (ml ρ S) fun l => if okLen l.length then mret l else mstk := rfl
theorem addL {a b : List D} (h : a.length + b.length ≤ 16777216) : opBinL .Add (.lst a) (.lst b) = some (a ++ b) := by
  show (if okLen (a.length + b.length) then some (a ++ b) else none) = _
  rw [show okLen (a.length + b.length) = true from decide_eq_true h]
  rfl
theorem fFl_ap {b : Fl1} {ml : M (List PV)} : fFl b ml ρ S = bindO (ml ρ S) fun ps => mbind (mvals ps) fun ds => mopt (opFl b ds) := rfl
theorem fl_tup {l : List D} : opFl .list [.tup l] = some l := rfl
theorem fl_lst {l : List D} : opFl .list [.lst l] = some l := rfl
theorem chg_own {i : Nat} {o o' : MO} {f : MO → Option MO} (h : ρ[i]? = some (.own o)) (hf : f o = some o') : chg (.s i) f ρ S = .ok .nx (ρ.set i (.own o')) S := by
  unfold chg
  simp only [h, hf]
theorem chg_ref {k : Nat} {o o' : MO} {f : MO → Option MO} (h : S[k]? = some o) (hf : f o = some o') : chg (.v (.ref k)) f ρ S = .ok .nx ρ (S.set k o') := by
  unfold chg
  simp only [h, hf]
theorem addTo_ok {l l' : List D} (h : l.length + l'.length ≤ 16777216) : addTo l' (.lst l) = some (.lst (l ++ l')) := by
  show (if okLen (l.length + l'.length) then some (MO.lst (l ++ l')) else none) = _
  rw [show okLen (l.length + l'.length) = true from decide_eq_true h]
  rfl
theorem fMtF_ap {m : MtF} {mo : M D} {ml : M (List PV)} : fMtF m mo ml ρ S = bindO (mo ρ S) fun x => match x with
    | .str a => mbind ml fun ps => mbind (mvals ps) fun ds => mopt (opMtF m (.str a) ds)
    | _ => mstk := rfl
theorem fSlL_ap {pa : M PV} {ml mh : M D} : fSlL pa ml mh ρ S = bindO (pa ρ S) fun p => mbind ml fun i => mbind mh fun j => mbind (mval p) fun x => match x with
    | .lst l => mopt (cutD l i j)
    | _ => mstk := rfl
theorem split_str {a b : Str} (h1 : (b.length != 0) = true) (h2 : a.length ≤ 16777214) : opMtF .split (.str a) [.str b] = some ((Txt.split a b).map D.str) := by
  show (if (b.length != 0) && okLen (a.length + 2) then some ((Txt.split a b).map D.str) else none) = _
  rw [h1, show okLen (a.length + 2) = true from decide_eq_true (by omega)]
  rfl
theorem asL_ap {m : M (List D)} : asL m ρ S = bindO (m ρ S) fun l => mret (.lst l) := rfl
theorem allBl_true : ∀ {l : List D}, (∀ x ∈ l, x = .bl true) → allBl l = some (l.map fun _ => true)
  | [], _ => rfl
  | x :: l, h => by
    rw [h x List.mem_cons_self]
    show (allBl l).map (true :: ·) = _
    rw [allBl_true fun y hy => h y (List.mem_cons_of_mem _ hy)]
    rfl
theorem all_true {l : List D} (h : ∀ x ∈ l, x = .bl true) : opBl .all [.lst l] = some (.bl true) := by
  show (allBl l).map (fun bs => D.bl (bs.all id)) = _
  rw [allBl_true h]
  simp
theorem all_mapT {l : List D} : opBl .all [.lst (l.map fun _ => .bl true)] = some (.bl true) := all_true fun x hx => by
  obtain ⟨_, _, e⟩ := List.mem_map.mp hx
  exact e.symm
theorem ln_tup {l : List D} : opBl .len [.tup l] = some (.int l.length) := rfl
theorem ln_lst {l : List D} : opBl .len [.lst l] = some (.int l.length) := rfl
theorem ln_fz {l : List D} : opBl .len [.fz l] = some (.int l.length) := rfl
theorem tu_lst {l : List D} : opBl .tuple [.lst l] = some (.tup l) := rfl
theorem tu_tup {l : List D} : opBl .tuple [.tup l] = some (.tup l) := rfl
theorem it_tup {l : List D} : iterD (.tup l) = some l := rfl
theorem it_lst {l : List D} : iterD (.lst l) = some l := rfl
theorem it_fz {l : List D} : iterD (.fz l) = some l := rfl
theorem sq_tup {l : List D} : seqD (.tup l) = some l := rfl
theorem sq_lst {l : List D} : seqD (.lst l) = some l := rfl
/-! values -/
theorem cLt {a b : Int} : opCmp .Lt (.int a) (.int b) = some (decide (a < b)) := rfl
theorem cLe {a b : Int} : opCmp .LtE (.int a) (.int b) = some (decide (a ≤ b)) := rfl
theorem cGt {a b : Int} : opCmp .Gt (.int a) (.int b) = some (decide (b < a)) := rfl
theorem cGe {a b : Int} : opCmp .GtE (.int a) (.int b) = some (decide (b ≤ a)) := rfl
theorem cEqI {a b : Int} : opCmp .Eq (.int a) (.int b) = some (a == b) := rfl
theorem cNeI {a b : Int} : opCmp .NotEq (.int a) (.int b) = some (!(a == b)) := rfl
theorem cEqB {a b : Bool} : opCmp .Eq (.bl a) (.bl b) = some (a == b) := rfl
theorem cIs {d : D} : opCmp .Is d .non = some (isNon d) := by cases d <;> rfl
theorem cIsNot {d : D} : opCmp .IsNot d .non = some (!isNon d) := by cases d <;> rfl
theorem cEqD {a b : D} : opCmp .Eq a b = if shp a && shp b then some (deq a b) else none := by cases a <;> cases b <;> rfl
theorem cNeD {a b : D} : opCmp .NotEq a b = if shp a && shp b then some (!deq a b) else none := by cases a <;> cases b <;> rfl
theorem bAdd {a b : Int} : opBin .Add (.int a) (.int b) = some (.int (a + b)) := rfl
theorem bSub {a b : Int} : opBin .Sub (.int a) (.int b) = some (.int (a - b)) := rfl
theorem bMod {a b : Int} (h : 0 < b) : opBin .Mod (.int a) (.int b) = some (.int (a % b)) := by
  show (if decide (0 < b) then some (D.int (a % b)) else none) = _
  rw [decide_eq_true h]
  rfl
theorem bDiv {a b : Int} (h : 0 < b) (h2 : b.natAbs.log2 < 9000) : opBin .FloorDiv (.int a) (.int b) = some (.int (a / b)) := by
  show (if decide (0 < b ∧ b.natAbs.log2 < 9000) then some (D.int (a / b)) else none) = _
  rw [decide_eq_true ⟨h, h2⟩]
  rfl
theorem bMul {a b : Int} (h : a.natAbs.log2 + b.natAbs.log2 < 1000000) : opBin .Mult (.int a) (.int b) = some (.int (a * b)) := by
  show (if decide (a.natAbs.log2 + b.natAbs.log2 < 1000000) then some (D.int (a * b)) else none) = _
  rw [decide_eq_true h]
  rfl
theorem bPow {a b : Int} (h : 0 ≤ b) (h2 : (Builtin.Int.intBits a : Int) * b ≤ 134217728) : opBin .Pow (.int a) (.int b) = some (.int (a ^ b.toNat)) := by
  show (if decide (0 ≤ b ∧ (Builtin.Int.intBits a : Int) * b ≤ 134217728) then some (D.int (a ^ b.toNat)) else none) = _
  rw [decide_eq_true ⟨h, h2⟩]
  rfl
theorem bAddS {a b : Str} (h : a.length + b.length ≤ 16777216) : opBin .Add (.str a) (.str b) = some (.str (a ++ b)) := by
  show (if okLen (a.length + b.length) then some (D.str (a ++ b)) else none) = _
  rw [show okLen (a.length + b.length) = true from decide_eq_true h]
  rfl
theorem isI_int {i : Int} : isiAny (.int i) [.int] = some true := rfl
theorem isI_intb {i : Int} : isiAny (.int i) [.bool] = some false := rfl
theorem xT {l : List D} {i : Int} : opIdx (.tup l) (.int i) = atD l i := rfl
theorem xL {l : List D} {i : Int} : opIdx (.lst l) (.int i) = atD l i := rfl
theorem xF {l : List D} {i : Int} : opIdx (.fz l) (.int i) = atD l i := rfl
theorem tBo {b : Bool} : tru (.bl b) = some b := rfl
theorem tIn {i : Int} : tru (.int i) = some (i != 0) := rfl
theorem tNo : tru .non = some false := rfl
theorem tTu {l : List D} : tru (.tup l) = some (!l.isEmpty) := rfl
theorem tLi {l : List D} : tru (.lst l) = some (!l.isEmpty) := rfl
theorem omap_some {α β : Type} {f : α → β} {a : α} : Option.map f (some a) = some (f a) := rfl
end
end MP

namespace MP
open PySem
variable {cl : Calls} {ρ : Fr} {S : Store}
theorem flat_inv {f : D → M (List D)} : ∀ {l : List D} {S : Store} (P : Nat → Store → Prop) (Q : Nat → D → Prop), P 0 S →
    (∀ i d S, l[i]? = some d → P i S → ∃ r S', f d ρ S = .ok [r] ρ S' ∧ Q i r ∧ P (i + 1) S') →
    ∃ rs S', flatM f l ρ S = .ok rs ρ S' ∧ rs.length = l.length ∧ (∀ i r, rs[i]? = some r → Q i r) ∧ P l.length S'
  | [], S, P, Q, h0, _ => ⟨[], S, rfl, rfl, fun i r h => by simp at h, h0⟩
  | d :: l, S, P, Q, h0, h => by
    obtain ⟨r, S1, e1, q1, p1⟩ := h 0 d S rfl h0
    obtain ⟨rs, S2, e2, l2, q2, p2⟩ := flat_inv (l := l) (fun i => P (i + 1)) (fun i => Q (i + 1)) p1 fun i d S hd hp => h (i + 1) d S (by simpa using hd) hp
    refine ⟨r :: rs, S2, ?_, by simp [l2], fun i x hx => ?_, p2⟩
    · show mbind (f d) (fun x => mbind (flatM f l) fun y => mret (x ++ y)) ρ S = _
      rw [mbind_ap, e1, bindO_ok, mbind_ap, e2, bindO_ok]
      rfl
    · cases i with
      | zero =>
        rw [List.getElem?_cons_zero] at hx
        cases hx
        exact q1
      | succ i => exact q2 i x (by simpa using hx)
theorem lc_inv {t : Tg} {own : List Nat} {it : It} {e : E} {l : List D} (P : Nat → Store → Prop) (Q : Nat → D → Prop) (hi : evI cl false it (lockF ρ) S = .ok l (lockF ρ) S) (h0 : P 0 S)
    (hd : ∀ i d S, l[i]? = some d → P i S → ∃ r ρ2 S', bindO (bindT t d (wipeF (lockF ρ) own) S) (fun _ => evE cl e) = .ok r ρ2 S' ∧ Q i r ∧ P (i + 1) S') (hl : l.length ≤ 16777216) :
    ∃ rs S', fLc (evCl cl (.gen t own it .nil (.fin e))) ρ S = .ok rs ρ S' ∧ rs.length = l.length ∧ (∀ i r, rs[i]? = some r → Q i r) ∧ P l.length S' := by
  obtain ⟨rs, S', ef, ln, q, p⟩ := flat_inv (ρ := lockF ρ) (f := fun d => fun ρ S => shut (mbind (bindT t d) fun _ => mbind (evTs cl .And .nil) fun k => if k then evCl cl (.fin e) else mret []) (wipeF ρ own) ρ S) (l := l) P Q h0 fun i d S hdm hp => by
    obtain ⟨r, ρ2, S', h, q, p⟩ := hd i d S hdm hp
    refine ⟨r, S', ?_, q, p⟩
    show shut (mbind (bindT t d) fun _ => mbind (evTs cl .And .nil) fun k => if k then evCl cl (.fin e) else mret []) (wipeF (lockF ρ) own) (lockF ρ) S = _
    unfold shut
    rw [mbind_ap]
    cases h1 : bindT t d (wipeF (lockF ρ) own) S with
    | ok u ρ' S2 =>
      rw [h1, bindO_ok] at h
      rw [bindO_ok]
      have e3 : (mbind (evTs cl .And .nil) fun k => if k then evCl cl (.fin e) else mret []) ρ' S2 = bindO (evE cl e ρ' S2) fun d => mret [d] := rfl
      rw [e3, h]
      rfl
    | exc c ρ' S' => rw [h1] at h; cases h
    | stk => rw [h1] at h; cases h
  refine ⟨rs, S', ?_, ln, q, p⟩
  have e2 : evCl cl (.gen t own it .nil (.fin e)) (lockF ρ) S = .ok rs (lockF ρ) S' := by
    show mbind (evI cl false it) (fun l => fun ρ S => if noOwn ρ then flatM (fun d => fun ρ S => shut (mbind (bindT t d) fun _ => mbind (evTs cl .And .nil) fun k => if k then evCl cl (.fin e) else mret []) (wipeF ρ own) ρ S) l ρ S else .stk) (lockF ρ) S = _
    rw [mbind_ap, hi, bindO_ok, noOwn_lock, if_pos rfl]
    exact ef
  unfold fLc
  rw [mbind_ap]
  show bindO (shut (evCl cl (.gen t own it .nil (.fin e))) (lockF ρ) ρ S) okItems = _
  unfold shut
  rw [e2]
  show okItems rs ρ S' = _
  unfold okItems
  rw [show okLen rs.length = true from decide_eq_true (by omega)]
  rfl
end MP

namespace K86
open PySem PySem.Spec PyProof.Rows L2 MP
def top (i : Nat) : Stmt := PySem.Challenge.pw_mildwarden_k86_texts_written.main.body.getD i (.Pass ⟨0, 0, 0, 0⟩)
def b_is_whole : C := (.seq (.ret (.bop .And (.cons (.isi (.var 0) [.int]) (.cons (.not_ (.isi (.var 0) [.bool])) .nil)))) .skip)
def f_is_whole : Fn := ⟨"is_whole", ["thing"], 1, [], ["thing"], b_is_whole⟩
def d_is_whole : He.DefD := ⟨("is_whole", none), "is_whole", "is_whole", defArgs (top 12), defBody (top 12), defScope (top 12), [], []⟩
def b_is_below : C := (.seq (.ret (.bop .And (.cons (.call "is_whole" (.cons (.var 0) .nil) [] .nil) (.cons (.cmp2 .LtE .Lt (.cst (.int 0)) (.var 0) (.var 1)) .nil)))) .skip)
def f_is_below : Fn := ⟨"is_below", ["thing", "most"], 2, [], ["thing", "most"], b_is_below⟩
def d_is_below : He.DefD := ⟨("is_below", none), "is_below", "is_below", defArgs (top 13), defBody (top 13), defScope (top 13), [], []⟩
def b_is_count : C := (.seq (.ret (.bop .And (.cons (.call "is_whole" (.cons (.var 0) .nil) [] .nil) (.cons (.cmp2 .LtE .LtE (.cst (.int 1)) (.var 0) (.gc "WIDE" (.int 9))) .nil)))) .skip)
def f_is_count : Fn := ⟨"is_count", ["thing"], 1, [], ["thing"], b_is_count⟩
def d_is_count : He.DefD := ⟨("is_count", none), "is_count", "is_count", defArgs (top 14), defBody (top 14), defScope (top 14), [], []⟩
def b_is_row : C := (.seq (.ret (.bop .And (.cons (.isi (.var 0) [.tuple]) (.cons (.cmp .Eq (.bl .len (.cons (.var 0) .nil)) (.var 1)) .nil)))) .skip)
def f_is_row : Fn := ⟨"is_row", ["thing", "many"], 2, [], ["thing", "many"], b_is_row⟩
def d_is_row : He.DefD := ⟨("is_row", none), "is_row", "is_row", defArgs (top 15), defBody (top 15), defScope (top 15), [], []⟩
def b_is_room_0 : C := (.seq (.ite (.bop .And (.cons (.cmp .IsNot (.var 5) (.cst .non)) (.cons (.not_ (.v (.call "is_below" (.cons (.var 5) (.cons (.var 3) .nil)) [] .nil))) .nil))) (.seq (.ret (.cst (.bl false))) .skip) .skip) .skip)
def b_is_room_1 : C := (.seq (.ite (.not_ (.v (.call "is_row" (.cons (.var 4) (.cons (.var 2) .nil)) [] .nil))) (.seq (.ret (.cst (.bl false))) .skip) .skip) (.seq (.for_ (.v 5) (.val (.var 4)) b_is_room_0) .skip))
def b_is_room : C := (.seq (.ite (.not_ (.v (.call "is_row" (.cons (.var 0) (.cons (.var 1) .nil)) [] .nil))) (.seq (.ret (.cst (.bl false))) .skip) .skip) (.seq (.for_ (.v 4) (.val (.var 0)) b_is_room_1) (.seq (.ret (.cst (.bl true))) .skip)))
def f_is_room : Fn := ⟨"is_room", ["thing", "signs", "deeds", "many"], 4, [], ["thing", "signs", "deeds", "many", "row", "behind"], b_is_room⟩
def d_is_room : He.DefD := ⟨("is_room", none), "is_room", "is_room", defArgs (top 16), defBody (top 16), defScope (top 16), [], []⟩
def c_is_saying_0 : Cl := (.gen (.v 4) [4] (.val (.var 3)) .nil (.fin (.call "is_room" (.cons (.var 4) (.cons (.var 1) (.cons (.var 2) (.cons (.bl .len (.cons (.var 3) .nil)) .nil)))) [] .nil)))
def b_is_saying : C := (.seq (.ite (.not_ (.v (.call "is_row" (.cons (.var 0) (.cons (.cst (.int 3)) .nil)) [] .nil))) (.seq (.ret (.cst (.bl false))) .skip) .skip) (.seq (.set (.tup (.cons (.v 1) (.cons (.v 2) (.cons (.v 3) .nil)))) (.var 0)) (.seq (.ite (.bop .Or (.cons (.not_ (.v (.call "is_count" (.cons (.var 1) .nil) [] .nil))) (.cons (.not_ (.v (.call "is_count" (.cons (.var 2) .nil) [] .nil))) (.cons (.not_ (.v (.isi (.var 3) [.tuple]))) .nil)))) (.seq (.ret (.cst (.bl false))) .skip) .skip) (.seq (.ret (.bop .And (.cons (.cmp2 .LtE .LtE (.cst (.int 1)) (.bl .len (.cons (.var 3) .nil)) (.gc "MOST" (.int 100))) (.cons (.bl .all (.cons (.lc c_is_saying_0) .nil)) .nil)))) .skip))))
def f_is_saying : Fn := ⟨"is_saying", ["thing"], 1, [], ["thing", "signs", "deeds", "rooms", "room"], b_is_saying⟩
def d_is_saying : He.DefD := ⟨("is_saying", none), "is_saying", "is_saying", defArgs (top 17), defBody (top 17), defScope (top 17), [], []⟩
def b_are_steps_0 : C := (.seq (.ite (.bop .Or (.cons (.not_ (.v (.call "is_row" (.cons (.var 3) (.cons (.cst (.int 2)) .nil)) [] .nil))) (.cons (.not_ (.v (.call "is_below" (.cons (.idx (.var 3) (.cst (.int 0))) (.cons (.var 1) .nil)) [] .nil))) (.cons (.not_ (.v (.call "is_below" (.cons (.idx (.var 3) (.cst (.int 1))) (.cons (.var 2) .nil)) [] .nil))) .nil)))) (.seq (.ret (.cst (.bl false))) .skip) .skip) .skip)
def b_are_steps : C := (.seq (.ite (.not_ (.v (.isi (.var 0) [.tuple]))) (.seq (.ret (.cst (.bl false))) .skip) .skip) (.seq (.for_ (.v 3) (.val (.var 0)) b_are_steps_0) (.seq (.ret (.cst (.bl true))) .skip)))
def f_are_steps : Fn := ⟨"are_steps", ["thing", "signs", "deeds"], 3, [], ["thing", "signs", "deeds", "step"], b_are_steps⟩
def d_are_steps : He.DefD := ⟨("are_steps", none), "are_steps", "are_steps", defArgs (top 18), defBody (top 18), defScope (top 18), [], []⟩
def b_need_saying : C := (.seq (.ite (.not_ (.v (.call "is_saying" (.cons (.var 0) .nil) [] .nil))) (.seq .nev .skip) .skip) .skip)
def f_need_saying : Fn := ⟨"need_saying", ["thing"], 1, [], ["thing"], b_need_saying⟩
def d_need_saying : He.DefD := ⟨("need_saying", none), "need_saying", "need_saying", defArgs (top 19), defBody (top 19), defScope (top 19), [], []⟩
def b_is_price : C := (.seq (.ite (.v (.var 1)) (.seq (.ret (.bop .And (.cons (.call "is_whole" (.cons (.var 0) .nil) [] .nil) (.cons (.cmp .Eq (.var 0) (.cst (.int 0))) .nil)))) .skip) .skip) (.seq (.ret (.bop .Or (.cons (.cmp .Is (.var 0) (.cst .non)) (.cons (.bop .And (.cons (.call "is_whole" (.cons (.var 0) .nil) [] .nil) (.cons (.cmp2 .LtE .LtE (.cst (.int 1)) (.var 0) (.gc "DEAR" (.int 99))) .nil))) .nil)))) .skip))
def f_is_price : Fn := ⟨"is_price", ["thing", "own"], 2, [], ["thing", "own"], b_is_price⟩
def d_is_price : He.DefD := ⟨("is_price", none), "is_price", "is_price", defArgs (top 22), defBody (top 22), defScope (top 22), [], []⟩
def c_are_prices_0 : Cl := (.gen (.tup (.cons (.v 4) (.cons (.v 5) .nil))) [4, 5] (.enm (.var 3)) .nil (.fin (.call "is_price" (.cons (.var 5) (.cons (.cmp .Eq (.var 4) (.var 2)) .nil)) [] .nil)))
def b_are_prices_1 : C := (.seq (.ite (.bop .Or (.cons (.not_ (.v (.call "is_row" (.cons (.var 3) (.cons (.var 0) .nil)) [] .nil))) (.cons (.not_ (.v (.bl .all (.cons (.lc c_are_prices_0) .nil)))) .nil))) (.seq (.ret (.cst (.bl false))) .skip) .skip) .skip)
def b_are_prices : C := (.seq (.ite (.cmp .Is (.var 1) (.cst .non)) (.seq (.ret (.cst (.bl true))) .skip) .skip) (.seq (.ite (.not_ (.v (.call "is_row" (.cons (.var 1) (.cons (.var 0) .nil)) [] .nil))) (.seq (.ret (.cst (.bl false))) .skip) .skip) (.seq (.for_ (.tup (.cons (.v 2) (.cons (.v 3) .nil))) (.enm (.var 1)) b_are_prices_1) (.seq (.ret (.cst (.bl true))) .skip))))
def f_are_prices : Fn := ⟨"are_prices", ["deeds", "thing"], 2, [], ["deeds", "thing", "wanted", "row", "given", "price"], b_are_prices⟩
def d_are_prices : He.DefD := ⟨("are_prices", none), "are_prices", "are_prices", defArgs (top 23), defBody (top 23), defScope (top 23), [], []⟩
def b_is_cell : C := (.seq (.ret (.bop .And (.cons (.call "is_row" (.cons (.var 0) (.cons (.cst (.int 2)) .nil)) [] .nil) (.cons (.call "is_below" (.cons (.idx (.var 0) (.cst (.int 0))) (.cons (.var 1) .nil)) [] .nil) (.cons (.call "is_below" (.cons (.idx (.var 0) (.cst (.int 1))) (.cons (.var 2) .nil)) [] .nil) .nil))))) .skip)
def f_is_cell : Fn := ⟨"is_cell", ["thing", "deeds", "many"], 3, [], ["thing", "deeds", "many"], b_is_cell⟩
def d_is_cell : He.DefD := ⟨("is_cell", none), "is_cell", "is_cell", defArgs (top 25), defBody (top 25), defScope (top 25), [], []⟩
def c_is_state_0 : Cl := (.gen (.v 5) [5] (.val (.var 4)) .nil (.fin (.call "is_cell" (.cons (.var 5) (.cons (.var 2) (.cons (.var 3) .nil))) [] .nil)))
def b_is_state_1 : C := (.seq (.ite (.bop .Or (.cons (.not_ (.v (.call "is_row" (.cons (.var 4) (.cons (.var 2) .nil)) [] .nil))) (.cons (.not_ (.v (.bl .all (.cons (.lc c_is_state_0) .nil)))) .nil))) (.seq (.ret (.cst (.bl false))) .skip) .skip) .skip)
def b_is_state : C := (.seq (.ite (.not_ (.v (.call "is_row" (.cons (.var 0) (.cons (.var 1) .nil)) [] .nil))) (.seq (.ret (.cst (.bl false))) .skip) .skip) (.seq (.for_ (.v 4) (.val (.var 0)) b_is_state_1) (.seq (.ret (.cst (.bl true))) .skip)))
def f_is_state : Fn := ⟨"is_state", ["thing", "signs", "deeds", "many"], 4, [], ["thing", "signs", "deeds", "many", "row", "cell"], b_is_state⟩
def d_is_state : He.DefD := ⟨("is_state", none), "is_state", "is_state", defArgs (top 26), defBody (top 26), defScope (top 26), [], []⟩
def c_is_watcher_0 : Cl := (.gen (.v 4) [4] (.val (.var 3)) .nil (.fin (.call "is_state" (.cons (.var 4) (.cons (.var 1) (.cons (.var 2) (.cons (.bl .len (.cons (.var 3) .nil)) .nil)))) [] .nil)))
def b_is_watcher : C := (.seq (.ite (.not_ (.v (.call "is_row" (.cons (.var 0) (.cons (.cst (.int 3)) .nil)) [] .nil))) (.seq (.ret (.cst (.bl false))) .skip) .skip) (.seq (.set (.tup (.cons (.v 1) (.cons (.v 2) (.cons (.v 3) .nil)))) (.var 0)) (.seq (.ite (.bop .Or (.cons (.not_ (.v (.call "is_count" (.cons (.var 1) .nil) [] .nil))) (.cons (.not_ (.v (.call "is_count" (.cons (.var 2) .nil) [] .nil))) (.cons (.not_ (.v (.isi (.var 3) [.tuple]))) .nil)))) (.seq (.ret (.cst (.bl false))) .skip) .skip) (.seq (.ret (.bop .And (.cons (.cmp2 .LtE .LtE (.cst (.int 1)) (.bl .len (.cons (.var 3) .nil)) (.gc "MOST" (.int 100))) (.cons (.bl .all (.cons (.lc c_is_watcher_0) .nil)) .nil)))) .skip))))
def f_is_watcher : Fn := ⟨"is_watcher", ["thing"], 1, [], ["thing", "signs", "deeds", "states", "state"], b_is_watcher⟩
def d_is_watcher : He.DefD := ⟨("is_watcher", none), "is_watcher", "is_watcher", defArgs (top 27), defBody (top 27), defScope (top 27), [], []⟩
def b_need_watcher : C := (.seq (.ite (.not_ (.v (.call "is_watcher" (.cons (.var 0) .nil) [] .nil))) (.seq .nev .skip) .skip) .skip)
def f_need_watcher : Fn := ⟨"need_watcher", ["thing"], 1, [], ["thing"], b_need_watcher⟩
def d_need_watcher : He.DefD := ⟨("need_watcher", none), "need_watcher", "need_watcher", defArgs (top 28), defBody (top 28), defScope (top 28), [], []⟩
def b_is_go : C := (.seq (.ret (.bop .And (.cons (.call "is_row" (.cons (.var 0) (.cons (.cst (.int 2)) .nil)) [] .nil) (.cons (.call "is_below" (.cons (.idx (.var 0) (.cst (.int 0))) (.cons (.var 1) .nil)) [] .nil) (.cons (.call "is_below" (.cons (.idx (.var 0) (.cst (.int 1))) (.cons (.var 2) .nil)) [] .nil) .nil))))) .skip)
def f_is_go : Fn := ⟨"is_go", ["thing", "deeds", "many"], 3, [], ["thing", "deeds", "many"], b_is_go⟩
def d_is_go : He.DefD := ⟨("is_go", none), "is_go", "is_go", defArgs (top 30), defBody (top 30), defScope (top 30), [], []⟩
def c_is_machine_0 : Cl := (.gen (.v 5) [5] (.val (.var 4)) .nil (.fin (.call "is_go" (.cons (.var 5) (.cons (.var 2) (.cons (.bl .len (.cons (.var 3) .nil)) .nil))) [] .nil)))
def b_is_machine_1 : C := (.seq (.ite (.bop .Or (.cons (.not_ (.v (.call "is_row" (.cons (.var 4) (.cons (.var 1) .nil)) [] .nil))) (.cons (.not_ (.v (.bl .all (.cons (.lc c_is_machine_0) .nil)))) .nil))) (.seq (.ret (.cst (.bl false))) .skip) .skip) .skip)
def b_is_machine : C := (.seq (.ite (.not_ (.v (.call "is_row" (.cons (.var 0) (.cons (.cst (.int 3)) .nil)) [] .nil))) (.seq (.ret (.cst (.bl false))) .skip) .skip) (.seq (.set (.tup (.cons (.v 1) (.cons (.v 2) (.cons (.v 3) .nil)))) (.var 0)) (.seq (.ite (.bop .Or (.cons (.not_ (.v (.call "is_count" (.cons (.var 1) .nil) [] .nil))) (.cons (.not_ (.v (.call "is_count" (.cons (.var 2) .nil) [] .nil))) (.cons (.not_ (.v (.isi (.var 3) [.tuple]))) (.cons (.not_ (.cmp2 .LtE .LtE (.cst (.int 1)) (.bl .len (.cons (.var 3) .nil)) (.gc "MOST" (.int 100)))) .nil))))) (.seq (.ret (.cst (.bl false))) .skip) .skip) (.seq (.for_ (.v 4) (.val (.var 3)) b_is_machine_1) (.seq (.ret (.cst (.bl true))) .skip)))))
def f_is_machine : Fn := ⟨"is_machine", ["thing"], 1, [], ["thing", "signs", "deeds", "rooms", "row", "one"], b_is_machine⟩
def d_is_machine : He.DefD := ⟨("is_machine", none), "is_machine", "is_machine", defArgs (top 31), defBody (top 31), defScope (top 31), [], []⟩
def b_need_machine : C := (.seq (.ite (.not_ (.v (.call "is_machine" (.cons (.var 0) .nil) [] .nil))) (.seq .nev .skip) .skip) .skip)
def f_need_machine : Fn := ⟨"need_machine", ["thing"], 1, [], ["thing"], b_need_machine⟩
def d_need_machine : He.DefD := ⟨("need_machine", none), "need_machine", "need_machine", defArgs (top 32), defBody (top 32), defScope (top 32), [], []⟩
def b_part_text : C := (.seq (.ret (.ite (.cmp .Is (.var 0) (.cst .non)) (.gc "NONE" (.str "x")) (.bl .str (.cons (.var 0) .nil)))) .skip)
def f_part_text : Fn := ⟨"part_text", ["part"], 1, [], ["part"], b_part_text⟩
def d_part_text : He.DefD := ⟨("part_text", none), "part_text", "part_text", defArgs (top 36), defBody (top 36), defScope (top 36), [], []⟩
def b_pair_text : C := (.seq (.set (.tup (.cons (.v 1) (.cons (.v 2) .nil))) (.var 0)) (.seq (.ret (.fs (.cons (.fmt (.var 1)) (.cons (.cst (.str ":")) (.cons (.fmt (.var 2)) .nil))))) .skip))
def f_pair_text : Fn := ⟨"pair_text", ["pair"], 1, [], ["pair", "one", "other"], b_pair_text⟩
def d_pair_text : He.DefD := ⟨("pair_text", none), "pair_text", "pair_text", defArgs (top 37), defBody (top 37), defScope (top 37), [], []⟩
def c_rows_text_0 : Cl := (.gen (.v 1) [1] (.val (.var 0)) .nil (.fin (.mt .join (.cst (.str " ")) (.cons (.var 1) .nil))))
def b_rows_text : C := (.seq (.ret (.mt .join (.cst (.str " / ")) (.cons (.lc c_rows_text_0) .nil))) .skip)
def f_rows_text : Fn := ⟨"rows_text", ["rows"], 1, [], ["rows", "words"], b_rows_text⟩
def d_rows_text : He.DefD := ⟨("rows_text", none), "rows_text", "rows_text", defArgs (top 38), defBody (top 38), defScope (top 38), [], []⟩
def c_table_text_0 : Cl := (.gen (.v 5) [5] (.val (.var 4)) .nil (.fin (.callv 1 (.cons (.var 5) .nil))))
def b_table_text : C := (.seq (.set (.tup (.cons (.v 2) (.cons (.v 3) (.cons (.v 4) .nil)))) (.var 0)) (.seq (.ret (.call "rows_text" (.cons (.binL .Add (.lst (.cons (.lst (.cons (.bl .str (.cons (.var 2) .nil)) (.cons (.bl .str (.cons (.var 3) .nil)) .nil))) .nil)) (.lc c_table_text_0)) .nil) [] .nil)) .skip))
def f_table_text : Fn := ⟨"table_text", ["table", "words_of"], 2, [], ["table", "words_of", "signs", "deeds", "rooms", "room"], b_table_text⟩
def d_table_text : He.DefD := ⟨("table_text", none), "table_text", "table_text", defArgs (top 39), defBody (top 39), defScope (top 39), [], []⟩
def c_saying_words_0 : Cl := (.gen (.v 1) [1, 2] (.val (.var 0)) .nil (.gen (.v 2) [2] (.val (.var 1)) .nil (.fin (.call "part_text" (.cons (.var 2) .nil) [] .nil))))
def b_saying_words : C := (.seq (.ret (.lc c_saying_words_0)) .skip)
def f_saying_words : Fn := ⟨"saying_words", ["room"], 1, [], ["room", "row", "behind"], b_saying_words⟩
def d_saying_words : He.DefD := ⟨("saying_words", none), "saying_words", "saying_words", defArgs (top 40), defBody (top 40), defScope (top 40), [], []⟩
def c_watcher_words_0 : Cl := (.gen (.v 1) [1, 2] (.val (.var 0)) .nil (.gen (.v 2) [2] (.val (.var 1)) .nil (.fin (.call "pair_text" (.cons (.var 2) .nil) [] .nil))))
def b_watcher_words : C := (.seq (.ret (.lc c_watcher_words_0)) .skip)
def f_watcher_words : Fn := ⟨"watcher_words", ["state"], 1, [], ["state", "row", "cell"], b_watcher_words⟩
def d_watcher_words : He.DefD := ⟨("watcher_words", none), "watcher_words", "watcher_words", defArgs (top 41), defBody (top 41), defScope (top 41), [], []⟩
def c_machine_words_0 : Cl := (.gen (.v 1) [1] (.val (.var 0)) .nil (.fin (.call "pair_text" (.cons (.var 1) .nil) [] .nil)))
def b_machine_words : C := (.seq (.ret (.lc c_machine_words_0)) .skip)
def f_machine_words : Fn := ⟨"machine_words", ["room"], 1, [], ["room", "one"], b_machine_words⟩
def d_machine_words : He.DefD := ⟨("machine_words", none), "machine_words", "machine_words", defArgs (top 42), defBody (top 42), defScope (top 42), [], []⟩
def b_saying_text : C := (.seq (.ex (.call "need_saying" (.cons (.var 0) .nil) [] .nil)) (.seq (.ret (.call "table_text" (.cons (.var 0) (.cons (.fnv "saying_words") .nil)) [] .nil)) .skip))
def f_saying_text : Fn := ⟨"saying_text", ["saying"], 1, [], ["saying"], b_saying_text⟩
def d_saying_text : He.DefD := ⟨("saying_text", none), "saying_text", "saying_text", defArgs (top 43), defBody (top 43), defScope (top 43), [], []⟩
def b_watcher_text : C := (.seq (.ex (.call "need_watcher" (.cons (.var 0) .nil) [] .nil)) (.seq (.ret (.call "table_text" (.cons (.var 0) (.cons (.fnv "watcher_words") .nil)) [] .nil)) .skip))
def f_watcher_text : Fn := ⟨"watcher_text", ["watcher"], 1, [], ["watcher"], b_watcher_text⟩
def d_watcher_text : He.DefD := ⟨("watcher_text", none), "watcher_text", "watcher_text", defArgs (top 44), defBody (top 44), defScope (top 44), [], []⟩
def b_machine_text : C := (.seq (.ex (.call "need_machine" (.cons (.var 0) .nil) [] .nil)) (.seq (.ret (.call "table_text" (.cons (.var 0) (.cons (.fnv "machine_words") .nil)) [] .nil)) .skip))
def f_machine_text : Fn := ⟨"machine_text", ["machine"], 1, [], ["machine"], b_machine_text⟩
def d_machine_text : He.DefD := ⟨("machine_text", none), "machine_text", "machine_text", defArgs (top 45), defBody (top 45), defScope (top 45), [], []⟩
def c_prices_text_0 : Cl := (.gen (.v 1) [1] (.val (.var 2)) .nil (.fin (.call "part_text" (.cons (.var 1) .nil) [] .nil)))
def c_prices_text_1 : Cl := (.gen (.v 2) [2] (.val (.var 0)) .nil (.fin (.lc c_prices_text_0)))
def b_prices_text : C := (.seq (.ite (.cmp .Is (.var 0) (.cst .non)) (.seq (.ret (.cst (.str "even"))) .skip) .skip) (.seq (.ite (.bop .Or (.cons (.not_ (.v (.isi (.var 0) [.tuple]))) (.cons (.not_ (.cmp2 .LtE .LtE (.cst (.int 1)) (.bl .len (.cons (.var 0) .nil)) (.gc "WIDE" (.int 9)))) (.cons (.not_ (.v (.call "are_prices" (.cons (.bl .len (.cons (.var 0) .nil)) (.cons (.var 0) .nil)) [] .nil))) .nil)))) (.seq .nev .skip) .skip) (.seq (.ret (.call "rows_text" (.cons (.lc c_prices_text_1) .nil) [] .nil)) .skip)))
def f_prices_text : Fn := ⟨"prices_text", ["prices"], 1, [], ["prices", "price", "row"], b_prices_text⟩
def d_prices_text : He.DefD := ⟨("prices_text", none), "prices_text", "prices_text", defArgs (top 46), defBody (top 46), defScope (top 46), [], []⟩
def c_run_text_0 : Cl := (.gen (.v 1) [1] (.val (.var 0)) .nil (.fin (.call "pair_text" (.cons (.var 1) .nil) [] .nil)))
def b_run_text : C := (.seq (.ite (.not_ (.v (.call "are_steps" (.cons (.var 0) (.cons (.gc "WIDE" (.int 9)) (.cons (.gc "WIDE" (.int 9)) .nil))) [] .nil))) (.seq .nev .skip) .skip) (.seq (.ret (.ite (.v (.var 0)) (.mt .join (.cst (.str " ")) (.cons (.lc c_run_text_0) .nil)) (.cst (.str "-")))) .skip))
def f_run_text : Fn := ⟨"run_text", ["run"], 1, [], ["run", "step"], b_run_text⟩
def d_run_text : He.DefD := ⟨("run_text", none), "run_text", "run_text", defArgs (top 47), defBody (top 47), defScope (top 47), [], []⟩
def c_number_in_0 : Cl := (.gen (.v 1) [1] (.val (.var 0)) .nil (.fin (.cmp .In (.var 1) (.gc "FIGURES" (.str "0123456789")))))
def b_number_in : C := (.seq (.ite (.bop .Or (.cons (.cmp .Eq (.var 0) (.cst (.str ""))) (.cons (.cmp .Gt (.bl .len (.cons (.var 0) .nil)) (.cst (.int 2))) (.cons (.bop .And (.cons (.cmp .Eq (.idx (.var 0) (.cst (.int 0))) (.cst (.str "0"))) (.cons (.cmp .NotEq (.var 0) (.cst (.str "0"))) .nil))) (.cons (.not_ (.v (.bl .all (.cons (.lc c_number_in_0) .nil)))) .nil))))) (.seq .nev .skip) .skip) (.seq (.ret (.bl .int (.cons (.var 0) .nil))) .skip))
def f_number_in : Fn := ⟨"number_in", ["word"], 1, [], ["word", "sign"], b_number_in⟩
def d_number_in : He.DefD := ⟨("number_in", none), "number_in", "number_in", defArgs (top 48), defBody (top 48), defScope (top 48), [], []⟩
def b_part_in : C := (.seq (.ret (.ite (.cmp .Eq (.var 0) (.gc "NONE" (.str "x"))) (.cst .non) (.call "number_in" (.cons (.var 0) .nil) [] .nil))) .skip)
def f_part_in : Fn := ⟨"part_in", ["word"], 1, [], ["word"], b_part_in⟩
def d_part_in : He.DefD := ⟨("part_in", none), "part_in", "part_in", defArgs (top 49), defBody (top 49), defScope (top 49), [], []⟩
def b_pair_in : C := (.seq (.setO 1 (.mtF .split (.var 0) (.cons (.cst (.str ":")) .nil))) (.seq (.ite (.cmp .NotEq (.bl .len (.cons (.var 1) .nil)) (.cst (.int 2))) (.seq .nev .skip) .skip) (.seq (.ret (.tup (.cons (.call "number_in" (.cons (.idx (.var 1) (.cst (.int 0))) .nil) [] .nil) (.cons (.call "number_in" (.cons (.idx (.var 1) (.cst (.int 1))) .nil) [] .nil) .nil)))) .skip)))
def f_pair_in : Fn := ⟨"pair_in", ["word"], 1, [], ["word", "parts"], b_pair_in⟩
def d_pair_in : He.DefD := ⟨("pair_in", none), "pair_in", "pair_in", defArgs (top 50), defBody (top 50), defScope (top 50), [], []⟩
def c_rows_in_0 : Cl := (.gen (.v 1) [1] (.val (.mtF .split (.var 0) (.cons (.cst (.str " / ")) .nil))) .nil (.fin (.mtF .split (.var 1) (.cons (.cst (.str " ")) .nil))))
def b_rows_in : C := (.seq (.ite (.not_ (.v (.isi (.var 0) [.str]))) (.seq .nev .skip) .skip) (.seq (.ret (.lc c_rows_in_0)) .skip))
def f_rows_in : Fn := ⟨"rows_in", ["text"], 1, [], ["text", "words"], b_rows_in⟩
def d_rows_in : He.DefD := ⟨("rows_in", none), "rows_in", "rows_in", defArgs (top 51), defBody (top 51), defScope (top 51), [], []⟩
def c_parted_0 : Cl := (.gen (.v 2) [2] (.rng3 (.cst (.int 0)) (.bl .len (.cons (.var 0) .nil)) (.var 1)) .nil (.fin (.bl .tuple (.cons (.slL (.var 0) (.var 2) (.bin .Add (.var 2) (.var 1))) .nil))))
def b_parted : C := (.seq (.ret (.bl .tuple (.cons (.lc c_parted_0) .nil))) .skip)
def f_parted : Fn := ⟨"parted", ["parts", "many"], 2, [], ["parts", "many", "at"], b_parted⟩
def d_parted : He.DefD := ⟨("parted", none), "parted", "parted", defArgs (top 52), defBody (top 52), defScope (top 52), [], []⟩
def c_table_in_0 : Cl := (.gen (.v 4) [4] (.val (.var 5)) .nil (.fin (.callv 1 (.cons (.var 4) .nil))))
def c_table_in_1 : Cl := (.gen (.v 5) [5] (.val (.var 3)) .nil (.fin (.lc c_table_in_0)))
def b_table_in : C := (.seq (.set (.tupS 1 (.cons (.v 2) (.cons (.v 3) .nil))) (.call "rows_in" (.cons (.var 0) .nil) [] .nil)) (.seq (.ite (.cmp .NotEq (.bl .len (.cons (.var 2) .nil)) (.cst (.int 2))) (.seq .nev .skip) .skip) (.seq (.ret (.tup (.cons (.call "number_in" (.cons (.idx (.var 2) (.cst (.int 0))) .nil) [] .nil) (.cons (.call "number_in" (.cons (.idx (.var 2) (.cst (.int 1))) .nil) [] .nil) (.cons (.lc c_table_in_1) .nil))))) .skip)))
def f_table_in : Fn := ⟨"table_in", ["text", "part_of"], 2, [], ["text", "part_of", "head", "rooms", "word", "words"], b_table_in⟩
def d_table_in : He.DefD := ⟨("table_in", none), "table_in", "table_in", defArgs (top 53), defBody (top 53), defScope (top 53), [], []⟩
def c_read_by_deeds_0 : Cl := (.gen (.v 5) [5] (.val (.var 4)) .nil (.fin (.call "parted" (.cons (.var 5) (.cons (.var 3) .nil)) [] .nil)))
def b_read_by_deeds : C := (.seq (.set (.tup (.cons (.v 2) (.cons (.v 3) (.cons (.v 4) .nil)))) (.call "table_in" (.cons (.var 0) (.cons (.var 1) .nil)) [] .nil)) (.seq (.ite (.cmp .Eq (.var 3) (.cst (.int 0))) (.seq .nev .skip) .skip) (.seq (.ret (.tup (.cons (.var 2) (.cons (.var 3) (.cons (.bl .tuple (.cons (.lc c_read_by_deeds_0) .nil)) .nil))))) .skip)))
def f_read_by_deeds : Fn := ⟨"read_by_deeds", ["text", "part_of"], 2, [], ["text", "part_of", "signs", "deeds", "rooms", "parts"], b_read_by_deeds⟩
def d_read_by_deeds : He.DefD := ⟨("read_by_deeds", none), "read_by_deeds", "read_by_deeds", defArgs (top 54), defBody (top 54), defScope (top 54), [], []⟩
def b_read_saying : C := (.seq (.set (.v 1) (.call "read_by_deeds" (.cons (.var 0) (.cons (.fnv "part_in") .nil)) [] .nil)) (.seq (.ite (.not_ (.v (.call "is_saying" (.cons (.var 1) .nil) [] .nil))) (.seq .nev .skip) .skip) (.seq (.ret (.var 1)) .skip)))
def f_read_saying : Fn := ⟨"read_saying", ["text"], 1, [], ["text", "saying"], b_read_saying⟩
def d_read_saying : He.DefD := ⟨("read_saying", none), "read_saying", "read_saying", defArgs (top 55), defBody (top 55), defScope (top 55), [], []⟩
def b_read_watcher : C := (.seq (.set (.v 1) (.call "read_by_deeds" (.cons (.var 0) (.cons (.fnv "pair_in") .nil)) [] .nil)) (.seq (.ite (.not_ (.v (.call "is_watcher" (.cons (.var 1) .nil) [] .nil))) (.seq .nev .skip) .skip) (.seq (.ret (.var 1)) .skip)))
def f_read_watcher : Fn := ⟨"read_watcher", ["text"], 1, [], ["text", "watcher"], b_read_watcher⟩
def d_read_watcher : He.DefD := ⟨("read_watcher", none), "read_watcher", "read_watcher", defArgs (top 56), defBody (top 56), defScope (top 56), [], []⟩
def c_read_machine_0 : Cl := (.gen (.v 5) [5] (.val (.var 3)) .nil (.fin (.bl .tuple (.cons (.var 5) .nil))))
def b_read_machine : C := (.seq (.set (.tup (.cons (.v 1) (.cons (.v 2) (.cons (.v 3) .nil)))) (.call "table_in" (.cons (.var 0) (.cons (.fnv "pair_in") .nil)) [] .nil)) (.seq (.set (.v 4) (.tup (.cons (.var 1) (.cons (.var 2) (.cons (.bl .tuple (.cons (.lc c_read_machine_0) .nil)) .nil))))) (.seq (.ite (.not_ (.v (.call "is_machine" (.cons (.var 4) .nil) [] .nil))) (.seq .nev .skip) .skip) (.seq (.ret (.var 4)) .skip))))
def f_read_machine : Fn := ⟨"read_machine", ["text"], 1, [], ["text", "signs", "deeds", "rooms", "machine", "parts"], b_read_machine⟩
def d_read_machine : He.DefD := ⟨("read_machine", none), "read_machine", "read_machine", defArgs (top 57), defBody (top 57), defScope (top 57), [], []⟩
def c_read_prices_0 : Cl := (.gen (.v 2) [2] (.val (.var 3)) .nil (.fin (.call "part_in" (.cons (.var 2) .nil) [] .nil)))
def c_read_prices_1 : Cl := (.gen (.v 3) [3] (.val (.call "rows_in" (.cons (.var 0) .nil) [] .nil)) .nil (.fin (.bl .tuple (.cons (.lc c_read_prices_0) .nil))))
def b_read_prices : C := (.seq (.ite (.cmp .Eq (.var 0) (.cst (.str "even"))) (.seq (.ret (.gc "EVEN" .non)) .skip) .skip) (.seq (.set (.v 1) (.bl .tuple (.cons (.lc c_read_prices_1) .nil))) (.seq (.ite (.bop .Or (.cons (.cmp .Gt (.bl .len (.cons (.var 1) .nil)) (.gc "WIDE" (.int 9))) (.cons (.not_ (.v (.call "are_prices" (.cons (.bl .len (.cons (.var 1) .nil)) (.cons (.var 1) .nil)) [] .nil))) .nil))) (.seq .nev .skip) .skip) (.seq (.ret (.var 1)) .skip))))
def f_read_prices : Fn := ⟨"read_prices", ["text"], 1, [], ["text", "prices", "word", "words"], b_read_prices⟩
def d_read_prices : He.DefD := ⟨("read_prices", none), "read_prices", "read_prices", defArgs (top 58), defBody (top 58), defScope (top 58), [], []⟩
def c_read_run_0 : Cl := (.gen (.v 2) [2, 3] (.val (.call "rows_in" (.cons (.var 0) .nil) [] .nil)) .nil (.gen (.v 3) [3] (.val (.var 2)) .nil (.fin (.call "pair_in" (.cons (.var 3) .nil) [] .nil))))
def b_read_run : C := (.seq (.ite (.cmp .Eq (.var 0) (.cst (.str "-"))) (.seq (.ret (.tup .nil)) .skip) .skip) (.seq (.set (.v 1) (.bl .tuple (.cons (.lc c_read_run_0) .nil))) (.seq (.ite (.bop .Or (.cons (.cmp .In (.cst (.str " / ")) (.var 0)) (.cons (.not_ (.v (.call "are_steps" (.cons (.var 1) (.cons (.gc "WIDE" (.int 9)) (.cons (.gc "WIDE" (.int 9)) .nil))) [] .nil))) .nil))) (.seq .nev .skip) .skip) (.seq (.ret (.var 1)) .skip))))
def f_read_run : Fn := ⟨"read_run", ["text"], 1, [], ["text", "run", "words", "word"], b_read_run⟩
def d_read_run : He.DefD := ⟨("read_run", none), "read_run", "read_run", defArgs (top 59), defBody (top 59), defScope (top 59), [], []⟩
def b__law_pot : C := (.seq (.set (.v 2) (.cst (.int 0))) (.seq (.ite (.cmp .Lt (.var 1) (.bl .len (.cons (.var 0) .nil))) (.seq (.set (.v 2) (.bin .Mod (.bl .abs (.cons (.idx (.var 0) (.var 1)) .nil)) (.bin .Pow (.bin .Pow (.cst (.int 10)) (.cst (.int 60))) (.cst (.int 10))))) .skip) .skip) (.seq (.ret (.new (.cons (.bin .Mult (.var 2) (.bl .int (.cons (.cmp .GtE (.var 2) (.bin .Pow (.cst (.int 10)) (.cst (.int 18)))) .nil))) (.cons (.bin .Mod (.bin .Pow (.bin .Add (.bin .Add (.bin .Mod (.var 2) (.cst (.int 2147483629))) (.bin .Mult (.cst (.int 7919)) (.var 1))) (.cst (.int 1))) (.cst (.int 5))) (.cst (.int 2305843009213693951))) (.cons (.cst (.int 0)) .nil))))) .skip)))
def f__law_pot : Fn := ⟨"_law_pot", ["script", "k"], 2, [], ["script", "k", "cell"], b__law_pot⟩
def d__law_pot : He.DefD := ⟨("_law_pot", none), "_law_pot", "_law_pot", defArgs (top 61), defBody (top 61), defScope (top 61), [], []⟩
def b__law_take : C := (.seq (.ite (.cmp .Gt (.idx (.var 0) (.cst (.int 0))) (.cst (.int 0))) (.seq (.set (.v 2) (.bin .Mod (.idx (.var 0) (.cst (.int 0))) (.var 1))) (.seq (.seti (.var 0) (.cst (.int 0)) (.bin .FloorDiv (.idx (.var 0) (.cst (.int 0))) (.var 1))) (.seq (.ret (.var 2)) .skip))) .skip) (.seq (.seti (.var 0) (.cst (.int 2)) (.bin .Add (.idx (.var 0) (.cst (.int 2))) (.cst (.int 1)))) (.seq (.set (.v 3) (.bin .Mod (.bin .Pow (.bin .Add (.idx (.var 0) (.cst (.int 1))) (.bin .Mult (.cst (.int 104729)) (.idx (.var 0) (.cst (.int 2))))) (.cst (.int 3))) (.cst (.int 2305843009213693921)))) (.seq (.set (.v 4) (.bin .Mod (.bin .Pow (.bin .Add (.bin .Add (.var 3) (.bin .Mod (.idx (.var 0) (.cst (.int 1))) (.cst (.int 65537)))) (.bin .Mult (.cst (.int 31)) (.idx (.var 0) (.cst (.int 2))))) (.cst (.int 5))) (.cst (.int 2305843009213693907)))) (.seq (.ret (.bin .Mod (.bin .FloorDiv (.var 4) (.cst (.int 1024))) (.var 1))) .skip)))))
def f__law_take : Fn := ⟨"_law_take", ["pot", "many"], 2, [], ["pot", "many", "found", "one", "other"], b__law_take⟩
def d__law_take : He.DefD := ⟨("_law_take", none), "_law_take", "_law_take", defArgs (top 62), defBody (top 62), defScope (top 62), [], []⟩
def c__law_same_0 : Cl := (.gen (.tup (.cons (.v 2) (.cons (.v 3) .nil))) [2, 3] (.zip (.var 0) (.var 1)) .nil (.fin (.call "_law_same" (.cons (.var 2) (.cons (.var 3) .nil)) [] .nil)))
def b__law_same : C := (.seq (.ite (.v (.isi (.var 1) [.tuple])) (.seq (.ite (.bop .Or (.cons (.not_ (.v (.isi (.var 0) [.tuple]))) (.cons (.cmp .NotEq (.bl .len (.cons (.var 0) .nil)) (.bl .len (.cons (.var 1) .nil))) .nil))) (.seq (.ret (.cst (.bl false))) .skip) .skip) (.seq (.ret (.bl .all (.cons (.lc c__law_same_0) .nil))) .skip)) .skip) (.seq (.ite (.cmp .Is (.var 1) (.cst .non)) (.seq (.ret (.cmp .Is (.var 0) (.cst .non))) .skip) .skip) (.seq (.ite (.v (.isi (.var 1) [.str, .bool])) (.seq (.ret (.bop .And (.cons (.isi (.var 0) [.str, .bool]) (.cons (.cmp .Eq (.isi (.var 0) [.bool]) (.isi (.var 1) [.bool])) (.cons (.cmp .Eq (.var 0) (.var 1)) .nil))))) .skip) .skip) (.seq (.ret (.bop .And (.cons (.isi (.var 0) [.int]) (.cons (.not_ (.isi (.var 0) [.bool])) (.cons (.cmp .Eq (.var 0) (.var 1)) .nil))))) .skip))))
def f__law_same : Fn := ⟨"_law_same", ["found", "due"], 2, [], ["found", "due", "one", "other"], b__law_same⟩
def d__law_same : He.DefD := ⟨("_law_same", none), "_law_same", "_law_same", defArgs (top 63), defBody (top 63), defScope (top 63), [], []⟩
def b__law_room : C := (.seq (.ite (.cmp .Eq (.call "_law_take" (.cons (.var 0) (.cons (.var 2) .nil)) [] .nil) (.cst (.int 0))) (.seq (.ret (.cst .non)) .skip) .skip) (.seq (.ret (.call "_law_take" (.cons (.var 0) (.cons (.var 1) .nil)) [] .nil)) .skip))
def f__law_room : Fn := ⟨"_law_room", ["pot", "rooms", "rate"], 3, [], ["pot", "rooms", "rate"], b__law_room⟩
def d__law_room : He.DefD := ⟨("_law_room", none), "_law_room", "_law_room", defArgs (top 64), defBody (top 64), defScope (top 64), [], []⟩
def c__law_saying_0 : Cl := (.gen (.v 7) [7] (.rng1 (.var 2)) .nil (.fin (.call "_law_room" (.cons (.var 0) (.cons (.var 3) (.cons (.var 4) .nil))) [] .nil)))
def c__law_saying_1 : Cl := (.gen (.v 8) [8] (.rng1 (.var 1)) .nil (.fin (.bl .tuple (.cons (.lc c__law_saying_0) .nil))))
def b__law_saying_2 : C := (.seq (.app (.var 5) (.bl .tuple (.cons (.lc c__law_saying_1) .nil))) .skip)
def b__law_saying : C := (.seq (.setO 5 (.lst .nil)) (.seq (.for_ (.v 6) (.rng1 (.var 3)) b__law_saying_2) (.seq (.ret (.tup (.cons (.var 1) (.cons (.var 2) (.cons (.bl .tuple (.cons (.var 5) .nil)) .nil))))) .skip)))
def f__law_saying : Fn := ⟨"_law_saying", ["pot", "signs", "deeds", "rooms", "rate"], 5, [], ["pot", "signs", "deeds", "rooms", "rate", "table", "room", "d", "s"], b__law_saying⟩
def d__law_saying : He.DefD := ⟨("_law_saying", none), "_law_saying", "_law_saying", defArgs (top 65), defBody (top 65), defScope (top 65), [], []⟩
def b__law_price : C := (.seq (.ite (.cmp .Eq (.var 1) (.var 2)) (.seq (.ret (.cst (.int 0))) .skip) .skip) (.seq (.ite (.cmp .Eq (.call "_law_take" (.cons (.var 0) (.cons (.cst (.int 5)) .nil)) [] .nil) (.cst (.int 0))) (.seq (.ret (.cst .non)) .skip) .skip) (.seq (.ret (.bin .Add (.cst (.int 1)) (.call "_law_take" (.cons (.var 0) (.cons (.var 3) .nil)) [] .nil))) .skip)))
def f__law_price : Fn := ⟨"_law_price", ["pot", "wanted", "given", "top"], 4, [], ["pot", "wanted", "given", "top"], b__law_price⟩
def d__law_price : He.DefD := ⟨("_law_price", none), "_law_price", "_law_price", defArgs (top 66), defBody (top 66), defScope (top 66), [], []⟩
def c__law_prices_0 : Cl := (.gen (.v 3) [3] (.rng1 (.var 1)) .nil (.fin (.call "_law_price" (.cons (.var 0) (.cons (.var 4) (.cons (.var 3) (.cons (.var 2) .nil)))) [] .nil)))
def c__law_prices_1 : Cl := (.gen (.v 4) [4] (.rng1 (.var 1)) .nil (.fin (.bl .tuple (.cons (.lc c__law_prices_0) .nil))))
def b__law_prices : C := (.seq (.ite (.cmp .Eq (.call "_law_take" (.cons (.var 0) (.cons (.cst (.int 3)) .nil)) [] .nil) (.cst (.int 0))) (.seq (.ret (.cst .non)) .skip) .skip) (.seq (.ret (.bl .tuple (.cons (.lc c__law_prices_1) .nil))) .skip))
def f__law_prices : Fn := ⟨"_law_prices", ["pot", "deeds", "top"], 3, [], ["pot", "deeds", "top", "e", "d"], b__law_prices⟩
def d__law_prices : He.DefD := ⟨("_law_prices", none), "_law_prices", "_law_prices", defArgs (top 67), defBody (top 67), defScope (top 67), [], []⟩
def c__law_run_0 : Cl := (.gen (.v 4) [4] (.rng1 (.var 3)) .nil (.fin (.tup (.cons (.call "_law_take" (.cons (.var 0) (.cons (.var 1) .nil)) [] .nil) (.cons (.call "_law_take" (.cons (.var 0) (.cons (.var 2) .nil)) [] .nil) .nil)))))
def b__law_run : C := (.seq (.ret (.bl .tuple (.cons (.lc c__law_run_0) .nil))) .skip)
def f__law_run : Fn := ⟨"_law_run", ["pot", "signs", "deeds", "many"], 4, [], ["pot", "signs", "deeds", "many", "k"], b__law_run⟩
def d__law_run : He.DefD := ⟨("_law_run", none), "_law_run", "_law_run", defArgs (top 68), defBody (top 68), defScope (top 68), [], []⟩
def b__law_watcher_0 : C := (.seq (.set (.v 11) (.var 10)) (.seq (.ite (.cmp .Eq (.call "_law_take" (.cons (.var 0) (.cons (.var 4) .nil)) [] .nil) (.cst (.int 0))) (.seq (.set (.v 11) (.call "_law_take" (.cons (.var 0) (.cons (.var 2) .nil)) [] .nil)) .skip) .skip) (.seq (.app (.var 9) (.tup (.cons (.var 11) (.cons (.call "_law_take" (.cons (.var 0) (.cons (.var 3) .nil)) [] .nil) .nil)))) .skip)))
def b__law_watcher_1 : C := (.seq (.setO 9 (.lst .nil)) (.seq (.for_ (.v 10) (.rng1 (.var 2)) b__law_watcher_0) (.seq (.app (.var 7) (.bl .tuple (.cons (.var 9) .nil))) .skip)))
def b__law_watcher_2 : C := (.seq (.setO 7 (.lst .nil)) (.seq (.for_ (.v 8) (.rng1 (.var 1)) b__law_watcher_1) (.seq (.app (.var 5) (.bl .tuple (.cons (.var 7) .nil))) .skip)))
def b__law_watcher : C := (.seq (.setO 5 (.lst .nil)) (.seq (.for_ (.v 6) (.rng1 (.var 3)) b__law_watcher_2) (.seq (.ret (.tup (.cons (.var 1) (.cons (.var 2) (.cons (.bl .tuple (.cons (.var 5) .nil)) .nil))))) .skip)))
def f__law_watcher : Fn := ⟨"_law_watcher", ["pot", "signs", "deeds", "states", "rate"], 5, [], ["pot", "signs", "deeds", "states", "rate", "table", "state", "rows", "sign", "row", "wanted", "given"], b__law_watcher⟩
def d__law_watcher : He.DefD := ⟨("_law_watcher", none), "_law_watcher", "_law_watcher", defArgs (top 69), defBody (top 69), defScope (top 69), [], []⟩
def c__law_machine_0 : Cl := (.gen (.v 6) [6] (.rng1 (.var 1)) .nil (.fin (.tup (.cons (.call "_law_take" (.cons (.var 0) (.cons (.var 2) .nil)) [] .nil) (.cons (.call "_law_take" (.cons (.var 0) (.cons (.var 3) .nil)) [] .nil) .nil)))))
def b__law_machine_1 : C := (.seq (.app (.var 4) (.bl .tuple (.cons (.lc c__law_machine_0) .nil))) .skip)
def b__law_machine : C := (.seq (.setO 4 (.lst .nil)) (.seq (.for_ (.v 5) (.rng1 (.var 3)) b__law_machine_1) (.seq (.ret (.tup (.cons (.var 1) (.cons (.var 2) (.cons (.bl .tuple (.cons (.var 4) .nil)) .nil))))) .skip)))
def f__law_machine : Fn := ⟨"_law_machine", ["pot", "signs", "deeds", "rooms"], 4, [], ["pot", "signs", "deeds", "rooms", "table", "room", "sign"], b__law_machine⟩
def d__law_machine : He.DefD := ⟨("_law_machine", none), "_law_machine", "_law_machine", defArgs (top 70), defBody (top 70), defScope (top 70), [], []⟩
def b__law_sizes : C := (.seq (.ite (.cmp .Eq (.call "_law_take" (.cons (.var 0) (.cons (.cst (.int 8)) .nil)) [] .nil) (.cst (.int 0))) (.seq (.ret (.tup (.cons (.bin .Add (.cst (.int 1)) (.call "_law_take" (.cons (.var 0) (.cons (.cst (.int 2)) .nil)) [] .nil)) (.cons (.bin .Add (.cst (.int 1)) (.call "_law_take" (.cons (.var 0) (.cons (.cst (.int 2)) .nil)) [] .nil)) (.cons (.bin .Add (.cst (.int 1)) (.call "_law_take" (.cons (.var 0) (.cons (.cst (.int 100)) .nil)) [] .nil)) .nil))))) .skip) .skip) (.seq (.ret (.tup (.cons (.bin .Add (.cst (.int 1)) (.call "_law_take" (.cons (.var 0) (.cons (.cst (.int 9)) .nil)) [] .nil)) (.cons (.bin .Add (.cst (.int 1)) (.call "_law_take" (.cons (.var 0) (.cons (.cst (.int 9)) .nil)) [] .nil)) (.cons (.bin .Add (.cst (.int 1)) (.call "_law_take" (.cons (.var 0) (.cons (.cst (.int 5)) .nil)) [] .nil)) .nil))))) .skip))
def f__law_sizes : Fn := ⟨"_law_sizes", ["pot"], 1, [], ["pot"], b__law_sizes⟩
def d__law_sizes : He.DefD := ⟨("_law_sizes", none), "_law_sizes", "_law_sizes", defArgs (top 71), defBody (top 71), defScope (top 71), [], []⟩
def b__law_thing : C := (.seq (.set (.tup (.cons (.v 2) (.cons (.v 3) (.cons (.v 4) .nil)))) (.call "_law_sizes" (.cons (.var 0) .nil) [] .nil)) (.seq (.ite (.cmp .Eq (.var 1) (.cst (.int 0))) (.seq (.ret (.call "_law_saying" (.cons (.var 0) (.cons (.var 2) (.cons (.var 3) (.cons (.var 4) (.cons (.bin .Add (.cst (.int 1)) (.call "_law_take" (.cons (.var 0) (.cons (.cst (.int 4)) .nil)) [] .nil)) .nil))))) [] .nil)) .skip) .skip) (.seq (.ite (.cmp .Eq (.var 1) (.cst (.int 1))) (.seq (.ret (.call "_law_watcher" (.cons (.var 0) (.cons (.var 2) (.cons (.var 3) (.cons (.var 4) (.cons (.cst (.int 1)) .nil))))) [] .nil)) .skip) .skip) (.seq (.ite (.cmp .Eq (.var 1) (.cst (.int 2))) (.seq (.ret (.call "_law_machine" (.cons (.var 0) (.cons (.var 2) (.cons (.var 3) (.cons (.var 4) .nil)))) [] .nil)) .skip) .skip) (.seq (.ite (.cmp .Eq (.var 1) (.cst (.int 3))) (.seq (.ret (.call "_law_prices" (.cons (.var 0) (.cons (.var 3) (.cons (.cst (.int 99)) .nil))) [] .nil)) .skip) .skip) (.seq (.set (.v 5) (.idx (.lst (.cons (.call "_law_take" (.cons (.var 0) (.cons (.cst (.int 30)) .nil)) [] .nil) (.cons (.call "_law_take" (.cons (.var 0) (.cons (.cst (.int 300)) .nil)) [] .nil) .nil))) (.bl .int (.cons (.cmp .Eq (.call "_law_take" (.cons (.var 0) (.cons (.cst (.int 8)) .nil)) [] .nil) (.cst (.int 0))) .nil)))) (.seq (.ret (.call "_law_run" (.cons (.var 0) (.cons (.var 2) (.cons (.var 3) (.cons (.var 5) .nil)))) [] .nil)) .skip)))))))
def f__law_thing : Fn := ⟨"_law_thing", ["pot", "kind"], 2, [], ["pot", "kind", "signs", "deeds", "rooms", "many"], b__law_thing⟩
def d__law_thing : He.DefD := ⟨("_law_thing", none), "_law_thing", "_law_thing", defArgs (top 72), defBody (top 72), defScope (top 72), [], []⟩
def b__law_word : C := (.seq (.ite (.cmp .Is (.var 0) (.cst .non)) (.seq (.ret (.cst (.str "x"))) .skip) .skip) (.seq (.ite (.v (.isi (.var 0) [.int])) (.seq (.ret (.bl .str (.cons (.var 0) .nil))) .skip) .skip) (.seq (.ret (.bin .Add (.bin .Add (.bl .str (.cons (.idx (.var 0) (.cst (.int 0))) .nil)) (.cst (.str ":"))) (.bl .str (.cons (.idx (.var 0) (.cst (.int 1))) .nil)))) .skip)))
def f__law_word : Fn := ⟨"_law_word", ["part"], 1, [], ["part"], b__law_word⟩
def d__law_word : He.DefD := ⟨("_law_word", none), "_law_word", "_law_word", defArgs (top 73), defBody (top 73), defScope (top 73), [], []⟩
def c__law_lines_0 : Cl := (.gen (.v 1) [1] (.val (.var 2)) .nil (.fin (.call "_law_word" (.cons (.var 1) .nil) [] .nil)))
def c__law_lines_1 : Cl := (.gen (.v 2) [2] (.val (.var 0)) .nil (.fin (.mt .join (.cst (.str " ")) (.cons (.lc c__law_lines_0) .nil))))
def b__law_lines : C := (.seq (.ret (.mt .join (.cst (.str " / ")) (.cons (.lc c__law_lines_1) .nil))) .skip)
def f__law_lines : Fn := ⟨"_law_lines", ["rows"], 1, [], ["rows", "part", "row"], b__law_lines⟩
def d__law_lines : He.DefD := ⟨("_law_lines", none), "_law_lines", "_law_lines", defArgs (top 74), defBody (top 74), defScope (top 74), [], []⟩
def b__law_flat_0 : C := (.seq (.ext (.var 1) (.fl .list (.cons (.var 2) .nil))) .skip)
def b__law_flat : C := (.seq (.setO 1 (.lst .nil)) (.seq (.for_ (.v 2) (.val (.var 0)) b__law_flat_0) (.seq (.ret (.var 1)) .skip)))
def f__law_flat : Fn := ⟨"_law_flat", ["room"], 1, [], ["room", "found", "row"], b__law_flat⟩
def d__law_flat : He.DefD := ⟨("_law_flat", none), "_law_flat", "_law_flat", defArgs (top 75), defBody (top 75), defScope (top 75), [], []⟩
def c__law_written_0 : Cl := (.gen (.v 3) [3] (.val (.var 1)) .nil (.fin (.fl .list (.cons (.var 3) .nil))))
def c__law_written_1 : Cl := (.gen (.v 2) [2] (.val (.idx (.var 1) (.cst (.int 2)))) .nil (.fin (.fl .list (.cons (.var 2) .nil))))
def c__law_written_2 : Cl := (.gen (.v 2) [2] (.val (.idx (.var 1) (.cst (.int 2)))) .nil (.fin (.call "_law_flat" (.cons (.var 2) .nil) [] .nil)))
def b__law_written : C := (.seq (.ite (.cmp .Lt (.var 0) (.cst (.int 2))) (.seq (.ret (.call "_law_lines" (.cons (.binL .Add (.lst (.cons (.lst (.cons (.idx (.var 1) (.cst (.int 0))) (.cons (.idx (.var 1) (.cst (.int 1))) .nil))) .nil)) (.lc c__law_written_2)) .nil) [] .nil)) .skip) .skip) (.seq (.ite (.cmp .Eq (.var 0) (.cst (.int 2))) (.seq (.ret (.call "_law_lines" (.cons (.binL .Add (.lst (.cons (.lst (.cons (.idx (.var 1) (.cst (.int 0))) (.cons (.idx (.var 1) (.cst (.int 1))) .nil))) .nil)) (.lc c__law_written_1)) .nil) [] .nil)) .skip) .skip) (.seq (.ite (.bop .And (.cons (.cmp .Eq (.var 0) (.cst (.int 3))) (.cons (.cmp .Is (.var 1) (.cst .non)) .nil))) (.seq (.ret (.cst (.str "even"))) .skip) .skip) (.seq (.ite (.cmp .Eq (.var 0) (.cst (.int 4))) (.seq (.ret (.idx (.lst (.cons (.cst (.str "-")) (.cons (.call "_law_lines" (.cons (.lst (.cons (.fl .list (.cons (.var 1) .nil)) .nil)) .nil) [] .nil) .nil))) (.bl .int (.cons (.cmp .Gt (.bl .len (.cons (.var 1) .nil)) (.cst (.int 0))) .nil)))) .skip) .skip) (.seq (.ret (.call "_law_lines" (.cons (.lc c__law_written_0) .nil) [] .nil)) .skip)))))
def f__law_written : Fn := ⟨"_law_written", ["kind", "thing"], 2, [], ["kind", "thing", "room", "row"], b__law_written⟩
def d__law_written : He.DefD := ⟨("_law_written", none), "_law_written", "_law_written", defArgs (top 76), defBody (top 76), defScope (top 76), [], []⟩
def b__law_shown : C := (.seq (.ite (.cmp .Eq (.var 0) (.cst (.int 0))) (.seq (.ret (.call "saying_text" (.cons (.var 1) .nil) [] .nil)) .skip) .skip) (.seq (.ite (.cmp .Eq (.var 0) (.cst (.int 1))) (.seq (.ret (.call "watcher_text" (.cons (.var 1) .nil) [] .nil)) .skip) .skip) (.seq (.ite (.cmp .Eq (.var 0) (.cst (.int 2))) (.seq (.ret (.call "machine_text" (.cons (.var 1) .nil) [] .nil)) .skip) .skip) (.seq (.ite (.cmp .Eq (.var 0) (.cst (.int 3))) (.seq (.ret (.call "prices_text" (.cons (.var 1) .nil) [] .nil)) .skip) .skip) (.seq (.ret (.call "run_text" (.cons (.var 1) .nil) [] .nil)) .skip)))))
def f__law_shown : Fn := ⟨"_law_shown", ["kind", "thing"], 2, [], ["kind", "thing"], b__law_shown⟩
def d__law_shown : He.DefD := ⟨("_law_shown", none), "_law_shown", "_law_shown", defArgs (top 77), defBody (top 77), defScope (top 77), [], []⟩
def b__law_read : C := (.seq (.ite (.cmp .Eq (.var 0) (.cst (.int 0))) (.seq (.ret (.call "read_saying" (.cons (.var 1) .nil) [] .nil)) .skip) .skip) (.seq (.ite (.cmp .Eq (.var 0) (.cst (.int 1))) (.seq (.ret (.call "read_watcher" (.cons (.var 1) .nil) [] .nil)) .skip) .skip) (.seq (.ite (.cmp .Eq (.var 0) (.cst (.int 2))) (.seq (.ret (.call "read_machine" (.cons (.var 1) .nil) [] .nil)) .skip) .skip) (.seq (.ite (.cmp .Eq (.var 0) (.cst (.int 3))) (.seq (.ret (.call "read_prices" (.cons (.var 1) .nil) [] .nil)) .skip) .skip) (.seq (.ret (.call "read_run" (.cons (.var 1) .nil) [] .nil)) .skip)))))
def f__law_read : Fn := ⟨"_law_read", ["kind", "line"], 2, [], ["kind", "line"], b__law_read⟩
def d__law_read : He.DefD := ⟨("_law_read", none), "_law_read", "_law_read", defArgs (top 78), defBody (top 78), defScope (top 78), [], []⟩
def c_law_0 : Cl := (.gen (.v 8) [8] (.rng1 (.cst (.int 500))) .nil (.fin (.tup (.cons (.bin .Mod (.var 8) (.cst (.int 9))) (.cons (.bin .Mod (.bin .Mult (.var 8) (.cst (.int 5))) (.cst (.int 7))) .nil)))))
def b_law_1 : C := (.seq (.ite (.bop .Or (.cons (.not_ (.v (.call "_law_same" (.cons (.call "_law_shown" (.cons (.var 3) (.cons (.var 4) .nil)) [] .nil) (.cons (.var 5) .nil)) [] .nil))) (.cons (.not_ (.v (.call "_law_same" (.cons (.call "_law_read" (.cons (.var 3) (.cons (.var 5) .nil)) [] .nil) (.cons (.var 4) .nil)) [] .nil))) .nil))) (.seq (.ret (.cst (.bl false))) .skip) .skip) .skip)
def b_law_2 : C := (.seq (.set (.v 4) (.call "_law_thing" (.cons (.var 2) (.cons (.var 3) .nil)) [] .nil)) (.seq (.set (.v 5) (.call "_law_written" (.cons (.var 3) (.cons (.var 4) .nil)) [] .nil)) (.seq (.for_ (.v 6) (.rng1 (.cst (.int 2))) b_law_1) .skip)))
def b_law_3 : C := (.seq (.set (.v 2) (.call "_law_pot" (.cons (.var 0) (.cons (.var 1) .nil)) [] .nil)) (.seq (.for_ (.v 3) (.rng1 (.cst (.int 5))) b_law_2) .skip))
def b_law : C := (.seq (.for_ (.v 1) (.rng1 (.bl .max2 (.cons (.cst (.int 1)) (.cons (.bl .min2 (.cons (.cst (.int 4)) (.cons (.bl .len (.cons (.var 0) .nil)) .nil))) .nil)))) b_law_3) (.seq (.set (.v 7) (.bl .tuple (.cons (.lc c_law_0) .nil))) (.seq (.set (.v 9) (.call "_law_written" (.cons (.cst (.int 4)) (.cons (.var 7) .nil)) [] .nil)) (.seq (.ret (.bop .And (.cons (.call "_law_same" (.cons (.call "run_text" (.cons (.var 7) .nil) [] .nil) (.cons (.var 9) .nil)) [] .nil) (.cons (.call "_law_same" (.cons (.call "read_run" (.cons (.var 9) .nil) [] .nil) (.cons (.var 7) .nil)) [] .nil) .nil)))) .skip))))
def f_law : Fn := ⟨"law", ["script"], 1, [], ["script", "k", "pot", "kind", "thing", "due", "turn", "far", "at", "line"], b_law⟩
def d_law : He.DefD := ⟨("law", none), "law", "law", defArgs (top 79), defBody (top 79), defScope (top 79), [], []⟩
def fns0 : List Fn := [f_is_whole, f_is_below, f_is_count, f_is_row, f_is_room, f_is_saying, f_are_steps, f_need_saying, f_is_price, f_are_prices, f_is_cell, f_is_state, f_is_watcher, f_need_watcher, f_is_go, f_is_machine, f_need_machine, f_part_text, f_pair_text, f_rows_text, f_table_text, f_saying_words, f_watcher_words, f_machine_words, f_saying_text, f_watcher_text, f_machine_text, f_prices_text, f_run_text, f_number_in]
def dns0 : List He.DefD := [d_is_whole, d_is_below, d_is_count, d_is_row, d_is_room, d_is_saying, d_are_steps, d_need_saying, d_is_price, d_are_prices, d_is_cell, d_is_state, d_is_watcher, d_need_watcher, d_is_go, d_is_machine, d_need_machine, d_part_text, d_pair_text, d_rows_text, d_table_text, d_saying_words, d_watcher_words, d_machine_words, d_saying_text, d_watcher_text, d_machine_text, d_prices_text, d_run_text, d_number_in]
def nms0 : List Str := ["is_whole", "is_below", "is_count", "is_row", "is_room", "is_saying", "are_steps", "need_saying", "is_price", "are_prices", "is_cell", "is_state", "is_watcher", "need_watcher", "is_go", "is_machine", "need_machine", "part_text", "pair_text", "rows_text", "table_text", "saying_words", "watcher_words", "machine_words", "saying_text", "watcher_text", "machine_text", "prices_text", "run_text", "number_in"]
def fns1 : List Fn := [f_part_in, f_pair_in, f_rows_in, f_parted, f_table_in, f_read_by_deeds, f_read_saying, f_read_watcher, f_read_machine, f_read_prices, f_read_run, f__law_pot, f__law_take, f__law_same, f__law_room, f__law_saying, f__law_price, f__law_prices, f__law_run, f__law_watcher, f__law_machine, f__law_sizes, f__law_thing, f__law_word, f__law_lines, f__law_flat, f__law_written, f__law_shown, f__law_read, f_law]
def dns1 : List He.DefD := [d_part_in, d_pair_in, d_rows_in, d_parted, d_table_in, d_read_by_deeds, d_read_saying, d_read_watcher, d_read_machine, d_read_prices, d_read_run, d__law_pot, d__law_take, d__law_same, d__law_room, d__law_saying, d__law_price, d__law_prices, d__law_run, d__law_watcher, d__law_machine, d__law_sizes, d__law_thing, d__law_word, d__law_lines, d__law_flat, d__law_written, d__law_shown, d__law_read, d_law]
def nms1 : List Str := ["part_in", "pair_in", "rows_in", "parted", "table_in", "read_by_deeds", "read_saying", "read_watcher", "read_machine", "read_prices", "read_run", "_law_pot", "_law_take", "_law_same", "_law_room", "_law_saying", "_law_price", "_law_prices", "_law_run", "_law_watcher", "_law_machine", "_law_sizes", "_law_thing", "_law_word", "_law_lines", "_law_flat", "_law_written", "_law_shown", "_law_read", "law"]
def fns : List Fn := fns0 ++ fns1
def dns : List He.DefD := dns0 ++ dns1
def nms : List Str := nms0 ++ nms1
def Pg : Pgm := ⟨fns, [], fun _ _ => false⟩
def Z : Gz := ⟨[("MOST", (.int 100)), ("WIDE", (.int 9)), ("DEAR", (.int 99)), ("EVEN", .non), ("FIGURES", (.str "0123456789")), ("NONE", (.str "x"))], nms, ["abs", "all", "bool", "enumerate", "int", "isinstance", "len", "list", "max", "min", "range", "str", "tuple", "zip"]⟩
def nn : List Str := ["EVEN"]
def faC : List He.Fa := [.int "MOST" 100, .int "WIDE" 9, .int "DEAR" 99, .str "FIGURES" "0123456789", .str "NONE" "x"]
def faB : List He.Fa := [.free "abs", .free "all", .free "bool", .free "enumerate", .free "int", .free "isinstance", .free "len", .free "list", .free "max", .free "min", .free "range", .free "str", .free "tuple", .free "zip"]
def fa : List He.Fa := (nms.map He.Fa.glo) ++ (faB ++ faC)
def lo0 : List Str := ["WardError", "NoSaying", "NoRun", "NoPrices", "NoWatcher", "NoMachine", "NoText", "MOST", "WIDE", "DEAR", "is_whole", "is_below", "is_count", "is_row", "is_room", "is_saying", "are_steps", "need_saying", "EVEN", "is_price", "are_prices", "is_cell", "is_state", "is_watcher", "need_watcher", "is_go", "is_machine", "need_machine", "FIGURES", "NONE"]
def lo1 : List Str := ["part_text", "pair_text", "rows_text", "table_text", "saying_words", "watcher_words", "machine_words", "saying_text", "watcher_text", "machine_text", "prices_text", "run_text", "number_in", "part_in", "pair_in", "rows_in", "parted", "table_in", "read_by_deeds", "read_saying", "read_watcher", "read_machine", "read_prices", "read_run", "_law_pot", "_law_take", "_law_same", "_law_room", "_law_saying", "_law_price"]
def lo2 : List Str := ["_law_prices", "_law_run", "_law_watcher", "_law_machine", "_law_sizes", "_law_thing", "_law_word", "_law_lines", "_law_flat", "_law_written", "_law_shown", "_law_read"]
def lo : List Str := lo0 ++ lo1 ++ lo2
theorem ok_all : ((fns.zip dns).all fun r => okD Z r.1 r.2) = true := by kernel_rfl
theorem find_is_whole : Pg.fns.find? (fun f => f.name == ("is_whole" : Str)) = some f_is_whole := by kernel_rfl
theorem find_is_below : Pg.fns.find? (fun f => f.name == ("is_below" : Str)) = some f_is_below := by kernel_rfl
theorem find_is_count : Pg.fns.find? (fun f => f.name == ("is_count" : Str)) = some f_is_count := by kernel_rfl
theorem find_is_row : Pg.fns.find? (fun f => f.name == ("is_row" : Str)) = some f_is_row := by kernel_rfl
theorem find_is_room : Pg.fns.find? (fun f => f.name == ("is_room" : Str)) = some f_is_room := by kernel_rfl
theorem find_is_saying : Pg.fns.find? (fun f => f.name == ("is_saying" : Str)) = some f_is_saying := by kernel_rfl
theorem find_are_steps : Pg.fns.find? (fun f => f.name == ("are_steps" : Str)) = some f_are_steps := by kernel_rfl
theorem find_need_saying : Pg.fns.find? (fun f => f.name == ("need_saying" : Str)) = some f_need_saying := by kernel_rfl
theorem find_is_price : Pg.fns.find? (fun f => f.name == ("is_price" : Str)) = some f_is_price := by kernel_rfl
theorem find_are_prices : Pg.fns.find? (fun f => f.name == ("are_prices" : Str)) = some f_are_prices := by kernel_rfl
theorem find_is_cell : Pg.fns.find? (fun f => f.name == ("is_cell" : Str)) = some f_is_cell := by kernel_rfl
theorem find_is_state : Pg.fns.find? (fun f => f.name == ("is_state" : Str)) = some f_is_state := by kernel_rfl
theorem find_is_watcher : Pg.fns.find? (fun f => f.name == ("is_watcher" : Str)) = some f_is_watcher := by kernel_rfl
theorem find_need_watcher : Pg.fns.find? (fun f => f.name == ("need_watcher" : Str)) = some f_need_watcher := by kernel_rfl
theorem find_is_go : Pg.fns.find? (fun f => f.name == ("is_go" : Str)) = some f_is_go := by kernel_rfl
theorem find_is_machine : Pg.fns.find? (fun f => f.name == ("is_machine" : Str)) = some f_is_machine := by kernel_rfl
theorem find_need_machine : Pg.fns.find? (fun f => f.name == ("need_machine" : Str)) = some f_need_machine := by kernel_rfl
theorem find_part_text : Pg.fns.find? (fun f => f.name == ("part_text" : Str)) = some f_part_text := by kernel_rfl
theorem find_pair_text : Pg.fns.find? (fun f => f.name == ("pair_text" : Str)) = some f_pair_text := by kernel_rfl
theorem find_rows_text : Pg.fns.find? (fun f => f.name == ("rows_text" : Str)) = some f_rows_text := by kernel_rfl
theorem find_table_text : Pg.fns.find? (fun f => f.name == ("table_text" : Str)) = some f_table_text := by kernel_rfl
theorem find_saying_words : Pg.fns.find? (fun f => f.name == ("saying_words" : Str)) = some f_saying_words := by kernel_rfl
theorem find_watcher_words : Pg.fns.find? (fun f => f.name == ("watcher_words" : Str)) = some f_watcher_words := by kernel_rfl
theorem find_machine_words : Pg.fns.find? (fun f => f.name == ("machine_words" : Str)) = some f_machine_words := by kernel_rfl
theorem find_saying_text : Pg.fns.find? (fun f => f.name == ("saying_text" : Str)) = some f_saying_text := by kernel_rfl
theorem find_watcher_text : Pg.fns.find? (fun f => f.name == ("watcher_text" : Str)) = some f_watcher_text := by kernel_rfl
theorem find_machine_text : Pg.fns.find? (fun f => f.name == ("machine_text" : Str)) = some f_machine_text := by kernel_rfl
theorem find_prices_text : Pg.fns.find? (fun f => f.name == ("prices_text" : Str)) = some f_prices_text := by kernel_rfl
theorem find_run_text : Pg.fns.find? (fun f => f.name == ("run_text" : Str)) = some f_run_text := by kernel_rfl
theorem find_number_in : Pg.fns.find? (fun f => f.name == ("number_in" : Str)) = some f_number_in := by kernel_rfl
theorem find_part_in : Pg.fns.find? (fun f => f.name == ("part_in" : Str)) = some f_part_in := by kernel_rfl
theorem find_pair_in : Pg.fns.find? (fun f => f.name == ("pair_in" : Str)) = some f_pair_in := by kernel_rfl
theorem find_rows_in : Pg.fns.find? (fun f => f.name == ("rows_in" : Str)) = some f_rows_in := by kernel_rfl
theorem find_parted : Pg.fns.find? (fun f => f.name == ("parted" : Str)) = some f_parted := by kernel_rfl
theorem find_table_in : Pg.fns.find? (fun f => f.name == ("table_in" : Str)) = some f_table_in := by kernel_rfl
theorem find_read_by_deeds : Pg.fns.find? (fun f => f.name == ("read_by_deeds" : Str)) = some f_read_by_deeds := by kernel_rfl
theorem find_read_saying : Pg.fns.find? (fun f => f.name == ("read_saying" : Str)) = some f_read_saying := by kernel_rfl
theorem find_read_watcher : Pg.fns.find? (fun f => f.name == ("read_watcher" : Str)) = some f_read_watcher := by kernel_rfl
theorem find_read_machine : Pg.fns.find? (fun f => f.name == ("read_machine" : Str)) = some f_read_machine := by kernel_rfl
theorem find_read_prices : Pg.fns.find? (fun f => f.name == ("read_prices" : Str)) = some f_read_prices := by kernel_rfl
theorem find_read_run : Pg.fns.find? (fun f => f.name == ("read_run" : Str)) = some f_read_run := by kernel_rfl
theorem find__law_pot : Pg.fns.find? (fun f => f.name == ("_law_pot" : Str)) = some f__law_pot := by kernel_rfl
theorem find__law_take : Pg.fns.find? (fun f => f.name == ("_law_take" : Str)) = some f__law_take := by kernel_rfl
theorem find__law_same : Pg.fns.find? (fun f => f.name == ("_law_same" : Str)) = some f__law_same := by kernel_rfl
theorem find__law_room : Pg.fns.find? (fun f => f.name == ("_law_room" : Str)) = some f__law_room := by kernel_rfl
theorem find__law_saying : Pg.fns.find? (fun f => f.name == ("_law_saying" : Str)) = some f__law_saying := by kernel_rfl
theorem find__law_price : Pg.fns.find? (fun f => f.name == ("_law_price" : Str)) = some f__law_price := by kernel_rfl
theorem find__law_prices : Pg.fns.find? (fun f => f.name == ("_law_prices" : Str)) = some f__law_prices := by kernel_rfl
theorem find__law_run : Pg.fns.find? (fun f => f.name == ("_law_run" : Str)) = some f__law_run := by kernel_rfl
theorem find__law_watcher : Pg.fns.find? (fun f => f.name == ("_law_watcher" : Str)) = some f__law_watcher := by kernel_rfl
theorem find__law_machine : Pg.fns.find? (fun f => f.name == ("_law_machine" : Str)) = some f__law_machine := by kernel_rfl
theorem find__law_sizes : Pg.fns.find? (fun f => f.name == ("_law_sizes" : Str)) = some f__law_sizes := by kernel_rfl
theorem find__law_thing : Pg.fns.find? (fun f => f.name == ("_law_thing" : Str)) = some f__law_thing := by kernel_rfl
theorem find__law_word : Pg.fns.find? (fun f => f.name == ("_law_word" : Str)) = some f__law_word := by kernel_rfl
theorem find__law_lines : Pg.fns.find? (fun f => f.name == ("_law_lines" : Str)) = some f__law_lines := by kernel_rfl
theorem find__law_flat : Pg.fns.find? (fun f => f.name == ("_law_flat" : Str)) = some f__law_flat := by kernel_rfl
theorem find__law_written : Pg.fns.find? (fun f => f.name == ("_law_written" : Str)) = some f__law_written := by kernel_rfl
theorem find__law_shown : Pg.fns.find? (fun f => f.name == ("_law_shown" : Str)) = some f__law_shown := by kernel_rfl
theorem find__law_read : Pg.fns.find? (fun f => f.name == ("_law_read" : Str)) = some f__law_read := by kernel_rfl
theorem find_law : Pg.fns.find? (fun f => f.name == ("law" : Str)) = some f_law := by kernel_rfl
end K86

namespace K86
open PySem PySem.Spec MP
theorem F_eq {n : Nat} {x : Str} {ds : List D} {S : Store} {fn : Fn} (h : Pg.fns.find? (fun f => f.name == x) = some fn) (hk : fn.kwd = []) (hn : ds.length = fn.npos) : (callF Pg (n + 1)).f x ds [] [] S = runFn (callF Pg n) Pg.sub fn ds S := by
  have e : arrange fn ds [] [] = some ds := by
    unfold arrange
    rw [hk, hn]
    simp
  show (match Pg.fns.find? (fun f => f.name == x) with
    | some fn => (match arrange fn ds [] [] with
      | some args => runFn (callF Pg n) Pg.sub fn args S
      | none => .stk)
    | none => .stk) = _
  rw [h]
  show (match arrange fn ds [] [] with
      | some args => runFn (callF Pg n) Pg.sub fn args S
      | none => .stk) = _
  rw [e]
theorem e_is_whole (n : Nat) (i : Int) (S : Store) : (callF Pg (n + 1)).f "is_whole" [.int i] [] [] S = .ok (.bl true) S := by
  rw [F_eq find_is_whole rfl rfl]
  rfl

theorem e_is_below (n : Nat) (i m : Int) (S : Store) : (callF Pg (n + 2)).f "is_below" [.int i, .int m] [] [] S = .ok (.bl (decide (0 ≤ i) && decide (i < m))) S := by
  rw [F_eq find_is_below rfl rfl]
  simp [asL_ap, all_mapT, ln_tup, ln_lst, ln_fz, tu_lst, tu_tup, it_tup, it_lst, it_fz, sq_tup, sq_lst, bindT_v, lockF, lockS, wipeF, run_ap, outO_rt, outO_nx, outO_ite, evC, evE, evB, evEs, evPs, evT, evTs, evI, frame0, asP, asQ, mbind_ap, bindO_ok, bindO_ite, ite_ap, mret_ap, mopt_some, lift0_ap, liftO_ok, take_val, peek_val, peek_own, peek_lck, take_own, mval_int, mval_str, mval_bl, mval_non, mval_tup, mval_lst, mval_fz, mresL_v, mvals, cLt, cLe, cGt, cGe, cEqI, cNeI, cEqB, cIs, cIsNot, isNon, tBo, tIn, tNo, tTu, tLi, xT, xL, xF, omap_some, f_is_below, b_is_below, e_is_whole]
  by_cases h : 0 ≤ i <;> simp [asL_ap, all_mapT, ln_tup, ln_lst, ln_fz, tu_lst, tu_tup, it_tup, it_lst, it_fz, sq_tup, sq_lst, bindT_v, lockF, lockS, wipeF, run_ap, outO_rt, outO_nx, outO_ite, evC, evE, evB, evEs, evPs, evT, evTs, evI, frame0, asP, asQ, mbind_ap, bindO_ok, bindO_ite, ite_ap, mret_ap, mopt_some, lift0_ap, liftO_ok, take_val, peek_val, peek_own, peek_lck, take_own, mval_int, mval_str, mval_bl, mval_non, mval_tup, mval_lst, mval_fz, mresL_v, mvals, cLt, cLe, cGt, cGe, cEqI, cNeI, cEqB, cIs, cIsNot, isNon, tBo, tIn, tNo, tTu, tLi, xT, xL, xF, omap_some, h]
theorem e_is_count (n : Nat) (i : Int) (S : Store) : (callF Pg (n + 2)).f "is_count" [.int i] [] [] S = .ok (.bl (decide (1 ≤ i) && decide (i ≤ 9))) S := by
  rw [F_eq find_is_count rfl rfl]
  simp [asL_ap, all_mapT, ln_tup, ln_lst, ln_fz, tu_lst, tu_tup, it_tup, it_lst, it_fz, sq_tup, sq_lst, bindT_v, lockF, lockS, wipeF, run_ap, outO_rt, outO_nx, outO_ite, evC, evE, evB, evEs, evPs, evT, evTs, evI, frame0, asP, asQ, mbind_ap, bindO_ok, bindO_ite, ite_ap, mret_ap, mopt_some, lift0_ap, liftO_ok, take_val, peek_val, peek_own, peek_lck, take_own, mval_int, mval_str, mval_bl, mval_non, mval_tup, mval_lst, mval_fz, mresL_v, mvals, cLt, cLe, cGt, cGe, cEqI, cNeI, cEqB, cIs, cIsNot, isNon, tBo, tIn, tNo, tTu, tLi, xT, xL, xF, omap_some, f_is_count, b_is_count, e_is_whole]
  by_cases h : 1 ≤ i <;> simp [asL_ap, all_mapT, ln_tup, ln_lst, ln_fz, tu_lst, tu_tup, it_tup, it_lst, it_fz, sq_tup, sq_lst, bindT_v, lockF, lockS, wipeF, run_ap, outO_rt, outO_nx, outO_ite, evC, evE, evB, evEs, evPs, evT, evTs, evI, frame0, asP, asQ, mbind_ap, bindO_ok, bindO_ite, ite_ap, mret_ap, mopt_some, lift0_ap, liftO_ok, take_val, peek_val, peek_own, peek_lck, take_own, mval_int, mval_str, mval_bl, mval_non, mval_tup, mval_lst, mval_fz, mresL_v, mvals, cLt, cLe, cGt, cGe, cEqI, cNeI, cEqB, cIs, cIsNot, isNon, tBo, tIn, tNo, tTu, tLi, xT, xL, xF, omap_some, h]
theorem e_is_row (n : Nat) (l : List D) (m : Int) (S : Store) : (callF Pg (n + 1)).f "is_row" [.tup l, .int m] [] [] S = .ok (.bl ((l.length : Int) == m)) S := by
  rw [F_eq find_is_row rfl rfl]
  simp [asL_ap, all_mapT, ln_tup, ln_lst, ln_fz, tu_lst, tu_tup, it_tup, it_lst, it_fz, sq_tup, sq_lst, bindT_v, lockF, lockS, wipeF, run_ap, outO_rt, outO_nx, outO_ite, evC, evE, evB, evEs, evPs, evT, evTs, evI, frame0, asP, asQ, mbind_ap, bindO_ok, bindO_ite, ite_ap, mret_ap, mopt_some, lift0_ap, liftO_ok, take_val, peek_val, peek_own, peek_lck, take_own, mval_int, mval_str, mval_bl, mval_non, mval_tup, mval_lst, mval_fz, mresL_v, mvals, cLt, cLe, cGt, cGe, cEqI, cNeI, cEqB, cIs, cIsNot, isNon, tBo, tIn, tNo, tTu, tLi, xT, xL, xF, omap_some, f_is_row, b_is_row, isiAny, isiD, opBl]
/-- a number below m -/
def Bel (m : Int) (d : D) : Prop := ∃ i : Int, d = .int i ∧ 0 ≤ i ∧ i < m
def Beh (m : Int) (d : D) : Prop := d = .non ∨ Bel m d
def Row (m : Int) (P : D → Prop) (d : D) : Prop := ∃ l : List D, d = .tup l ∧ (l.length : Int) = m ∧ ∀ x ∈ l, P x

theorem e_is_room (n : Nat) (d : D) (s k m : Int) (S : Store) (h : Row s (Row k (Beh m)) d) : (callF Pg (n + 3)).f "is_room" [d, .int s, .int k, .int m] [] [] S = .ok (.bl true) S := by
  obtain ⟨l, rfl, hl, hr⟩ := h
  rw [F_eq find_is_room rfl rfl]
  have key := for_inv (t := .v 4) (b := evC (callF Pg (n + 2)) Pg.sub b_is_room_1) (l := l) (ρ := [.val (.tup l), .val (.int s), .val (.int k), .val (.int m), .none, .none]) (S := S)
    (P := fun _ ρ S' => S' = S ∧ ∃ a b, ρ = [.val (.tup l), .val (.int s), .val (.int k), .val (.int m), a, b]) ⟨rfl, _, _, rfl⟩ ?_
  · obtain ⟨ρ', S', e, rfl, a, b, rfl⟩ := key
    simp [asL_ap, all_mapT, ln_tup, ln_lst, ln_fz, tu_lst, tu_tup, it_tup, it_lst, it_fz, sq_tup, sq_lst, bindT_v, lockF, lockS, wipeF, run_ap, outO_rt, outO_nx, outO_ite, evC, evE, evB, evEs, evPs, evT, evTs, evI, frame0, asP, asQ, mbind_ap, bindO_ok, bindO_ite, ite_ap, mret_ap, mopt_some, lift0_ap, liftO_ok, take_val, peek_val, peek_own, peek_lck, take_own, mval_int, mval_str, mval_bl, mval_non, mval_tup, mval_lst, mval_fz, mresL_v, mvals, cLt, cLe, cGt, cGe, cEqI, cNeI, cEqB, cIs, cIsNot, isNon, tBo, tIn, tNo, tTu, tLi, xT, xL, xF, omap_some, f_is_room, b_is_room, e_is_row, hl, iterD, e]
  · rintro i x ρ S' hx ⟨rfl, a, b, rfl⟩
    obtain ⟨r, rfl, hrl, hrr⟩ := hr x (List.mem_of_getElem? hx)
    have key := for_inv (t := .v 5) (b := evC (callF Pg (n + 2)) Pg.sub b_is_room_0) (l := r) (ρ := [.val (.tup l), .val (.int s), .val (.int k), .val (.int m), .val (.tup r), b]) (S := S')
      (P := fun _ ρ S2 => S2 = S' ∧ ∃ b, ρ = [.val (.tup l), .val (.int s), .val (.int k), .val (.int m), .val (.tup r), b]) ⟨rfl, _, rfl⟩ ?_
    · obtain ⟨ρ', S2, e, rfl, b2, rfl⟩ := key
      refine ⟨[.val (.tup l), .val (.int s), .val (.int k), .val (.int m), .val (.tup r), b2], S2, .nx, ?_, .inl rfl, rfl, _, _, rfl⟩
      simp [asL_ap, all_mapT, ln_tup, ln_lst, ln_fz, tu_lst, tu_tup, it_tup, it_lst, it_fz, sq_tup, sq_lst, bindT_v, lockF, lockS, wipeF, run_ap, outO_rt, outO_nx, outO_ite, evC, evE, evB, evEs, evPs, evT, evTs, evI, frame0, asP, asQ, mbind_ap, bindO_ok, bindO_ite, ite_ap, mret_ap, mopt_some, lift0_ap, liftO_ok, take_val, peek_val, peek_own, peek_lck, take_own, mval_int, mval_str, mval_bl, mval_non, mval_tup, mval_lst, mval_fz, mresL_v, mvals, cLt, cLe, cGt, cGe, cEqI, cNeI, cEqB, cIs, cIsNot, isNon, tBo, tIn, tNo, tTu, tLi, xT, xL, xF, omap_some, b_is_room_1, bindT_v, e_is_row, hrl, iterD, e]
    · rintro j y ρ S2 hy ⟨rfl, b2, rfl⟩
      refine ⟨[.val (.tup l), .val (.int s), .val (.int k), .val (.int m), .val (.tup r), .val y], S2, .nx, ?_, .inl rfl, rfl, _, rfl⟩
      rcases hrr y (List.mem_of_getElem? hy) with rfl | ⟨z, rfl, hz1, hz2⟩
      · simp [asL_ap, all_mapT, ln_tup, ln_lst, ln_fz, tu_lst, tu_tup, it_tup, it_lst, it_fz, sq_tup, sq_lst, bindT_v, lockF, lockS, wipeF, run_ap, outO_rt, outO_nx, outO_ite, evC, evE, evB, evEs, evPs, evT, evTs, evI, frame0, asP, asQ, mbind_ap, bindO_ok, bindO_ite, ite_ap, mret_ap, mopt_some, lift0_ap, liftO_ok, take_val, peek_val, peek_own, peek_lck, take_own, mval_int, mval_str, mval_bl, mval_non, mval_tup, mval_lst, mval_fz, mresL_v, mvals, cLt, cLe, cGt, cGe, cEqI, cNeI, cEqB, cIs, cIsNot, isNon, tBo, tIn, tNo, tTu, tLi, xT, xL, xF, omap_some, b_is_room_0, bindT_v]
      · simp [asL_ap, all_mapT, ln_tup, ln_lst, ln_fz, tu_lst, tu_tup, it_tup, it_lst, it_fz, sq_tup, sq_lst, bindT_v, lockF, lockS, wipeF, run_ap, outO_rt, outO_nx, outO_ite, evC, evE, evB, evEs, evPs, evT, evTs, evI, frame0, asP, asQ, mbind_ap, bindO_ok, bindO_ite, ite_ap, mret_ap, mopt_some, lift0_ap, liftO_ok, take_val, peek_val, peek_own, peek_lck, take_own, mval_int, mval_str, mval_bl, mval_non, mval_tup, mval_lst, mval_fz, mresL_v, mvals, cLt, cLe, cGt, cGe, cEqI, cNeI, cEqB, cIs, cIsNot, isNon, tBo, tIn, tNo, tTu, tLi, xT, xL, xF, omap_some, b_is_room_0, bindT_v, e_is_below, hz1, hz2]
/-- a saying -/
def Saying (d : D) : Prop := ∃ (s k : Int) (rooms : List D), d = .tup [.int s, .int k, .tup rooms] ∧ 1 ≤ s ∧ s ≤ 9 ∧ 1 ≤ k ∧ k ≤ 9 ∧ 1 ≤ rooms.length ∧ rooms.length ≤ 100 ∧ ∀ r ∈ rooms, Row s (Row k (Beh rooms.length)) r
theorem e_is_saying (n : Nat) (d : D) (S : Store) (h : Saying d) : (callF Pg (n + 4)).f "is_saying" [d] [] [] S = .ok (.bl true) S := by
  obtain ⟨s, k, rooms, rfl, h1, h2, h3, h4, h5, h6, h7⟩ := h
  rw [F_eq find_is_saying rfl rfl]
  have key : fLc (evCl (callF Pg (n + 3)) c_is_saying_0) [.val (.tup [.int s, .int k, .tup rooms]), .val (.int s), .val (.int k), .val (.tup rooms), .none] S = .ok (rooms.map fun _ => .bl true) [.val (.tup [.int s, .int k, .tup rooms]), .val (.int s), .val (.int k), .val (.tup rooms), .none] S :=
    lc_map (l := rooms) (g := fun _ => .bl true) (by simp [asL_ap, all_mapT, ln_tup, ln_lst, ln_fz, tu_lst, tu_tup, it_tup, it_lst, it_fz, sq_tup, sq_lst, bindT_v, lockF, lockS, wipeF, run_ap, outO_rt, outO_nx, outO_ite, evC, evE, evB, evEs, evPs, evT, evTs, evI, frame0, asP, asQ, mbind_ap, bindO_ok, bindO_ite, ite_ap, mret_ap, mopt_some, lift0_ap, liftO_ok, take_val, peek_val, peek_own, peek_lck, take_own, mval_int, mval_str, mval_bl, mval_non, mval_tup, mval_lst, mval_fz, mresL_v, mvals, cLt, cLe, cGt, cGe, cEqI, cNeI, cEqB, cIs, cIsNot, isNon, tBo, tIn, tNo, tTu, tLi, xT, xL, xF, omap_some]) (fun d hd => ⟨[.val (.tup [.int s, .int k, .tup rooms]), .val (.int s), .val (.int k), .val (.tup rooms), .val d], by simp [asL_ap, all_mapT, ln_tup, ln_lst, ln_fz, tu_lst, tu_tup, it_tup, it_lst, it_fz, sq_tup, sq_lst, bindT_v, lockF, lockS, wipeF, run_ap, outO_rt, outO_nx, outO_ite, evC, evE, evB, evEs, evPs, evT, evTs, evI, frame0, asP, asQ, mbind_ap, bindO_ok, bindO_ite, ite_ap, mret_ap, mopt_some, lift0_ap, liftO_ok, take_val, peek_val, peek_own, peek_lck, take_own, mval_int, mval_str, mval_bl, mval_non, mval_tup, mval_lst, mval_fz, mresL_v, mvals, cLt, cLe, cGt, cGe, cEqI, cNeI, cEqB, cIs, cIsNot, isNon, tBo, tIn, tNo, tTu, tLi, xT, xL, xF, omap_some, e_is_room n d s k _ S (h7 d hd)]⟩) (by omega)
  have a1 : (1 : Int) ≤ rooms.length := by omega
  have a2 : (rooms.length : Int) ≤ 100 := by omega
  simp [asL_ap, all_mapT, ln_tup, ln_lst, ln_fz, tu_lst, tu_tup, it_tup, it_lst, it_fz, sq_tup, sq_lst, bindT_v, lockF, lockS, wipeF, run_ap, outO_rt, outO_nx, outO_ite, evC, evE, evB, evEs, evPs, evT, evTs, evI, frame0, asP, asQ, mbind_ap, bindO_ok, bindO_ite, ite_ap, mret_ap, mopt_some, lift0_ap, liftO_ok, take_val, peek_val, peek_own, peek_lck, take_own, mval_int, mval_str, mval_bl, mval_non, mval_tup, mval_lst, mval_fz, mresL_v, mvals, cLt, cLe, cGt, cGe, cEqI, cNeI, cEqB, cIs, cIsNot, isNon, tBo, tIn, tNo, tTu, tLi, xT, xL, xF, omap_some, f_is_saying, b_is_saying, e_is_row, isiAny, isiD, bindT, bindTs, e_is_count, h1, h2, h3, h4, key, a1, a2]
end K86

namespace K86
open PySem PySem.Spec MP
/-- a pair of numbers -/
def Cell (k m : Int) (d : D) : Prop := ∃ i j : Int, d = .tup [.int i, .int j] ∧ 0 ≤ i ∧ i < k ∧ 0 ≤ j ∧ j < m
theorem e_is_cell (n : Nat) (d : D) (k m : Int) (S : Store) (h : Cell k m d) : (callF Pg (n + 3)).f "is_cell" [d, .int k, .int m] [] [] S = .ok (.bl true) S := by
  obtain ⟨i, j, rfl, h1, h2, h3, h4⟩ := h
  rw [F_eq find_is_cell rfl rfl]
  simp [asL_ap, all_mapT, ln_tup, ln_lst, ln_fz, tu_lst, tu_tup, it_tup, it_lst, it_fz, sq_tup, sq_lst, bindT_v, lockF, lockS, wipeF, run_ap, outO_rt, outO_nx, outO_ite, evC, evE, evB, evEs, evPs, evT, evTs, evI, frame0, asP, asQ, mbind_ap, bindO_ok, bindO_ite, ite_ap, mret_ap, mopt_some, lift0_ap, liftO_ok, take_val, peek_val, peek_own, peek_lck, take_own, mval_int, mval_str, mval_bl, mval_non, mval_tup, mval_lst, mval_fz, mresL_v, mvals, cLt, cLe, cGt, cGe, cEqI, cNeI, cEqB, cIs, cIsNot, isNon, tBo, tIn, tNo, tTu, tLi, xT, xL, xF, omap_some, f_is_cell, b_is_cell, e_is_row, atD, ixD, e_is_below, h1, h2, h3, h4]
theorem e_is_go (n : Nat) (d : D) (k m : Int) (S : Store) (h : Cell k m d) : (callF Pg (n + 3)).f "is_go" [d, .int k, .int m] [] [] S = .ok (.bl true) S := by
  obtain ⟨i, j, rfl, h1, h2, h3, h4⟩ := h
  rw [F_eq find_is_go rfl rfl]
  simp [asL_ap, all_mapT, ln_tup, ln_lst, ln_fz, tu_lst, tu_tup, it_tup, it_lst, it_fz, sq_tup, sq_lst, bindT_v, lockF, lockS, wipeF, run_ap, outO_rt, outO_nx, outO_ite, evC, evE, evB, evEs, evPs, evT, evTs, evI, frame0, asP, asQ, mbind_ap, bindO_ok, bindO_ite, ite_ap, mret_ap, mopt_some, lift0_ap, liftO_ok, take_val, peek_val, peek_own, peek_lck, take_own, mval_int, mval_str, mval_bl, mval_non, mval_tup, mval_lst, mval_fz, mresL_v, mvals, cLt, cLe, cGt, cGe, cEqI, cNeI, cEqB, cIs, cIsNot, isNon, tBo, tIn, tNo, tTu, tLi, xT, xL, xF, omap_some, f_is_go, b_is_go, e_is_row, atD, ixD, e_is_below, h1, h2, h3, h4]
theorem e_is_state (n : Nat) (d : D) (s k m : Int) (S : Store) (h : Row s (Row k (Cell k m)) d) (hk : k ≤ 9) : (callF Pg (n + 4)).f "is_state" [d, .int s, .int k, .int m] [] [] S = .ok (.bl true) S := by
  obtain ⟨l, rfl, hl, hr⟩ := h
  rw [F_eq find_is_state rfl rfl]
  have key := for_inv (t := .v 4) (b := evC (callF Pg (n + 3)) Pg.sub b_is_state_1) (l := l) (ρ := [.val (.tup l), .val (.int s), .val (.int k), .val (.int m), .none, .none]) (S := S)
    (P := fun _ ρ S' => S' = S ∧ ∃ a, ρ = [.val (.tup l), .val (.int s), .val (.int k), .val (.int m), a, .none]) ⟨rfl, _, rfl⟩ ?_
  · obtain ⟨ρ', S', e, rfl, a, rfl⟩ := key
    simp [asL_ap, all_mapT, ln_tup, ln_lst, ln_fz, tu_lst, tu_tup, it_tup, it_lst, it_fz, sq_tup, sq_lst, bindT_v, lockF, lockS, wipeF, run_ap, outO_rt, outO_nx, outO_ite, evC, evE, evB, evEs, evPs, evT, evTs, evI, frame0, asP, asQ, mbind_ap, bindO_ok, bindO_ite, ite_ap, mret_ap, mopt_some, lift0_ap, liftO_ok, take_val, peek_val, peek_own, peek_lck, take_own, mval_int, mval_str, mval_bl, mval_non, mval_tup, mval_lst, mval_fz, mresL_v, mvals, cLt, cLe, cGt, cGe, cEqI, cNeI, cEqB, cIs, cIsNot, isNon, tBo, tIn, tNo, tTu, tLi, xT, xL, xF, omap_some, f_is_state, b_is_state, e_is_row, hl, e]
  · rintro i x ρ S' hx ⟨rfl, a, rfl⟩
    obtain ⟨r, rfl, hrl, hrr⟩ := hr x (List.mem_of_getElem? hx)
    refine ⟨[.val (.tup l), .val (.int s), .val (.int k), .val (.int m), .val (.tup r), .none], S', .nx, ?_, .inl rfl, rfl, _, rfl⟩
    have key : fLc (evCl (callF Pg (n + 3)) c_is_state_0) [.val (.tup l), .val (.int s), .val (.int k), .val (.int m), .val (.tup r), .none] S' = .ok (r.map fun _ => .bl true) [.val (.tup l), .val (.int s), .val (.int k), .val (.int m), .val (.tup r), .none] S' :=
      lc_map (l := r) (g := fun _ => .bl true) (by simp [asL_ap, all_mapT, ln_tup, ln_lst, ln_fz, tu_lst, tu_tup, it_tup, it_lst, it_fz, sq_tup, sq_lst, bindT_v, lockF, lockS, wipeF, run_ap, outO_rt, outO_nx, outO_ite, evC, evE, evB, evEs, evPs, evT, evTs, evI, frame0, asP, asQ, mbind_ap, bindO_ok, bindO_ite, ite_ap, mret_ap, mopt_some, lift0_ap, liftO_ok, take_val, peek_val, peek_own, peek_lck, take_own, mval_int, mval_str, mval_bl, mval_non, mval_tup, mval_lst, mval_fz, mresL_v, mvals, cLt, cLe, cGt, cGe, cEqI, cNeI, cEqB, cIs, cIsNot, isNon, tBo, tIn, tNo, tTu, tLi, xT, xL, xF, omap_some]) (fun d hd => ⟨[.val (.tup l), .val (.int s), .val (.int k), .val (.int m), .val (.tup r), .val d], by simp [asL_ap, all_mapT, ln_tup, ln_lst, ln_fz, tu_lst, tu_tup, it_tup, it_lst, it_fz, sq_tup, sq_lst, bindT_v, lockF, lockS, wipeF, run_ap, outO_rt, outO_nx, outO_ite, evC, evE, evB, evEs, evPs, evT, evTs, evI, frame0, asP, asQ, mbind_ap, bindO_ok, bindO_ite, ite_ap, mret_ap, mopt_some, lift0_ap, liftO_ok, take_val, peek_val, peek_own, peek_lck, take_own, mval_int, mval_str, mval_bl, mval_non, mval_tup, mval_lst, mval_fz, mresL_v, mvals, cLt, cLe, cGt, cGe, cEqI, cNeI, cEqB, cIs, cIsNot, isNon, tBo, tIn, tNo, tTu, tLi, xT, xL, xF, omap_some, e_is_cell n d k m S' (hrr d hd)]⟩) (by omega)
    simp [asL_ap, all_mapT, ln_tup, ln_lst, ln_fz, tu_lst, tu_tup, it_tup, it_lst, it_fz, sq_tup, sq_lst, bindT_v, lockF, lockS, wipeF, run_ap, outO_rt, outO_nx, outO_ite, evC, evE, evB, evEs, evPs, evT, evTs, evI, frame0, asP, asQ, mbind_ap, bindO_ok, bindO_ite, ite_ap, mret_ap, mopt_some, lift0_ap, liftO_ok, take_val, peek_val, peek_own, peek_lck, take_own, mval_int, mval_str, mval_bl, mval_non, mval_tup, mval_lst, mval_fz, mresL_v, mvals, cLt, cLe, cGt, cGe, cEqI, cNeI, cEqB, cIs, cIsNot, isNon, tBo, tIn, tNo, tTu, tLi, xT, xL, xF, omap_some, b_is_state_1, e_is_row, hrl, key]
def Watcher (d : D) : Prop := ∃ (s k : Int) (rooms : List D), d = .tup [.int s, .int k, .tup rooms] ∧ 1 ≤ s ∧ s ≤ 9 ∧ 1 ≤ k ∧ k ≤ 9 ∧ 1 ≤ rooms.length ∧ rooms.length ≤ 100 ∧ ∀ r ∈ rooms, Row s (Row k (Cell k rooms.length)) r
theorem e_is_watcher (n : Nat) (d : D) (S : Store) (h : Watcher d) : (callF Pg (n + 5)).f "is_watcher" [d] [] [] S = .ok (.bl true) S := by
  obtain ⟨s, k, rooms, rfl, h1, h2, h3, h4, h5, h6, h7⟩ := h
  rw [F_eq find_is_watcher rfl rfl]
  have key : fLc (evCl (callF Pg (n + 4)) c_is_watcher_0) [.val (.tup [.int s, .int k, .tup rooms]), .val (.int s), .val (.int k), .val (.tup rooms), .none] S = .ok (rooms.map fun _ => .bl true) [.val (.tup [.int s, .int k, .tup rooms]), .val (.int s), .val (.int k), .val (.tup rooms), .none] S :=
    lc_map (l := rooms) (g := fun _ => .bl true) (by simp [asL_ap, all_mapT, ln_tup, ln_lst, ln_fz, tu_lst, tu_tup, it_tup, it_lst, it_fz, sq_tup, sq_lst, bindT_v, lockF, lockS, wipeF, run_ap, outO_rt, outO_nx, outO_ite, evC, evE, evB, evEs, evPs, evT, evTs, evI, frame0, asP, asQ, mbind_ap, bindO_ok, bindO_ite, ite_ap, mret_ap, mopt_some, lift0_ap, liftO_ok, take_val, peek_val, peek_own, peek_lck, take_own, mval_int, mval_str, mval_bl, mval_non, mval_tup, mval_lst, mval_fz, mresL_v, mvals, cLt, cLe, cGt, cGe, cEqI, cNeI, cEqB, cIs, cIsNot, isNon, tBo, tIn, tNo, tTu, tLi, xT, xL, xF, omap_some]) (fun d hd => ⟨[.val (.tup [.int s, .int k, .tup rooms]), .val (.int s), .val (.int k), .val (.tup rooms), .val d], by simp [asL_ap, all_mapT, ln_tup, ln_lst, ln_fz, tu_lst, tu_tup, it_tup, it_lst, it_fz, sq_tup, sq_lst, bindT_v, lockF, lockS, wipeF, run_ap, outO_rt, outO_nx, outO_ite, evC, evE, evB, evEs, evPs, evT, evTs, evI, frame0, asP, asQ, mbind_ap, bindO_ok, bindO_ite, ite_ap, mret_ap, mopt_some, lift0_ap, liftO_ok, take_val, peek_val, peek_own, peek_lck, take_own, mval_int, mval_str, mval_bl, mval_non, mval_tup, mval_lst, mval_fz, mresL_v, mvals, cLt, cLe, cGt, cGe, cEqI, cNeI, cEqB, cIs, cIsNot, isNon, tBo, tIn, tNo, tTu, tLi, xT, xL, xF, omap_some, e_is_state n d s k _ S (h7 d hd) h4]⟩) (by omega)
  have a1 : (1 : Int) ≤ rooms.length := by omega
  have a2 : (rooms.length : Int) ≤ 100 := by omega
  simp [asL_ap, all_mapT, ln_tup, ln_lst, ln_fz, tu_lst, tu_tup, it_tup, it_lst, it_fz, sq_tup, sq_lst, bindT_v, lockF, lockS, wipeF, run_ap, outO_rt, outO_nx, outO_ite, evC, evE, evB, evEs, evPs, evT, evTs, evI, frame0, asP, asQ, mbind_ap, bindO_ok, bindO_ite, ite_ap, mret_ap, mopt_some, lift0_ap, liftO_ok, take_val, peek_val, peek_own, peek_lck, take_own, mval_int, mval_str, mval_bl, mval_non, mval_tup, mval_lst, mval_fz, mresL_v, mvals, cLt, cLe, cGt, cGe, cEqI, cNeI, cEqB, cIs, cIsNot, isNon, tBo, tIn, tNo, tTu, tLi, xT, xL, xF, omap_some, f_is_watcher, b_is_watcher, e_is_row, isiAny, isiD, bindT, bindTs, e_is_count, h1, h2, h3, h4, key, a1, a2]
def Machine (d : D) : Prop := ∃ (s k : Int) (rooms : List D), d = .tup [.int s, .int k, .tup rooms] ∧ 1 ≤ s ∧ s ≤ 9 ∧ 1 ≤ k ∧ k ≤ 9 ∧ 1 ≤ rooms.length ∧ rooms.length ≤ 100 ∧ ∀ r ∈ rooms, Row s (Cell k rooms.length) r
theorem e_is_machine (n : Nat) (d : D) (S : Store) (h : Machine d) : (callF Pg (n + 4)).f "is_machine" [d] [] [] S = .ok (.bl true) S := by
  obtain ⟨s, k, rooms, rfl, h1, h2, h3, h4, h5, h6, h7⟩ := h
  rw [F_eq find_is_machine rfl rfl]
  have a1 : (1 : Int) ≤ rooms.length := by omega
  have a2 : (rooms.length : Int) ≤ 100 := by omega
  have key := for_inv (t := .v 4) (b := evC (callF Pg (n + 3)) Pg.sub b_is_machine_1) (l := rooms) (ρ := [.val (.tup [.int s, .int k, .tup rooms]), .val (.int s), .val (.int k), .val (.tup rooms), .none, .none]) (S := S)
    (P := fun _ ρ S' => S' = S ∧ ∃ a, ρ = [.val (.tup [.int s, .int k, .tup rooms]), .val (.int s), .val (.int k), .val (.tup rooms), a, .none]) ⟨rfl, _, rfl⟩ ?_
  · obtain ⟨ρ', S', e, rfl, a, rfl⟩ := key
    simp [asL_ap, all_mapT, ln_tup, ln_lst, ln_fz, tu_lst, tu_tup, it_tup, it_lst, it_fz, sq_tup, sq_lst, bindT_v, lockF, lockS, wipeF, run_ap, outO_rt, outO_nx, outO_ite, evC, evE, evB, evEs, evPs, evT, evTs, evI, frame0, asP, asQ, mbind_ap, bindO_ok, bindO_ite, ite_ap, mret_ap, mopt_some, lift0_ap, liftO_ok, take_val, peek_val, peek_own, peek_lck, take_own, mval_int, mval_str, mval_bl, mval_non, mval_tup, mval_lst, mval_fz, mresL_v, mvals, cLt, cLe, cGt, cGe, cEqI, cNeI, cEqB, cIs, cIsNot, isNon, tBo, tIn, tNo, tTu, tLi, xT, xL, xF, omap_some, f_is_machine, b_is_machine, e_is_row, isiAny, isiD, bindT, bindTs, e_is_count, h1, h2, h3, h4, a1, a2, e]
  · rintro i x ρ S' hx ⟨rfl, a, rfl⟩
    obtain ⟨r, rfl, hrl, hrr⟩ := h7 x (List.mem_of_getElem? hx)
    refine ⟨[.val (.tup [.int s, .int k, .tup rooms]), .val (.int s), .val (.int k), .val (.tup rooms), .val (.tup r), .none], S', .nx, ?_, .inl rfl, rfl, _, rfl⟩
    have key : fLc (evCl (callF Pg (n + 3)) c_is_machine_0) [.val (.tup [.int s, .int k, .tup rooms]), .val (.int s), .val (.int k), .val (.tup rooms), .val (.tup r), .none] S' = .ok (r.map fun _ => .bl true) [.val (.tup [.int s, .int k, .tup rooms]), .val (.int s), .val (.int k), .val (.tup rooms), .val (.tup r), .none] S' :=
      lc_map (l := r) (g := fun _ => .bl true) (by simp [asL_ap, all_mapT, ln_tup, ln_lst, ln_fz, tu_lst, tu_tup, it_tup, it_lst, it_fz, sq_tup, sq_lst, bindT_v, lockF, lockS, wipeF, run_ap, outO_rt, outO_nx, outO_ite, evC, evE, evB, evEs, evPs, evT, evTs, evI, frame0, asP, asQ, mbind_ap, bindO_ok, bindO_ite, ite_ap, mret_ap, mopt_some, lift0_ap, liftO_ok, take_val, peek_val, peek_own, peek_lck, take_own, mval_int, mval_str, mval_bl, mval_non, mval_tup, mval_lst, mval_fz, mresL_v, mvals, cLt, cLe, cGt, cGe, cEqI, cNeI, cEqB, cIs, cIsNot, isNon, tBo, tIn, tNo, tTu, tLi, xT, xL, xF, omap_some]) (fun d hd => ⟨[.val (.tup [.int s, .int k, .tup rooms]), .val (.int s), .val (.int k), .val (.tup rooms), .val (.tup r), .val d], by simp [asL_ap, all_mapT, ln_tup, ln_lst, ln_fz, tu_lst, tu_tup, it_tup, it_lst, it_fz, sq_tup, sq_lst, bindT_v, lockF, lockS, wipeF, run_ap, outO_rt, outO_nx, outO_ite, evC, evE, evB, evEs, evPs, evT, evTs, evI, frame0, asP, asQ, mbind_ap, bindO_ok, bindO_ite, ite_ap, mret_ap, mopt_some, lift0_ap, liftO_ok, take_val, peek_val, peek_own, peek_lck, take_own, mval_int, mval_str, mval_bl, mval_non, mval_tup, mval_lst, mval_fz, mresL_v, mvals, cLt, cLe, cGt, cGe, cEqI, cNeI, cEqB, cIs, cIsNot, isNon, tBo, tIn, tNo, tTu, tLi, xT, xL, xF, omap_some, e_is_go n d k _ S' (hrr d hd)]⟩) (by omega)
    simp [asL_ap, all_mapT, ln_tup, ln_lst, ln_fz, tu_lst, tu_tup, it_tup, it_lst, it_fz, sq_tup, sq_lst, bindT_v, lockF, lockS, wipeF, run_ap, outO_rt, outO_nx, outO_ite, evC, evE, evB, evEs, evPs, evT, evTs, evI, frame0, asP, asQ, mbind_ap, bindO_ok, bindO_ite, ite_ap, mret_ap, mopt_some, lift0_ap, liftO_ok, take_val, peek_val, peek_own, peek_lck, take_own, mval_int, mval_str, mval_bl, mval_non, mval_tup, mval_lst, mval_fz, mresL_v, mvals, cLt, cLe, cGt, cGe, cEqI, cNeI, cEqB, cIs, cIsNot, isNon, tBo, tIn, tNo, tTu, tLi, xT, xL, xF, omap_some, b_is_machine_1, e_is_row, hrl, key]
def Price (own : Prop) (d : D) : Prop := (own ∧ d = .int 0) ∨ (¬own ∧ (d = .non ∨ ∃ i : Int, d = .int i ∧ 1 ≤ i ∧ i ≤ 99))
theorem e_is_price (n : Nat) (d : D) (own : Bool) (S : Store) (h : Price (own = true) d) : (callF Pg (n + 2)).f "is_price" [d, .bl own] [] [] S = .ok (.bl true) S := by
  rw [F_eq find_is_price rfl rfl]
  rcases h with ⟨h1, rfl⟩ | ⟨h1, rfl | ⟨i, rfl, h2, h3⟩⟩
  · simp [asL_ap, all_mapT, ln_tup, ln_lst, ln_fz, tu_lst, tu_tup, it_tup, it_lst, it_fz, sq_tup, sq_lst, bindT_v, lockF, lockS, wipeF, run_ap, outO_rt, outO_nx, outO_ite, evC, evE, evB, evEs, evPs, evT, evTs, evI, frame0, asP, asQ, mbind_ap, bindO_ok, bindO_ite, ite_ap, mret_ap, mopt_some, lift0_ap, liftO_ok, take_val, peek_val, peek_own, peek_lck, take_own, mval_int, mval_str, mval_bl, mval_non, mval_tup, mval_lst, mval_fz, mresL_v, mvals, cLt, cLe, cGt, cGe, cEqI, cNeI, cEqB, cIs, cIsNot, isNon, tBo, tIn, tNo, tTu, tLi, xT, xL, xF, omap_some, f_is_price, b_is_price, e_is_whole, h1]
  · have : own = false := by simpa [asL_ap, all_mapT, ln_tup, ln_lst, ln_fz, tu_lst, tu_tup, it_tup, it_lst, it_fz, sq_tup, sq_lst, bindT_v, lockF, lockS, wipeF, run_ap, outO_rt, outO_nx, outO_ite, evC, evE, evB, evEs, evPs, evT, evTs, evI, frame0, asP, asQ, mbind_ap, bindO_ok, bindO_ite, ite_ap, mret_ap, mopt_some, lift0_ap, liftO_ok, take_val, peek_val, peek_own, peek_lck, take_own, mval_int, mval_str, mval_bl, mval_non, mval_tup, mval_lst, mval_fz, mresL_v, mvals, cLt, cLe, cGt, cGe, cEqI, cNeI, cEqB, cIs, cIsNot, isNon, tBo, tIn, tNo, tTu, tLi, xT, xL, xF, omap_some] using h1
    simp [asL_ap, all_mapT, ln_tup, ln_lst, ln_fz, tu_lst, tu_tup, it_tup, it_lst, it_fz, sq_tup, sq_lst, bindT_v, lockF, lockS, wipeF, run_ap, outO_rt, outO_nx, outO_ite, evC, evE, evB, evEs, evPs, evT, evTs, evI, frame0, asP, asQ, mbind_ap, bindO_ok, bindO_ite, ite_ap, mret_ap, mopt_some, lift0_ap, liftO_ok, take_val, peek_val, peek_own, peek_lck, take_own, mval_int, mval_str, mval_bl, mval_non, mval_tup, mval_lst, mval_fz, mresL_v, mvals, cLt, cLe, cGt, cGe, cEqI, cNeI, cEqB, cIs, cIsNot, isNon, tBo, tIn, tNo, tTu, tLi, xT, xL, xF, omap_some, f_is_price, b_is_price, e_is_whole, this]
  · have : own = false := by simpa [asL_ap, all_mapT, ln_tup, ln_lst, ln_fz, tu_lst, tu_tup, it_tup, it_lst, it_fz, sq_tup, sq_lst, bindT_v, lockF, lockS, wipeF, run_ap, outO_rt, outO_nx, outO_ite, evC, evE, evB, evEs, evPs, evT, evTs, evI, frame0, asP, asQ, mbind_ap, bindO_ok, bindO_ite, ite_ap, mret_ap, mopt_some, lift0_ap, liftO_ok, take_val, peek_val, peek_own, peek_lck, take_own, mval_int, mval_str, mval_bl, mval_non, mval_tup, mval_lst, mval_fz, mresL_v, mvals, cLt, cLe, cGt, cGe, cEqI, cNeI, cEqB, cIs, cIsNot, isNon, tBo, tIn, tNo, tTu, tLi, xT, xL, xF, omap_some] using h1
    simp [asL_ap, all_mapT, ln_tup, ln_lst, ln_fz, tu_lst, tu_tup, it_tup, it_lst, it_fz, sq_tup, sq_lst, bindT_v, lockF, lockS, wipeF, run_ap, outO_rt, outO_nx, outO_ite, evC, evE, evB, evEs, evPs, evT, evTs, evI, frame0, asP, asQ, mbind_ap, bindO_ok, bindO_ite, ite_ap, mret_ap, mopt_some, lift0_ap, liftO_ok, take_val, peek_val, peek_own, peek_lck, take_own, mval_int, mval_str, mval_bl, mval_non, mval_tup, mval_lst, mval_fz, mresL_v, mvals, cLt, cLe, cGt, cGe, cEqI, cNeI, cEqB, cIs, cIsNot, isNon, tBo, tIn, tNo, tTu, tLi, xT, xL, xF, omap_some, f_is_price, b_is_price, e_is_whole, this, h2, h3]
theorem enumD_inv : ∀ {l : List D} {k : Int} {i : Nat} {d : D}, (enumD l k)[i]? = some d → ∃ x, l[i]? = some x ∧ d = .tup [.int (k + i), x]
  | [], _, _, _, h => by simp [asL_ap, all_mapT, ln_tup, ln_lst, ln_fz, tu_lst, tu_tup, it_tup, it_lst, it_fz, sq_tup, sq_lst, bindT_v, lockF, lockS, wipeF, run_ap, outO_rt, outO_nx, outO_ite, evC, evE, evB, evEs, evPs, evT, evTs, evI, frame0, asP, asQ, mbind_ap, bindO_ok, bindO_ite, ite_ap, mret_ap, mopt_some, lift0_ap, liftO_ok, take_val, peek_val, peek_own, peek_lck, take_own, mval_int, mval_str, mval_bl, mval_non, mval_tup, mval_lst, mval_fz, mresL_v, mvals, cLt, cLe, cGt, cGe, cEqI, cNeI, cEqB, cIs, cIsNot, isNon, tBo, tIn, tNo, tTu, tLi, xT, xL, xF, omap_some, enumD] at h
  | x :: l, k, 0, d, h => by
    simp [asL_ap, all_mapT, ln_tup, ln_lst, ln_fz, tu_lst, tu_tup, it_tup, it_lst, it_fz, sq_tup, sq_lst, bindT_v, lockF, lockS, wipeF, run_ap, outO_rt, outO_nx, outO_ite, evC, evE, evB, evEs, evPs, evT, evTs, evI, frame0, asP, asQ, mbind_ap, bindO_ok, bindO_ite, ite_ap, mret_ap, mopt_some, lift0_ap, liftO_ok, take_val, peek_val, peek_own, peek_lck, take_own, mval_int, mval_str, mval_bl, mval_non, mval_tup, mval_lst, mval_fz, mresL_v, mvals, cLt, cLe, cGt, cGe, cEqI, cNeI, cEqB, cIs, cIsNot, isNon, tBo, tIn, tNo, tTu, tLi, xT, xL, xF, omap_some, enumD] at h
    exact ⟨x, rfl, by rw [← h]; simp [asL_ap, all_mapT, ln_tup, ln_lst, ln_fz, tu_lst, tu_tup, it_tup, it_lst, it_fz, sq_tup, sq_lst, bindT_v, lockF, lockS, wipeF, run_ap, outO_rt, outO_nx, outO_ite, evC, evE, evB, evEs, evPs, evT, evTs, evI, frame0, asP, asQ, mbind_ap, bindO_ok, bindO_ite, ite_ap, mret_ap, mopt_some, lift0_ap, liftO_ok, take_val, peek_val, peek_own, peek_lck, take_own, mval_int, mval_str, mval_bl, mval_non, mval_tup, mval_lst, mval_fz, mresL_v, mvals, cLt, cLe, cGt, cGe, cEqI, cNeI, cEqB, cIs, cIsNot, isNon, tBo, tIn, tNo, tTu, tLi, xT, xL, xF, omap_some]⟩
  | x :: l, k, i + 1, d, h => by
    unfold enumD at h
    rw [List.getElem?_cons_succ] at h
    obtain ⟨y, e1, e2⟩ := enumD_inv h
    exact ⟨y, by simpa [asL_ap, all_mapT, ln_tup, ln_lst, ln_fz, tu_lst, tu_tup, it_tup, it_lst, it_fz, sq_tup, sq_lst, bindT_v, lockF, lockS, wipeF, run_ap, outO_rt, outO_nx, outO_ite, evC, evE, evB, evEs, evPs, evT, evTs, evI, frame0, asP, asQ, mbind_ap, bindO_ok, bindO_ite, ite_ap, mret_ap, mopt_some, lift0_ap, liftO_ok, take_val, peek_val, peek_own, peek_lck, take_own, mval_int, mval_str, mval_bl, mval_non, mval_tup, mval_lst, mval_fz, mresL_v, mvals, cLt, cLe, cGt, cGe, cEqI, cNeI, cEqB, cIs, cIsNot, isNon, tBo, tIn, tNo, tTu, tLi, xT, xL, xF, omap_some] using e1, by rw [e2]; congr 3; omega⟩
theorem enumD_mem {l : List D} {k : Int} {d : D} (h : d ∈ enumD l k) : ∃ (i : Nat) (x : D), l[i]? = some x ∧ d = .tup [.int (k + i), x] := by
  obtain ⟨i, hi⟩ := List.mem_iff_getElem?.mp h
  obtain ⟨x, e1, e2⟩ := enumD_inv hi
  exact ⟨i, x, e1, e2⟩
def PriceT (k : Int) (d : D) : Prop := ∃ rows : List D, d = .tup rows ∧ (rows.length : Int) = k ∧ ∀ (w : Nat) row, rows[w]? = some row → ∃ l : List D, row = .tup l ∧ (l.length : Int) = k ∧ ∀ (g : Nat) x, l[g]? = some x → Price (g = w) x
theorem e_are_prices (n : Nat) (d : D) (k : Int) (S : Store) (hk : k ≤ 9) (h : PriceT k d) : (callF Pg (n + 3)).f "are_prices" [.int k, d] [] [] S = .ok (.bl true) S := by
  obtain ⟨l, rfl, hl, hr⟩ := h
  rw [F_eq find_are_prices rfl rfl]
  have key := for_inv (t := .tup (.cons (.v 2) (.cons (.v 3) .nil))) (b := evC (callF Pg (n + 2)) Pg.sub b_are_prices_1) (l := enumD l 0) (ρ := [.val (.int k), .val (.tup l), .none, .none, .none, .none]) (S := S)
    (P := fun _ ρ S' => S' = S ∧ ∃ a b, ρ = [.val (.int k), .val (.tup l), a, b, .none, .none]) ⟨rfl, _, _, rfl⟩ ?_
  · obtain ⟨ρ', S', e, rfl, a, b, rfl⟩ := key
    simp [asL_ap, all_mapT, ln_tup, ln_lst, ln_fz, tu_lst, tu_tup, it_tup, it_lst, it_fz, sq_tup, sq_lst, bindT_v, lockF, lockS, wipeF, run_ap, outO_rt, outO_nx, outO_ite, evC, evE, evB, evEs, evPs, evT, evTs, evI, frame0, asP, asQ, mbind_ap, bindO_ok, bindO_ite, ite_ap, mret_ap, mopt_some, lift0_ap, liftO_ok, take_val, peek_val, peek_own, peek_lck, take_own, mval_int, mval_str, mval_bl, mval_non, mval_tup, mval_lst, mval_fz, mresL_v, mvals, cLt, cLe, cGt, cGe, cEqI, cNeI, cEqB, cIs, cIsNot, isNon, tBo, tIn, tNo, tTu, tLi, xT, xL, xF, omap_some, f_are_prices, b_are_prices, e_is_row, hl, e]
  · rintro i x ρ S' hx ⟨rfl, a, b, rfl⟩
    obtain ⟨row, hx1, rfl⟩ := enumD_inv hx
    obtain ⟨r, rfl, hrl, hrr⟩ := hr i row hx1
    refine ⟨[.val (.int k), .val (.tup l), .val (.int (0 + i)), .val (.tup r), .none, .none], S', .nx, ?_, .inl rfl, rfl, _, _, rfl⟩
    have key : fLc (evCl (callF Pg (n + 2)) c_are_prices_0) [.val (.int k), .val (.tup l), .val (.int (0 + i)), .val (.tup r), .none, .none] S' = .ok ((enumD r 0).map fun _ => .bl true) [.val (.int k), .val (.tup l), .val (.int (0 + i)), .val (.tup r), .none, .none] S' :=
      lc_map (l := enumD r 0) (g := fun _ => .bl true) (by simp [asL_ap, all_mapT, ln_tup, ln_lst, ln_fz, tu_lst, tu_tup, it_tup, it_lst, it_fz, sq_tup, sq_lst, bindT_v, lockF, lockS, wipeF, run_ap, outO_rt, outO_nx, outO_ite, evC, evE, evB, evEs, evPs, evT, evTs, evI, frame0, asP, asQ, mbind_ap, bindO_ok, bindO_ite, ite_ap, mret_ap, mopt_some, lift0_ap, liftO_ok, take_val, peek_val, peek_own, peek_lck, take_own, mval_int, mval_str, mval_bl, mval_non, mval_tup, mval_lst, mval_fz, mresL_v, mvals, cLt, cLe, cGt, cGe, cEqI, cNeI, cEqB, cIs, cIsNot, isNon, tBo, tIn, tNo, tTu, tLi, xT, xL, xF, omap_some]) (fun d hd => by
        obtain ⟨g, x, e1, rfl⟩ := enumD_mem hd
        refine ⟨[.val (.int k), .val (.tup l), .val (.int (0 + i)), .val (.tup r), .val (.int (0 + g)), .val x], ?_⟩
        have hp := hrr g x e1
        have : Price (((0 + (g : Int)) == 0 + (i : Int)) = true) x := by
          have e : (((0 + (g : Int)) == 0 + (i : Int)) = true) = (g = i) := by simp [asL_ap, all_mapT, ln_tup, ln_lst, ln_fz, tu_lst, tu_tup, it_tup, it_lst, it_fz, sq_tup, sq_lst, bindT_v, lockF, lockS, wipeF, run_ap, outO_rt, outO_nx, outO_ite, evC, evE, evB, evEs, evPs, evT, evTs, evI, frame0, asP, asQ, mbind_ap, bindO_ok, bindO_ite, ite_ap, mret_ap, mopt_some, lift0_ap, liftO_ok, take_val, peek_val, peek_own, peek_lck, take_own, mval_int, mval_str, mval_bl, mval_non, mval_tup, mval_lst, mval_fz, mresL_v, mvals, cLt, cLe, cGt, cGe, cEqI, cNeI, cEqB, cIs, cIsNot, isNon, tBo, tIn, tNo, tTu, tLi, xT, xL, xF, omap_some]; omega
          rw [e]; exact hp
        simp only [Int.zero_add] at this ⊢
        simp [asL_ap, all_mapT, ln_tup, ln_lst, ln_fz, tu_lst, tu_tup, it_tup, it_lst, it_fz, sq_tup, sq_lst, bindT_v, lockF, lockS, wipeF, run_ap, outO_rt, outO_nx, outO_ite, evC, evE, evB, evEs, evPs, evT, evTs, evI, frame0, asP, asQ, mbind_ap, bindO_ok, bindO_ite, ite_ap, mret_ap, mopt_some, lift0_ap, liftO_ok, take_val, peek_val, peek_own, peek_lck, take_own, mval_int, mval_str, mval_bl, mval_non, mval_tup, mval_lst, mval_fz, mresL_v, mvals, cLt, cLe, cGt, cGe, cEqI, cNeI, cEqB, cIs, cIsNot, isNon, tBo, tIn, tNo, tTu, tLi, xT, xL, xF, omap_some, bindT, bindTs, e_is_price n x _ S' this]) (by rw [enumD_len]; omega)
    simp only [Int.zero_add] at key ⊢
    simp [asL_ap, all_mapT, ln_tup, ln_lst, ln_fz, tu_lst, tu_tup, it_tup, it_lst, it_fz, sq_tup, sq_lst, bindT_v, lockF, lockS, wipeF, run_ap, outO_rt, outO_nx, outO_ite, evC, evE, evB, evEs, evPs, evT, evTs, evI, frame0, asP, asQ, mbind_ap, bindO_ok, bindO_ite, ite_ap, mret_ap, mopt_some, lift0_ap, liftO_ok, take_val, peek_val, peek_own, peek_lck, take_own, mval_int, mval_str, mval_bl, mval_non, mval_tup, mval_lst, mval_fz, mresL_v, mvals, cLt, cLe, cGt, cGe, cEqI, cNeI, cEqB, cIs, cIsNot, isNon, tBo, tIn, tNo, tTu, tLi, xT, xL, xF, omap_some, b_are_prices_1, bindT, bindTs, e_is_row, hrl, key]
theorem e_are_steps (n : Nat) (l : List D) (s k : Int) (S : Store) (h : ∀ x ∈ l, Cell s k x) : (callF Pg (n + 3)).f "are_steps" [.tup l, .int s, .int k] [] [] S = .ok (.bl true) S := by
  rw [F_eq find_are_steps rfl rfl]
  have key := for_inv (t := .v 3) (b := evC (callF Pg (n + 2)) Pg.sub b_are_steps_0) (l := l) (ρ := [.val (.tup l), .val (.int s), .val (.int k), .none]) (S := S)
    (P := fun _ ρ S' => S' = S ∧ ∃ a, ρ = [.val (.tup l), .val (.int s), .val (.int k), a]) ⟨rfl, _, rfl⟩ ?_
  · obtain ⟨ρ', S', e, rfl, a, rfl⟩ := key
    simp [asL_ap, all_mapT, ln_tup, ln_lst, ln_fz, tu_lst, tu_tup, it_tup, it_lst, it_fz, sq_tup, sq_lst, bindT_v, lockF, lockS, wipeF, run_ap, outO_rt, outO_nx, outO_ite, evC, evE, evB, evEs, evPs, evT, evTs, evI, frame0, asP, asQ, mbind_ap, bindO_ok, bindO_ite, ite_ap, mret_ap, mopt_some, lift0_ap, liftO_ok, take_val, peek_val, peek_own, peek_lck, take_own, mval_int, mval_str, mval_bl, mval_non, mval_tup, mval_lst, mval_fz, mresL_v, mvals, cLt, cLe, cGt, cGe, cEqI, cNeI, cEqB, cIs, cIsNot, isNon, tBo, tIn, tNo, tTu, tLi, xT, xL, xF, omap_some, f_are_steps, b_are_steps, isiAny, isiD, e]
  · rintro i x ρ S' hx ⟨rfl, a, rfl⟩
    obtain ⟨i, j, rfl, h1, h2, h3, h4⟩ := h x (List.mem_of_getElem? hx)
    refine ⟨[.val (.tup l), .val (.int s), .val (.int k), .val (.tup [.int i, .int j])], S', .nx, ?_, .inl rfl, rfl, _, rfl⟩
    simp [asL_ap, all_mapT, ln_tup, ln_lst, ln_fz, tu_lst, tu_tup, it_tup, it_lst, it_fz, sq_tup, sq_lst, bindT_v, lockF, lockS, wipeF, run_ap, outO_rt, outO_nx, outO_ite, evC, evE, evB, evEs, evPs, evT, evTs, evI, frame0, asP, asQ, mbind_ap, bindO_ok, bindO_ite, ite_ap, mret_ap, mopt_some, lift0_ap, liftO_ok, take_val, peek_val, peek_own, peek_lck, take_own, mval_int, mval_str, mval_bl, mval_non, mval_tup, mval_lst, mval_fz, mresL_v, mvals, cLt, cLe, cGt, cGe, cEqI, cNeI, cEqB, cIs, cIsNot, isNon, tBo, tIn, tNo, tTu, tLi, xT, xL, xF, omap_some, b_are_steps_0, e_is_row, atD, ixD, e_is_below, h1, h2, h3, h4]
theorem e_need_saying (n : Nat) (d : D) (S : Store) (h : Saying d) : (callF Pg (n + 5)).f "need_saying" [d] [] [] S = .ok .non S := by
  rw [F_eq find_need_saying rfl rfl]
  simp [asL_ap, all_mapT, ln_tup, ln_lst, ln_fz, tu_lst, tu_tup, it_tup, it_lst, it_fz, sq_tup, sq_lst, bindT_v, lockF, lockS, wipeF, run_ap, outO_rt, outO_nx, outO_ite, evC, evE, evB, evEs, evPs, evT, evTs, evI, frame0, asP, asQ, mbind_ap, bindO_ok, bindO_ite, ite_ap, mret_ap, mopt_some, lift0_ap, liftO_ok, take_val, peek_val, peek_own, peek_lck, take_own, mval_int, mval_str, mval_bl, mval_non, mval_tup, mval_lst, mval_fz, mresL_v, mvals, cLt, cLe, cGt, cGe, cEqI, cNeI, cEqB, cIs, cIsNot, isNon, tBo, tIn, tNo, tTu, tLi, xT, xL, xF, omap_some, f_need_saying, b_need_saying, e_is_saying n d S h]
theorem e_need_watcher (n : Nat) (d : D) (S : Store) (h : Watcher d) : (callF Pg (n + 6)).f "need_watcher" [d] [] [] S = .ok .non S := by
  rw [F_eq find_need_watcher rfl rfl]
  simp [asL_ap, all_mapT, ln_tup, ln_lst, ln_fz, tu_lst, tu_tup, it_tup, it_lst, it_fz, sq_tup, sq_lst, bindT_v, lockF, lockS, wipeF, run_ap, outO_rt, outO_nx, outO_ite, evC, evE, evB, evEs, evPs, evT, evTs, evI, frame0, asP, asQ, mbind_ap, bindO_ok, bindO_ite, ite_ap, mret_ap, mopt_some, lift0_ap, liftO_ok, take_val, peek_val, peek_own, peek_lck, take_own, mval_int, mval_str, mval_bl, mval_non, mval_tup, mval_lst, mval_fz, mresL_v, mvals, cLt, cLe, cGt, cGe, cEqI, cNeI, cEqB, cIs, cIsNot, isNon, tBo, tIn, tNo, tTu, tLi, xT, xL, xF, omap_some, f_need_watcher, b_need_watcher, e_is_watcher n d S h]
theorem e_need_machine (n : Nat) (d : D) (S : Store) (h : Machine d) : (callF Pg (n + 5)).f "need_machine" [d] [] [] S = .ok .non S := by
  rw [F_eq find_need_machine rfl rfl]
  simp [asL_ap, all_mapT, ln_tup, ln_lst, ln_fz, tu_lst, tu_tup, it_tup, it_lst, it_fz, sq_tup, sq_lst, bindT_v, lockF, lockS, wipeF, run_ap, outO_rt, outO_nx, outO_ite, evC, evE, evB, evEs, evPs, evT, evTs, evI, frame0, asP, asQ, mbind_ap, bindO_ok, bindO_ite, ite_ap, mret_ap, mopt_some, lift0_ap, liftO_ok, take_val, peek_val, peek_own, peek_lck, take_own, mval_int, mval_str, mval_bl, mval_non, mval_tup, mval_lst, mval_fz, mresL_v, mvals, cLt, cLe, cGt, cGe, cEqI, cNeI, cEqB, cIs, cIsNot, isNon, tBo, tIn, tNo, tTu, tLi, xT, xL, xF, omap_some, f_need_machine, b_need_machine, e_is_machine n d S h]
end K86

namespace K86
open PySem PySem.Spec MP L2 TL
theorem fin100 {P : Int → Prop} (h : ∀ n : Fin 100, P (n.val : Int)) {i : Int} (h1 : 0 ≤ i) (h2 : i < 100) : P i := by
  have := h ⟨i.toNat, by omega⟩
  have e : ((i.toNat : Nat) : Int) = i := by omega
  rw [← e]; exact this
/-- a number's signs -/
def num (i : Int) : Str := ((toString i : String) : Str)
theorem num_eq (i : Int) : Str.ofString i.repr = num i := rfl
theorem num_eq' (i : Int) : Str.ofString (toString i) = num i := rfl
theorem num_log {i : Int} (h1 : 0 ≤ i) (h2 : i < 100) : i.natAbs.log2 < 1920 := fin100 (P := fun i => i.natAbs.log2 < 1920) (by decide +kernel) h1 h2
theorem num_tl {i : Int} (h1 : 0 ≤ i) (h2 : i < 100) : ((tl (num i)).all fun c => decide (48 ≤ c ∧ c ≤ 57)) = true ∧ (num i).length ≤ 2 ∧ 1 ≤ (num i).length :=
  fin100 (P := fun i => ((tl (num i)).all fun c => decide (48 ≤ c ∧ c ≤ 57)) = true ∧ (num i).length ≤ 2 ∧ 1 ≤ (num i).length) (by decide +kernel) h1 h2
theorem st_int {i : Int} (h1 : 0 ≤ i) (h2 : i < 100) : opBl .str [.int i] = some (.str (num i)) := by
  show (if decide (i.natAbs.log2 < 1920) then some (D.str (num i)) else none) = _
  rw [decide_eq_true (num_log h1 h2)]
  rfl
/-- the word of a part -/
def W : D → Str
  | .non => "x"
  | .int i => num i
  | .tup [.int i, .int j] => Str.empty ++ num i ++ ":" ++ num j
  | _ => Str.empty
theorem Bel.mono {m m' : Int} {d : D} (h : Bel m d) (hm : m ≤ m') : Bel m' d := by
  obtain ⟨i, e, h1, h2⟩ := h
  exact ⟨i, e, h1, by omega⟩
theorem Beh.mono {m m' : Int} {d : D} (h : Beh m d) (hm : m ≤ m') : Beh m' d := h.imp id fun h => h.mono hm
theorem Cell.mono {k m k' m' : Int} {d : D} (h : Cell k m d) (hk : k ≤ k') (hm : m ≤ m') : Cell k' m' d := by
  obtain ⟨i, j, e, h1, h2, h3, h4⟩ := h
  exact ⟨i, j, e, h1, by omega, h3, by omega⟩
/-- what can be written -/
def Wd (d : D) : Prop := Beh 100 d ∨ Cell 100 100 d
theorem W_tl {d : D} (h : Wd d) : (W d).length ≤ 5 ∧ 32 ∉ tl (W d) ∧ 47 ∉ tl (W d) ∧ 1 ≤ (W d).length := by
  rcases h with (rfl | ⟨i, rfl, h1, h2⟩) | ⟨i, j, rfl, h1, h2, h3, h4⟩
  · decide +kernel
  · obtain ⟨a, b, c⟩ := num_tl h1 h2
    rw [List.all_eq_true] at a
    refine ⟨by show (num i).length ≤ 5; omega, fun h => ?_, fun h => ?_, c⟩
    · have := of_decide_eq_true (a 32 h); omega
    · have := of_decide_eq_true (a 47 h); omega
  · obtain ⟨a, b, c⟩ := num_tl h1 h2
    obtain ⟨a', b', c'⟩ := num_tl h3 h4
    rw [List.all_eq_true] at a a'
    have e : tl (W (.tup [.int i, .int j])) = tl (num i) ++ ([58] ++ tl (num j)) := by
      show tl (Str.empty ++ num i ++ ":" ++ num j) = _
      rw [tl_append, tl_append, tl_append]
      show [] ++ tl (num i) ++ [58] ++ tl (num j) = _
      simp [asL_ap, all_mapT, ln_tup, ln_lst, ln_fz, tu_lst, tu_tup, it_tup, it_lst, it_fz, sq_tup, sq_lst, bindT_v, lockF, lockS, wipeF, run_ap, outO_rt, outO_nx, outO_ite, evC, evE, evB, evEs, evPs, evT, evTs, evI, frame0, asP, asQ, mbind_ap, bindO_ok, bindO_ite, ite_ap, mret_ap, mopt_some, lift0_ap, liftO_ok, take_val, peek_val, peek_own, peek_lck, take_own, mval_int, mval_str, mval_bl, mval_non, mval_tup, mval_lst, mval_fz, mresL_v, mvals, cLt, cLe, cGt, cGe, cEqI, cNeI, cEqB, cIs, cIsNot, isNon, tBo, tIn, tNo, tTu, tLi, xT, xL, xF, omap_some]
    have el : (W (.tup [.int i, .int j])).length = (num i).length + 1 + (num j).length := by
      show (Str.empty ++ num i ++ ":" ++ num j).length = _
      rw [Str.length_append, Str.length_append, Str.length_append]
      show 0 + _ + 1 + _ = _
      omega
    rw [e, el]
    refine ⟨by omega, fun h => ?_, fun h => ?_, by omega⟩
    · simp only [List.mem_append, List.mem_singleton] at h
      rcases h with h | h | h
      · have := of_decide_eq_true (a 32 h); omega
      · omega
      · have := of_decide_eq_true (a' 32 h); omega
    · simp only [List.mem_append, List.mem_singleton] at h
      rcases h with h | h | h
      · have := of_decide_eq_true (a 47 h); omega
      · omega
      · have := of_decide_eq_true (a' 47 h); omega
theorem e_part_text (n : Nat) (d : D) (S : Store) (h : Beh 100 d) : (callF Pg (n + 1)).f "part_text" [d] [] [] S = .ok (.str (W d)) S := by
  rw [F_eq find_part_text rfl rfl]
  rcases h with rfl | ⟨i, rfl, h1, h2⟩
  · simp [asL_ap, all_mapT, ln_tup, ln_lst, ln_fz, tu_lst, tu_tup, it_tup, it_lst, it_fz, sq_tup, sq_lst, bindT_v, lockF, lockS, wipeF, run_ap, outO_rt, outO_nx, outO_ite, evC, evE, evB, evEs, evPs, evT, evTs, evI, frame0, asP, asQ, mbind_ap, bindO_ok, bindO_ite, ite_ap, mret_ap, mopt_some, lift0_ap, liftO_ok, take_val, peek_val, peek_own, peek_lck, take_own, mval_int, mval_str, mval_bl, mval_non, mval_tup, mval_lst, mval_fz, mresL_v, mvals, cLt, cLe, cGt, cGe, cEqI, cNeI, cEqB, cIs, cIsNot, isNon, tBo, tIn, tNo, tTu, tLi, xT, xL, xF, omap_some, f_part_text, b_part_text, W]
  · simp [asL_ap, all_mapT, ln_tup, ln_lst, ln_fz, tu_lst, tu_tup, it_tup, it_lst, it_fz, sq_tup, sq_lst, bindT_v, lockF, lockS, wipeF, run_ap, outO_rt, outO_nx, outO_ite, evC, evE, evB, evEs, evPs, evT, evTs, evI, frame0, asP, asQ, mbind_ap, bindO_ok, bindO_ite, ite_ap, mret_ap, mopt_some, lift0_ap, liftO_ok, take_val, peek_val, peek_own, peek_lck, take_own, mval_int, mval_str, mval_bl, mval_non, mval_tup, mval_lst, mval_fz, mresL_v, mvals, cLt, cLe, cGt, cGe, cEqI, cNeI, cEqB, cIs, cIsNot, isNon, tBo, tIn, tNo, tTu, tLi, xT, xL, xF, omap_some, f_part_text, b_part_text, W, st_int h1 h2]
theorem fmt_int {i : Int} (h1 : 0 ≤ i) (h2 : i < 100) {ρ : Fr} {S : Store} : (if decide (i.natAbs.log2 < 1920) then (mret (D.str (num i)) : M D) else mstk) ρ S = .ok (.str (num i)) ρ S := by
  rw [decide_eq_true (num_log h1 h2)]
  rfl
theorem e_pair_text (n : Nat) (d : D) (S : Store) (h : Cell 100 100 d) : (callF Pg (n + 1)).f "pair_text" [d] [] [] S = .ok (.str (W d)) S := by
  obtain ⟨i, j, rfl, h1, h2, h3, h4⟩ := h
  rw [F_eq find_pair_text rfl rfl]
  obtain ⟨a, b, c⟩ := num_tl h1 h2
  obtain ⟨a', b', c'⟩ := num_tl h3 h4
  have l1 : okLen (Str.empty ++ num i).length = true := decide_eq_true (by rw [Str.length_append]; show 0 + _ ≤ _; omega)
  have l2 : okLen (Str.empty ++ num i ++ ":").length = true := decide_eq_true (by rw [Str.length_append, Str.length_append]; show 0 + _ + 1 ≤ _; omega)
  have l3 : okLen (Str.empty ++ num i ++ ":" ++ num j).length = true := decide_eq_true (by rw [Str.length_append, Str.length_append, Str.length_append]; show 0 + _ + 1 + _ ≤ _; omega)
  have g1 := num_log h1 h2
  have g2 := num_log h3 h4
  simp [asL_ap, all_mapT, ln_tup, ln_lst, ln_fz, tu_lst, tu_tup, it_tup, it_lst, it_fz, sq_tup, sq_lst, bindT_v, lockF, lockS, wipeF, run_ap, outO_rt, outO_nx, outO_ite, evC, evE, evB, evEs, evPs, evT, evTs, evI, frame0, asP, asQ, mbind_ap, bindO_ok, bindO_ite, ite_ap, mret_ap, mopt_some, lift0_ap, liftO_ok, take_val, peek_val, peek_own, peek_lck, take_own, mval_int, mval_str, mval_bl, mval_non, mval_tup, mval_lst, mval_fz, mresL_v, mvals, cLt, cLe, cGt, cGe, cEqI, cNeI, cEqB, cIs, cIsNot, isNon, tBo, tIn, tNo, tTu, tLi, xT, xL, xF, omap_some, f_pair_text, b_pair_text, W, bindT, bindTs, evJ, g1, g2, num_eq, l1, l2, l3]
end K86

namespace K86
open PySem PySem.Spec MP L2 TL
def line (ws : List Str) : Str := Txt.join " " ws
def page (rows : List (List Str)) : Str := Txt.join " / " (rows.map line)
/-- rows that are not too wide -/
def Fit (r : List Str) : Prop := r.length ≤ 500 ∧ ∀ w ∈ r, w.length ≤ 5
theorem fit_sum {r : List Str} (h : Fit r) : (r.map (·.length)).sum + r.length * (" " : Str).length ≤ 3000 := by
  have h1 := sum_le (f := fun w : Str => w.length) h.2
  have h2 : (" " : Str).length = 1 := by decide
  rw [h2]
  have := h.1
  omega
theorem fit_line {r : List Str} (h : Fit r) : (line r).length ≤ 3000 := by
  have := PySem.StrLaws.join_length_le " " r
  rw [← join_eq] at this
  exact Nat.le_trans this (fit_sum h)
theorem page_sum {rows : List (List Str)} (h : ∀ r ∈ rows, Fit r) (hl : rows.length ≤ 101) : ((rows.map line).map (·.length)).sum + (rows.map line).length * (" / " : Str).length ≤ 310000 := by
  have h1 := sum_le (l := rows) (f := fun r => (line r).length) (c := 3000) fun r hr => fit_line (h r hr)
  have h2 : (" / " : Str).length = 3 := by decide
  rw [h2, List.map_map, List.length_map]
  have e : (List.map ((fun x : Str => x.length) ∘ line) rows).sum = (List.map (fun r => (line r).length) rows).sum := rfl
  rw [e]
  omega
theorem page_len {rows : List (List Str)} (h : ∀ r ∈ rows, Fit r) (hl : rows.length ≤ 101) : (page rows).length ≤ 310000 := by
  have := PySem.StrLaws.join_length_le " / " (rows.map line)
  rw [← join_eq] at this
  exact Nat.le_trans this (page_sum h hl)
abbrev rowD (r : List Str) : D := .lst (r.map D.str)
theorem e_rows_text (n : Nat) (rows : List (List Str)) (S : Store) (h : ∀ r ∈ rows, Fit r) (hl : rows.length ≤ 101) : (callF Pg (n + 1)).f "rows_text" [.lst (rows.map rowD)] [] [] S = .ok (.str (page rows)) S := by
  rw [F_eq find_rows_text rfl rfl]
  have key : fLc (evCl (callF Pg n) c_rows_text_0) [.val (.lst (rows.map rowD)), .none] S = .ok ((rows.map rowD).map fun d => match d with | .lst l => .str (Txt.join " " ((allStr l).getD [])) | _ => .non) [.val (.lst (rows.map rowD)), .none] S :=
    lc_map (l := rows.map rowD) (by simp [asL_ap, fBinL_ap, fLst_ap, all_mapT, ln_tup, ln_lst, ln_fz, tu_lst, tu_tup, it_tup, it_lst, it_fz, sq_tup, sq_lst, bindT_v, lockF, lockS, wipeF, run_ap, outO_rt, outO_nx, outO_ite, evC, evE, evB, evEs, evPs, evT, evTs, evI, evF, frame0, asP, asQ, mbind_ap, bindO_ok, bindO_ite, ite_ap, mret_ap, mopt_some, lift0_ap, liftO_ok, take_val, peek_val, peek_own, peek_lck, take_own, mval_int, mval_str, mval_bl, mval_non, mval_tup, mval_lst, mval_fz, mresL_v, mvals, cLt, cLe, cGt, cGe, cEqI, cNeI, cEqB, cIs, cIsNot, isNon, tBo, tIn, tNo, tTu, tLi, xT, xL, xF, omap_some]) (fun d hd => by
      obtain ⟨r, hr, rfl⟩ := List.mem_map.mp hd
      refine ⟨[.val (.lst (rows.map rowD)), .val (rowD r)], ?_⟩
      have j := join_str (a := " ") (l := r) (Nat.le_trans (fit_sum (h r hr)) (by omega))
      simp [asL_ap, fBinL_ap, fLst_ap, all_mapT, ln_tup, ln_lst, ln_fz, tu_lst, tu_tup, it_tup, it_lst, it_fz, sq_tup, sq_lst, bindT_v, lockF, lockS, wipeF, run_ap, outO_rt, outO_nx, outO_ite, evC, evE, evB, evEs, evPs, evT, evTs, evI, evF, frame0, asP, asQ, mbind_ap, bindO_ok, bindO_ite, ite_ap, mret_ap, mopt_some, lift0_ap, liftO_ok, take_val, peek_val, peek_own, peek_lck, take_own, mval_int, mval_str, mval_bl, mval_non, mval_tup, mval_lst, mval_fz, mresL_v, mvals, cLt, cLe, cGt, cGe, cEqI, cNeI, cEqB, cIs, cIsNot, isNon, tBo, tIn, tNo, tTu, tLi, xT, xL, xF, omap_some, j, allStr_map]) (by rw [List.length_map]; omega)
  have e : ((rows.map rowD).map fun d => match d with | .lst l => D.str (Txt.join " " ((allStr l).getD [])) | _ => .non) = (rows.map line).map D.str := by
    rw [List.map_map, List.map_map]
    refine List.map_congr_left fun r _ => ?_
    simp [asL_ap, fBinL_ap, fLst_ap, all_mapT, ln_tup, ln_lst, ln_fz, tu_lst, tu_tup, it_tup, it_lst, it_fz, sq_tup, sq_lst, bindT_v, lockF, lockS, wipeF, run_ap, outO_rt, outO_nx, outO_ite, evC, evE, evB, evEs, evPs, evT, evTs, evI, evF, frame0, asP, asQ, mbind_ap, bindO_ok, bindO_ite, ite_ap, mret_ap, mopt_some, lift0_ap, liftO_ok, take_val, peek_val, peek_own, peek_lck, take_own, mval_int, mval_str, mval_bl, mval_non, mval_tup, mval_lst, mval_fz, mresL_v, mvals, cLt, cLe, cGt, cGe, cEqI, cNeI, cEqB, cIs, cIsNot, isNon, tBo, tIn, tNo, tTu, tLi, xT, xL, xF, omap_some, allStr_map, line]
  rw [e] at key
  have j := join_str (a := " / ") (l := rows.map line) (Nat.le_trans (page_sum h hl) (by omega))
  simp only [List.map_map] at key j
  simp [asL_ap, fBinL_ap, fLst_ap, all_mapT, ln_tup, ln_lst, ln_fz, tu_lst, tu_tup, it_tup, it_lst, it_fz, sq_tup, sq_lst, bindT_v, lockF, lockS, wipeF, run_ap, outO_rt, outO_nx, outO_ite, evC, evE, evB, evEs, evPs, evT, evTs, evI, evF, frame0, asP, asQ, mbind_ap, bindO_ok, bindO_ite, ite_ap, mret_ap, mopt_some, lift0_ap, liftO_ok, take_val, peek_val, peek_own, peek_lck, take_own, mval_int, mval_str, mval_bl, mval_non, mval_tup, mval_lst, mval_fz, mresL_v, mvals, cLt, cLe, cGt, cGe, cEqI, cNeI, cEqB, cIs, cIsNot, isNon, tBo, tIn, tNo, tTu, tLi, xT, xL, xF, omap_some, f_rows_text, b_rows_text, key, j, page]
def its : D → List D
  | .tup l => l
  | _ => []
def sws (room : D) : List Str := ((its room).flatMap its).map W
def mws (room : D) : List Str := (its room).map W
theorem e_saying_words (n : Nat) (d : D) (s k : Int) (S : Store) (h : Row s (Row k (Beh 100)) d) (hs : s ≤ 9) (hk : k ≤ 9) : (callF Pg (n + 2)).f "saying_words" [d] [] [] S = .ok (rowD (sws d)) S := by
  obtain ⟨l, rfl, hl, hr⟩ := h
  rw [F_eq find_saying_words rfl rfl]
  have key : fLc (evCl (callF Pg (n + 1)) c_saying_words_0) [.val (.tup l), .none, .none] S = .ok (l.flatMap fun x => (its x).map fun y => D.str (W y)) [.val (.tup l), .none, .none] S :=
    lc_pure (l := l) (by simp [asL_ap, fBinL_ap, fLst_ap, all_mapT, ln_tup, ln_lst, ln_fz, tu_lst, tu_tup, it_tup, it_lst, it_fz, sq_tup, sq_lst, bindT_v, lockF, lockS, wipeF, run_ap, outO_rt, outO_nx, outO_ite, evC, evE, evB, evEs, evPs, evT, evTs, evI, evF, frame0, asP, asQ, mbind_ap, bindO_ok, bindO_ite, ite_ap, mret_ap, mopt_some, lift0_ap, liftO_ok, take_val, peek_val, peek_own, peek_lck, take_own, mval_int, mval_str, mval_bl, mval_non, mval_tup, mval_lst, mval_fz, mresL_v, mvals, cLt, cLe, cGt, cGe, cEqI, cNeI, cEqB, cIs, cIsNot, isNon, tBo, tIn, tNo, tTu, tLi, xT, xL, xF, omap_some]) (fun x hx => by
      obtain ⟨r, rfl, hrl, hrr⟩ := hr x hx
      refine ⟨[.val (.tup l), .val (.tup r), .none], ?_⟩
      have k2 : evCl (callF Pg (n + 1)) (.gen (.v 2) [2] (.val (.var 1)) .nil (.fin (.call "part_text" (.cons (.var 2) .nil) [] .nil))) [.val (.tup l), .val (.tup r), .none] S = .ok (r.flatMap fun y => [D.str (W y)]) [.val (.tup l), .val (.tup r), .none] S :=
        cl_pure (l := r) (by simp [asL_ap, fBinL_ap, fLst_ap, all_mapT, ln_tup, ln_lst, ln_fz, tu_lst, tu_tup, it_tup, it_lst, it_fz, sq_tup, sq_lst, bindT_v, lockF, lockS, wipeF, run_ap, outO_rt, outO_nx, outO_ite, evC, evE, evB, evEs, evPs, evT, evTs, evI, evF, frame0, asP, asQ, mbind_ap, bindO_ok, bindO_ite, ite_ap, mret_ap, mopt_some, lift0_ap, liftO_ok, take_val, peek_val, peek_own, peek_lck, take_own, mval_int, mval_str, mval_bl, mval_non, mval_tup, mval_lst, mval_fz, mresL_v, mvals, cLt, cLe, cGt, cGe, cEqI, cNeI, cEqB, cIs, cIsNot, isNon, tBo, tIn, tNo, tTu, tLi, xT, xL, xF, omap_some]) (by rfl) fun y hy => ⟨[.val (.tup l), .val (.tup r), .val y], by simp [asL_ap, fBinL_ap, fLst_ap, all_mapT, ln_tup, ln_lst, ln_fz, tu_lst, tu_tup, it_tup, it_lst, it_fz, sq_tup, sq_lst, bindT_v, lockF, lockS, wipeF, run_ap, outO_rt, outO_nx, outO_ite, evC, evE, evB, evEs, evPs, evT, evTs, evI, evF, frame0, asP, asQ, mbind_ap, bindO_ok, bindO_ite, ite_ap, mret_ap, mopt_some, lift0_ap, liftO_ok, take_val, peek_val, peek_own, peek_lck, take_own, mval_int, mval_str, mval_bl, mval_non, mval_tup, mval_lst, mval_fz, mresL_v, mvals, cLt, cLe, cGt, cGe, cEqI, cNeI, cEqB, cIs, cIsNot, isNon, tBo, tIn, tNo, tTu, tLi, xT, xL, xF, omap_some, evTs_nil, evCl_fin, e_part_text n y S (hrr y hy)]⟩
      rw [fm_one] at k2
      simp [asL_ap, fBinL_ap, fLst_ap, all_mapT, ln_tup, ln_lst, ln_fz, tu_lst, tu_tup, it_tup, it_lst, it_fz, sq_tup, sq_lst, bindT_v, lockF, lockS, wipeF, run_ap, outO_rt, outO_nx, outO_ite, evC, evE, evB, evEs, evPs, evT, evTs, evI, evF, frame0, asP, asQ, mbind_ap, bindO_ok, bindO_ite, ite_ap, mret_ap, mopt_some, lift0_ap, liftO_ok, take_val, peek_val, peek_own, peek_lck, take_own, mval_int, mval_str, mval_bl, mval_non, mval_tup, mval_lst, mval_fz, mresL_v, mvals, cLt, cLe, cGt, cGe, cEqI, cNeI, cEqB, cIs, cIsNot, isNon, tBo, tIn, tNo, tTu, tLi, xT, xL, xF, omap_some, evTs_nil, k2, its]) (by
      have : ∀ l : List D, (∀ x ∈ l, Row k (Beh 100) x) → (l.flatMap fun x => (its x).map fun y => D.str (W y)).length ≤ l.length * 9 := fun l => by
        induction l with
        | nil => intro _; simp [asL_ap, fBinL_ap, fLst_ap, all_mapT, ln_tup, ln_lst, ln_fz, tu_lst, tu_tup, it_tup, it_lst, it_fz, sq_tup, sq_lst, bindT_v, lockF, lockS, wipeF, run_ap, outO_rt, outO_nx, outO_ite, evC, evE, evB, evEs, evPs, evT, evTs, evI, evF, frame0, asP, asQ, mbind_ap, bindO_ok, bindO_ite, ite_ap, mret_ap, mopt_some, lift0_ap, liftO_ok, take_val, peek_val, peek_own, peek_lck, take_own, mval_int, mval_str, mval_bl, mval_non, mval_tup, mval_lst, mval_fz, mresL_v, mvals, cLt, cLe, cGt, cGe, cEqI, cNeI, cEqB, cIs, cIsNot, isNon, tBo, tIn, tNo, tTu, tLi, xT, xL, xF, omap_some]
        | cons x l ih =>
          intro hh
          have h1 := ih fun y hy => hh y (List.mem_cons_of_mem _ hy)
          obtain ⟨r, rfl, hrl, _⟩ := hh x List.mem_cons_self
          rw [List.flatMap_cons, List.length_append, List.length_map, List.length_cons]
          show r.length + _ ≤ _
          omega
      have := this l hr
      omega)
  have e : (l.flatMap fun x => (its x).map fun y => D.str (W y)) = (sws (.tup l)).map D.str := by
    unfold sws
    rw [List.map_map, List.map_flatMap]
    rfl
  rw [e] at key
  simp [asL_ap, fBinL_ap, fLst_ap, all_mapT, ln_tup, ln_lst, ln_fz, tu_lst, tu_tup, it_tup, it_lst, it_fz, sq_tup, sq_lst, bindT_v, lockF, lockS, wipeF, run_ap, outO_rt, outO_nx, outO_ite, evC, evE, evB, evEs, evPs, evT, evTs, evI, evF, frame0, asP, asQ, mbind_ap, bindO_ok, bindO_ite, ite_ap, mret_ap, mopt_some, lift0_ap, liftO_ok, take_val, peek_val, peek_own, peek_lck, take_own, mval_int, mval_str, mval_bl, mval_non, mval_tup, mval_lst, mval_fz, mresL_v, mvals, cLt, cLe, cGt, cGe, cEqI, cNeI, cEqB, cIs, cIsNot, isNon, tBo, tIn, tNo, tTu, tLi, xT, xL, xF, omap_some, f_saying_words, b_saying_words, key]
theorem flat_len {P : D → Prop} {k : Int} (hk : k ≤ 9) : ∀ l : List D, (∀ x ∈ l, Row k P x) → (l.flatMap fun x => (its x).map fun y => D.str (W y)).length ≤ l.length * 9 := fun l => by
  induction l with
  | nil => intro _; simp [asL_ap, fBinL_ap, fLst_ap, all_mapT, ln_tup, ln_lst, ln_fz, tu_lst, tu_tup, it_tup, it_lst, it_fz, sq_tup, sq_lst, bindT_v, lockF, lockS, wipeF, run_ap, outO_rt, outO_nx, outO_ite, evC, evE, evB, evEs, evPs, evT, evTs, evI, evF, frame0, asP, asQ, mbind_ap, bindO_ok, bindO_ite, ite_ap, mret_ap, mopt_some, lift0_ap, liftO_ok, take_val, peek_val, peek_own, peek_lck, take_own, mval_int, mval_str, mval_bl, mval_non, mval_tup, mval_lst, mval_fz, mresL_v, mvals, cLt, cLe, cGt, cGe, cEqI, cNeI, cEqB, cIs, cIsNot, isNon, tBo, tIn, tNo, tTu, tLi, xT, xL, xF, omap_some]
  | cons x l ih =>
    intro hh
    have h1 := ih fun y hy => hh y (List.mem_cons_of_mem _ hy)
    obtain ⟨r, rfl, hrl, _⟩ := hh x List.mem_cons_self
    rw [List.flatMap_cons, List.length_append, List.length_map, List.length_cons]
    show r.length + _ ≤ _
    omega
theorem e_watcher_words (n : Nat) (d : D) (s k : Int) (S : Store) (h : Row s (Row k (Cell 100 100)) d) (hs : s ≤ 9) (hk : k ≤ 9) : (callF Pg (n + 2)).f "watcher_words" [d] [] [] S = .ok (rowD (sws d)) S := by
  obtain ⟨l, rfl, hl, hr⟩ := h
  rw [F_eq find_watcher_words rfl rfl]
  have key : fLc (evCl (callF Pg (n + 1)) c_watcher_words_0) [.val (.tup l), .none, .none] S = .ok (l.flatMap fun x => (its x).map fun y => D.str (W y)) [.val (.tup l), .none, .none] S :=
    lc_pure (l := l) (by simp [asL_ap, fBinL_ap, fLst_ap, all_mapT, ln_tup, ln_lst, ln_fz, tu_lst, tu_tup, it_tup, it_lst, it_fz, sq_tup, sq_lst, bindT_v, lockF, lockS, wipeF, run_ap, outO_rt, outO_nx, outO_ite, evC, evE, evB, evEs, evPs, evT, evTs, evI, evF, frame0, asP, asQ, mbind_ap, bindO_ok, bindO_ite, ite_ap, mret_ap, mopt_some, lift0_ap, liftO_ok, take_val, peek_val, peek_own, peek_lck, take_own, mval_int, mval_str, mval_bl, mval_non, mval_tup, mval_lst, mval_fz, mresL_v, mvals, cLt, cLe, cGt, cGe, cEqI, cNeI, cEqB, cIs, cIsNot, isNon, tBo, tIn, tNo, tTu, tLi, xT, xL, xF, omap_some]) (fun x hx => by
      obtain ⟨r, rfl, hrl, hrr⟩ := hr x hx
      refine ⟨[.val (.tup l), .val (.tup r), .none], ?_⟩
      have k2 : evCl (callF Pg (n + 1)) (.gen (.v 2) [2] (.val (.var 1)) .nil (.fin (.call "pair_text" (.cons (.var 2) .nil) [] .nil))) [.val (.tup l), .val (.tup r), .none] S = .ok (r.flatMap fun y => [D.str (W y)]) [.val (.tup l), .val (.tup r), .none] S :=
        cl_pure (l := r) (by simp [asL_ap, fBinL_ap, fLst_ap, all_mapT, ln_tup, ln_lst, ln_fz, tu_lst, tu_tup, it_tup, it_lst, it_fz, sq_tup, sq_lst, bindT_v, lockF, lockS, wipeF, run_ap, outO_rt, outO_nx, outO_ite, evC, evE, evB, evEs, evPs, evT, evTs, evI, evF, frame0, asP, asQ, mbind_ap, bindO_ok, bindO_ite, ite_ap, mret_ap, mopt_some, lift0_ap, liftO_ok, take_val, peek_val, peek_own, peek_lck, take_own, mval_int, mval_str, mval_bl, mval_non, mval_tup, mval_lst, mval_fz, mresL_v, mvals, cLt, cLe, cGt, cGe, cEqI, cNeI, cEqB, cIs, cIsNot, isNon, tBo, tIn, tNo, tTu, tLi, xT, xL, xF, omap_some]) (by rfl) fun y hy => ⟨[.val (.tup l), .val (.tup r), .val y], by simp [asL_ap, fBinL_ap, fLst_ap, all_mapT, ln_tup, ln_lst, ln_fz, tu_lst, tu_tup, it_tup, it_lst, it_fz, sq_tup, sq_lst, bindT_v, lockF, lockS, wipeF, run_ap, outO_rt, outO_nx, outO_ite, evC, evE, evB, evEs, evPs, evT, evTs, evI, evF, frame0, asP, asQ, mbind_ap, bindO_ok, bindO_ite, ite_ap, mret_ap, mopt_some, lift0_ap, liftO_ok, take_val, peek_val, peek_own, peek_lck, take_own, mval_int, mval_str, mval_bl, mval_non, mval_tup, mval_lst, mval_fz, mresL_v, mvals, cLt, cLe, cGt, cGe, cEqI, cNeI, cEqB, cIs, cIsNot, isNon, tBo, tIn, tNo, tTu, tLi, xT, xL, xF, omap_some, evTs_nil, evCl_fin, e_pair_text n y S (hrr y hy)]⟩
      rw [fm_one] at k2
      simp [asL_ap, fBinL_ap, fLst_ap, all_mapT, ln_tup, ln_lst, ln_fz, tu_lst, tu_tup, it_tup, it_lst, it_fz, sq_tup, sq_lst, bindT_v, lockF, lockS, wipeF, run_ap, outO_rt, outO_nx, outO_ite, evC, evE, evB, evEs, evPs, evT, evTs, evI, evF, frame0, asP, asQ, mbind_ap, bindO_ok, bindO_ite, ite_ap, mret_ap, mopt_some, lift0_ap, liftO_ok, take_val, peek_val, peek_own, peek_lck, take_own, mval_int, mval_str, mval_bl, mval_non, mval_tup, mval_lst, mval_fz, mresL_v, mvals, cLt, cLe, cGt, cGe, cEqI, cNeI, cEqB, cIs, cIsNot, isNon, tBo, tIn, tNo, tTu, tLi, xT, xL, xF, omap_some, evTs_nil, k2, its]) (by
      have := flat_len hk l hr
      omega)
  have e : (l.flatMap fun x => (its x).map fun y => D.str (W y)) = (sws (.tup l)).map D.str := by
    unfold sws
    rw [List.map_map, List.map_flatMap]
    rfl
  rw [e] at key
  simp [asL_ap, fBinL_ap, fLst_ap, all_mapT, ln_tup, ln_lst, ln_fz, tu_lst, tu_tup, it_tup, it_lst, it_fz, sq_tup, sq_lst, bindT_v, lockF, lockS, wipeF, run_ap, outO_rt, outO_nx, outO_ite, evC, evE, evB, evEs, evPs, evT, evTs, evI, evF, frame0, asP, asQ, mbind_ap, bindO_ok, bindO_ite, ite_ap, mret_ap, mopt_some, lift0_ap, liftO_ok, take_val, peek_val, peek_own, peek_lck, take_own, mval_int, mval_str, mval_bl, mval_non, mval_tup, mval_lst, mval_fz, mresL_v, mvals, cLt, cLe, cGt, cGe, cEqI, cNeI, cEqB, cIs, cIsNot, isNon, tBo, tIn, tNo, tTu, tLi, xT, xL, xF, omap_some, f_watcher_words, b_watcher_words, key]
theorem e_machine_words (n : Nat) (d : D) (s : Int) (S : Store) (h : Row s (Cell 100 100) d) (hs : s ≤ 9) : (callF Pg (n + 2)).f "machine_words" [d] [] [] S = .ok (rowD (mws d)) S := by
  obtain ⟨l, rfl, hl, hr⟩ := h
  rw [F_eq find_machine_words rfl rfl]
  have key : fLc (evCl (callF Pg (n + 1)) c_machine_words_0) [.val (.tup l), .none] S = .ok (l.map fun y => D.str (W y)) [.val (.tup l), .none] S :=
    lc_map (l := l) (g := fun y => D.str (W y)) (by simp [asL_ap, fBinL_ap, fLst_ap, all_mapT, ln_tup, ln_lst, ln_fz, tu_lst, tu_tup, it_tup, it_lst, it_fz, sq_tup, sq_lst, bindT_v, lockF, lockS, wipeF, run_ap, outO_rt, outO_nx, outO_ite, evC, evE, evB, evEs, evPs, evT, evTs, evI, evF, frame0, asP, asQ, mbind_ap, bindO_ok, bindO_ite, ite_ap, mret_ap, mopt_some, lift0_ap, liftO_ok, take_val, peek_val, peek_own, peek_lck, take_own, mval_int, mval_str, mval_bl, mval_non, mval_tup, mval_lst, mval_fz, mresL_v, mvals, cLt, cLe, cGt, cGe, cEqI, cNeI, cEqB, cIs, cIsNot, isNon, tBo, tIn, tNo, tTu, tLi, xT, xL, xF, omap_some]) (fun x hx => ⟨[.val (.tup l), .val x], by simp [asL_ap, fBinL_ap, fLst_ap, all_mapT, ln_tup, ln_lst, ln_fz, tu_lst, tu_tup, it_tup, it_lst, it_fz, sq_tup, sq_lst, bindT_v, lockF, lockS, wipeF, run_ap, outO_rt, outO_nx, outO_ite, evC, evE, evB, evEs, evPs, evT, evTs, evI, evF, frame0, asP, asQ, mbind_ap, bindO_ok, bindO_ite, ite_ap, mret_ap, mopt_some, lift0_ap, liftO_ok, take_val, peek_val, peek_own, peek_lck, take_own, mval_int, mval_str, mval_bl, mval_non, mval_tup, mval_lst, mval_fz, mresL_v, mvals, cLt, cLe, cGt, cGe, cEqI, cNeI, cEqB, cIs, cIsNot, isNon, tBo, tIn, tNo, tTu, tLi, xT, xL, xF, omap_some, e_pair_text n x S (hr x hx)]⟩) (by omega)
  have e : (l.map fun y => D.str (W y)) = (mws (.tup l)).map D.str := by
    unfold mws
    rw [List.map_map]
    rfl
  rw [e] at key
  simp [asL_ap, fBinL_ap, fLst_ap, all_mapT, ln_tup, ln_lst, ln_fz, tu_lst, tu_tup, it_tup, it_lst, it_fz, sq_tup, sq_lst, bindT_v, lockF, lockS, wipeF, run_ap, outO_rt, outO_nx, outO_ite, evC, evE, evB, evEs, evPs, evT, evTs, evI, evF, frame0, asP, asQ, mbind_ap, bindO_ok, bindO_ite, ite_ap, mret_ap, mopt_some, lift0_ap, liftO_ok, take_val, peek_val, peek_own, peek_lck, take_own, mval_int, mval_str, mval_bl, mval_non, mval_tup, mval_lst, mval_fz, mresL_v, mvals, cLt, cLe, cGt, cGe, cEqI, cNeI, cEqB, cIs, cIsNot, isNon, tBo, tIn, tNo, tTu, tLi, xT, xL, xF, omap_some, f_machine_words, b_machine_words, key]
/-- the table's text -/
def tpage (s k : Int) (ws : D → List Str) (rooms : List D) : List (List Str) := [num s, num k] :: rooms.map ws
theorem e_table_text (n : Nat) (s k : Int) (rooms : List D) (x : Str) (ws : D → List Str) (S : Store) (h1 : 0 ≤ s) (h2 : s < 100) (h3 : 0 ≤ k) (h4 : k < 100) (hl : rooms.length ≤ 100)
    (hx : ∀ r ∈ rooms, (callF Pg (n + 1)).f x [r] [] [] S = .ok (rowD (ws r)) S ∧ Fit (ws r)) : (callF Pg (n + 2)).f "table_text" [.tup [.int s, .int k, .tup rooms], .fn x] [] [] S = .ok (.str (page (tpage s k ws rooms))) S := by
  rw [F_eq find_table_text rfl rfl]
  have key : fLc (evCl (callF Pg (n + 1)) c_table_text_0) [.val (.tup [.int s, .int k, .tup rooms]), .val (.fn x), .val (.int s), .val (.int k), .val (.tup rooms), .none] S = .ok (rooms.map fun r => rowD (ws r)) [.val (.tup [.int s, .int k, .tup rooms]), .val (.fn x), .val (.int s), .val (.int k), .val (.tup rooms), .none] S :=
    lc_map (l := rooms) (g := fun r => rowD (ws r)) (by simp [asL_ap, fBinL_ap, fLst_ap, all_mapT, ln_tup, ln_lst, ln_fz, tu_lst, tu_tup, it_tup, it_lst, it_fz, sq_tup, sq_lst, bindT_v, lockF, lockS, wipeF, run_ap, outO_rt, outO_nx, outO_ite, evC, evE, evB, evEs, evPs, evT, evTs, evI, evF, frame0, asP, asQ, mbind_ap, bindO_ok, bindO_ite, ite_ap, mret_ap, mopt_some, lift0_ap, liftO_ok, take_val, peek_val, peek_own, peek_lck, take_own, mval_int, mval_str, mval_bl, mval_non, mval_tup, mval_lst, mval_fz, mresL_v, mvals, cLt, cLe, cGt, cGe, cEqI, cNeI, cEqB, cIs, cIsNot, isNon, tBo, tIn, tNo, tTu, tLi, xT, xL, xF, omap_some]) (fun r hr => ⟨[.val (.tup [.int s, .int k, .tup rooms]), .val (.fn x), .val (.int s), .val (.int k), .val (.tup rooms), .val r], by simp [asL_ap, fBinL_ap, fLst_ap, all_mapT, ln_tup, ln_lst, ln_fz, tu_lst, tu_tup, it_tup, it_lst, it_fz, sq_tup, sq_lst, bindT_v, lockF, lockS, wipeF, run_ap, outO_rt, outO_nx, outO_ite, evC, evE, evB, evEs, evPs, evT, evTs, evI, evF, frame0, asP, asQ, mbind_ap, bindO_ok, bindO_ite, ite_ap, mret_ap, mopt_some, lift0_ap, liftO_ok, take_val, peek_val, peek_own, peek_lck, take_own, mval_int, mval_str, mval_bl, mval_non, mval_tup, mval_lst, mval_fz, mresL_v, mvals, cLt, cLe, cGt, cGe, cEqI, cNeI, cEqB, cIs, cIsNot, isNon, tBo, tIn, tNo, tTu, tLi, xT, xL, xF, omap_some, (hx r hr).1]⟩) (by omega)
  have hf : ∀ r ∈ tpage s k ws rooms, Fit r := fun r hr => by
    unfold tpage at hr
    rcases List.mem_cons.mp hr with rfl | hr
    · refine ⟨by simp [asL_ap, fBinL_ap, fLst_ap, all_mapT, ln_tup, ln_lst, ln_fz, tu_lst, tu_tup, it_tup, it_lst, it_fz, sq_tup, sq_lst, bindT_v, lockF, lockS, wipeF, run_ap, outO_rt, outO_nx, outO_ite, evC, evE, evB, evEs, evPs, evT, evTs, evI, evF, frame0, asP, asQ, mbind_ap, bindO_ok, bindO_ite, ite_ap, mret_ap, mopt_some, lift0_ap, liftO_ok, take_val, peek_val, peek_own, peek_lck, take_own, mval_int, mval_str, mval_bl, mval_non, mval_tup, mval_lst, mval_fz, mresL_v, mvals, cLt, cLe, cGt, cGe, cEqI, cNeI, cEqB, cIs, cIsNot, isNon, tBo, tIn, tNo, tTu, tLi, xT, xL, xF, omap_some], fun w hw => ?_⟩
      obtain ⟨a, b, c⟩ := num_tl h1 h2
      obtain ⟨a', b', c'⟩ := num_tl h3 h4
      simp only [List.mem_cons, List.not_mem_nil, or_false] at hw
      rcases hw with rfl | rfl <;> omega
    · obtain ⟨q, hq, rfl⟩ := List.mem_map.mp hr
      exact (hx q hq).2
  have rt := e_rows_text n (tpage s k ws rooms) S hf (by unfold tpage; rw [List.length_cons, List.length_map]; omega)
  have e : (tpage s k ws rooms).map rowD = [D.lst [.str (num s), .str (num k)]] ++ rooms.map fun r => rowD (ws r) := by
    unfold tpage
    rw [List.map_cons, List.map_map]
    rfl
  rw [e] at rt
  have al := addL (a := [D.lst [.str (num s), .str (num k)]]) (b := rooms.map fun r => rowD (ws r)) (by rw [List.length_map, List.length_singleton]; omega)
  rw [List.singleton_append] at rt
  rw [List.singleton_append] at al
  simp [asL_ap, fBinL_ap, fLst_ap, all_mapT, ln_tup, ln_lst, ln_fz, tu_lst, tu_tup, it_tup, it_lst, it_fz, sq_tup, sq_lst, bindT_v, lockF, lockS, wipeF, run_ap, outO_rt, outO_nx, outO_ite, evC, evE, evB, evEs, evPs, evT, evTs, evI, evF, frame0, asP, asQ, mbind_ap, bindO_ok, bindO_ite, ite_ap, mret_ap, mopt_some, lift0_ap, liftO_ok, take_val, peek_val, peek_own, peek_lck, take_own, mval_int, mval_str, mval_bl, mval_non, mval_tup, mval_lst, mval_fz, mresL_v, mvals, cLt, cLe, cGt, cGe, cEqI, cNeI, cEqB, cIs, cIsNot, isNon, tBo, tIn, tNo, tTu, tLi, xT, xL, xF, omap_some, f_table_text, b_table_text, bindT, bindTs, st_int h1 h2, st_int h3 h4, okLen, key, al, rt]
theorem fit_sws {P : D → Prop} {s k : Int} {d : D} (h : Row s (Row k P) d) (hs : s ≤ 9) (hk : k ≤ 9) (hp : ∀ x, P x → Wd x) : Fit (sws d) := by
  obtain ⟨l, rfl, hl, hr⟩ := h
  refine ⟨?_, fun w hw => ?_⟩
  · have := flat_len hk l hr
    have e : (sws (.tup l)).length = (l.flatMap fun x => (its x).map fun y => D.str (W y)).length := by
      unfold sws
      rw [List.length_map, List.length_flatMap, List.length_flatMap]
      simp [asL_ap, fBinL_ap, fLst_ap, all_mapT, ln_tup, ln_lst, ln_fz, tu_lst, tu_tup, it_tup, it_lst, it_fz, sq_tup, sq_lst, bindT_v, lockF, lockS, wipeF, run_ap, outO_rt, outO_nx, outO_ite, evC, evE, evB, evEs, evPs, evT, evTs, evI, evF, frame0, asP, asQ, mbind_ap, bindO_ok, bindO_ite, ite_ap, mret_ap, mopt_some, lift0_ap, liftO_ok, take_val, peek_val, peek_own, peek_lck, take_own, mval_int, mval_str, mval_bl, mval_non, mval_tup, mval_lst, mval_fz, mresL_v, mvals, cLt, cLe, cGt, cGe, cEqI, cNeI, cEqB, cIs, cIsNot, isNon, tBo, tIn, tNo, tTu, tLi, xT, xL, xF, omap_some, its]
    omega
  · unfold sws at hw
    obtain ⟨x, hx, rfl⟩ := List.mem_map.mp hw
    obtain ⟨r, hrm, hxr⟩ := List.mem_flatMap.mp hx
    obtain ⟨r', rfl, _, hp'⟩ := hr r hrm
    exact (W_tl (hp x (hp' x hxr))).1
theorem fit_mws {P : D → Prop} {s : Int} {d : D} (h : Row s P d) (hs : s ≤ 9) (hp : ∀ x, P x → Wd x) : Fit (mws d) := by
  obtain ⟨l, rfl, hl, hr⟩ := h
  refine ⟨by unfold mws; rw [List.length_map]; show l.length ≤ 500; omega, fun w hw => ?_⟩
  unfold mws at hw
  obtain ⟨x, hx, rfl⟩ := List.mem_map.mp hw
  exact (W_tl (hp x (hr x hx))).1
theorem Row.imp {m : Int} {P Q : D → Prop} {d : D} (h : Row m P d) (k : ∀ x, P x → Q x) : Row m Q d := by
  obtain ⟨l, e, h1, h2⟩ := h
  exact ⟨l, e, h1, fun x hx => k x (h2 x hx)⟩
/-- the texts of things -/
def textOf : Nat → D → List (List Str)
  | 2, .tup [.int s, .int k, .tup rooms] => tpage s k mws rooms
  | _, .tup [.int s, .int k, .tup rooms] => tpage s k sws rooms
  | _, _ => []
theorem e_saying_text (n : Nat) (d : D) (S : Store) (h : Saying d) : (callF Pg (n + 6)).f "saying_text" [d] [] [] S = .ok (.str (page (textOf 0 d))) S := by
  have hn := e_need_saying n d S h
  obtain ⟨s, k, rooms, rfl, h1, h2, h3, h4, h5, h6, h7⟩ := h
  rw [F_eq find_saying_text rfl rfl]
  have hr : ∀ r ∈ rooms, Row s (Row k (Beh 100)) r := fun r hr => (h7 r hr).imp fun x hx => hx.imp fun y hy => hy.mono (by omega)
  have ht := e_table_text (n + 3) s k rooms "saying_words" sws S (by omega) (by omega) (by omega) (by omega) h6 fun r hrm => ⟨e_saying_words (n + 2) r s k S (hr r hrm) h2 h4, fit_sws (hr r hrm) h2 h4 fun x hx => .inl hx⟩
  simp [asL_ap, fBinL_ap, fLst_ap, all_mapT, ln_tup, ln_lst, ln_fz, tu_lst, tu_tup, it_tup, it_lst, it_fz, sq_tup, sq_lst, bindT_v, lockF, lockS, wipeF, run_ap, outO_rt, outO_nx, outO_ite, evC, evE, evB, evEs, evPs, evT, evTs, evI, evF, frame0, asP, asQ, mbind_ap, bindO_ok, bindO_ite, ite_ap, mret_ap, mopt_some, lift0_ap, liftO_ok, take_val, peek_val, peek_own, peek_lck, take_own, mval_int, mval_str, mval_bl, mval_non, mval_tup, mval_lst, mval_fz, mresL_v, mvals, cLt, cLe, cGt, cGe, cEqI, cNeI, cEqB, cIs, cIsNot, isNon, tBo, tIn, tNo, tTu, tLi, xT, xL, xF, omap_some, f_saying_text, b_saying_text, hn, ht, textOf]
theorem e_watcher_text (n : Nat) (d : D) (S : Store) (h : Watcher d) : (callF Pg (n + 7)).f "watcher_text" [d] [] [] S = .ok (.str (page (textOf 1 d))) S := by
  have hn := e_need_watcher n d S h
  obtain ⟨s, k, rooms, rfl, h1, h2, h3, h4, h5, h6, h7⟩ := h
  rw [F_eq find_watcher_text rfl rfl]
  have hr : ∀ r ∈ rooms, Row s (Row k (Cell 100 100)) r := fun r hr => (h7 r hr).imp fun x hx => hx.imp fun y hy => hy.mono (by omega) (by omega)
  have ht := e_table_text (n + 4) s k rooms "watcher_words" sws S (by omega) (by omega) (by omega) (by omega) h6 fun r hrm => ⟨e_watcher_words (n + 3) r s k S (hr r hrm) h2 h4, fit_sws (hr r hrm) h2 h4 fun x hx => .inr hx⟩
  simp [asL_ap, fBinL_ap, fLst_ap, all_mapT, ln_tup, ln_lst, ln_fz, tu_lst, tu_tup, it_tup, it_lst, it_fz, sq_tup, sq_lst, bindT_v, lockF, lockS, wipeF, run_ap, outO_rt, outO_nx, outO_ite, evC, evE, evB, evEs, evPs, evT, evTs, evI, evF, frame0, asP, asQ, mbind_ap, bindO_ok, bindO_ite, ite_ap, mret_ap, mopt_some, lift0_ap, liftO_ok, take_val, peek_val, peek_own, peek_lck, take_own, mval_int, mval_str, mval_bl, mval_non, mval_tup, mval_lst, mval_fz, mresL_v, mvals, cLt, cLe, cGt, cGe, cEqI, cNeI, cEqB, cIs, cIsNot, isNon, tBo, tIn, tNo, tTu, tLi, xT, xL, xF, omap_some, f_watcher_text, b_watcher_text, hn, ht, textOf]
theorem e_machine_text (n : Nat) (d : D) (S : Store) (h : Machine d) : (callF Pg (n + 6)).f "machine_text" [d] [] [] S = .ok (.str (page (textOf 2 d))) S := by
  have hn := e_need_machine n d S h
  obtain ⟨s, k, rooms, rfl, h1, h2, h3, h4, h5, h6, h7⟩ := h
  rw [F_eq find_machine_text rfl rfl]
  have hr : ∀ r ∈ rooms, Row s (Cell 100 100) r := fun r hr => (h7 r hr).imp fun x hx => hx.mono (by omega) (by omega)
  have ht := e_table_text (n + 3) s k rooms "machine_words" mws S (by omega) (by omega) (by omega) (by omega) h6 fun r hrm => ⟨e_machine_words (n + 2) r s S (hr r hrm) h2, fit_mws (hr r hrm) h2 fun x hx => .inr hx⟩
  simp [asL_ap, fBinL_ap, fLst_ap, all_mapT, ln_tup, ln_lst, ln_fz, tu_lst, tu_tup, it_tup, it_lst, it_fz, sq_tup, sq_lst, bindT_v, lockF, lockS, wipeF, run_ap, outO_rt, outO_nx, outO_ite, evC, evE, evB, evEs, evPs, evT, evTs, evI, evF, frame0, asP, asQ, mbind_ap, bindO_ok, bindO_ite, ite_ap, mret_ap, mopt_some, lift0_ap, liftO_ok, take_val, peek_val, peek_own, peek_lck, take_own, mval_int, mval_str, mval_bl, mval_non, mval_tup, mval_lst, mval_fz, mresL_v, mvals, cLt, cLe, cGt, cGe, cEqI, cNeI, cEqB, cIs, cIsNot, isNon, tBo, tIn, tNo, tTu, tLi, xT, xL, xF, omap_some, f_machine_text, b_machine_text, hn, ht, textOf]
/-- prices -/
theorem Price.beh {own : Prop} {d : D} (h : Price own d) : Beh 100 d := by
  rcases h with ⟨_, rfl⟩ | ⟨_, rfl | ⟨i, rfl, h1, h2⟩⟩
  · exact .inr ⟨0, rfl, by omega, by omega⟩
  · exact .inl rfl
  · exact .inr ⟨i, rfl, by omega, by omega⟩
theorem PriceT.rows {k : Int} {d : D} (h : PriceT k d) : Row k (Row k (Beh 100)) d := by
  obtain ⟨rows, rfl, hl, hr⟩ := h
  refine ⟨rows, rfl, hl, fun r hrm => ?_⟩
  obtain ⟨w, hw⟩ := List.mem_iff_getElem?.mp hrm
  obtain ⟨l, rfl, h1, h2⟩ := hr w r hw
  refine ⟨l, rfl, h1, fun x hx => ?_⟩
  obtain ⟨g, hg⟩ := List.mem_iff_getElem?.mp hx
  exact (h2 g x hg).beh
def ptext (d : D) : List (List Str) := (its d).map mws
theorem e_prices_text (n : Nat) (d : D) (k : Int) (S : Store) (hk1 : 1 ≤ k) (hk : k ≤ 9) (h : PriceT k d) : (callF Pg (n + 4)).f "prices_text" [d] [] [] S = .ok (.str (page (ptext d))) S := by
  have hp := e_are_prices n d k S hk h
  have hrows := h.rows
  obtain ⟨rows, rfl, hl, hr⟩ := hrows
  rw [F_eq find_prices_text rfl rfl]
  rw [← hl] at hp
  have a1 : (1 : Int) ≤ rows.length := by omega
  have a2 : (rows.length : Int) ≤ 9 := by omega
  have key : fLc (evCl (callF Pg (n + 3)) c_prices_text_1) [.val (.tup rows), .none, .none] S = .ok (rows.map fun r => rowD (mws r)) [.val (.tup rows), .none, .none] S :=
    lc_map (l := rows) (g := fun r => rowD (mws r)) (by simp [asL_ap, fBinL_ap, fLst_ap, all_mapT, ln_tup, ln_lst, ln_fz, tu_lst, tu_tup, it_tup, it_lst, it_fz, sq_tup, sq_lst, bindT_v, lockF, lockS, wipeF, run_ap, outO_rt, outO_nx, outO_ite, evC, evE, evB, evEs, evPs, evT, evTs, evI, evF, frame0, asP, asQ, mbind_ap, bindO_ok, bindO_ite, ite_ap, mret_ap, mopt_some, lift0_ap, liftO_ok, take_val, peek_val, peek_own, peek_lck, take_own, mval_int, mval_str, mval_bl, mval_non, mval_tup, mval_lst, mval_fz, mresL_v, mvals, cLt, cLe, cGt, cGe, cEqI, cNeI, cEqB, cIs, cIsNot, isNon, tBo, tIn, tNo, tTu, tLi, xT, xL, xF, omap_some]) (fun x hx => by
      obtain ⟨r, rfl, hrl, hrr⟩ := hr x hx
      refine ⟨[.val (.tup rows), .none, .val (.tup r)], ?_⟩
      have k2 : fLc (evCl (callF Pg (n + 3)) c_prices_text_0) [.val (.tup rows), .none, .val (.tup r)] S = .ok (r.map fun y => D.str (W y)) [.val (.tup rows), .none, .val (.tup r)] S :=
        lc_map (l := r) (g := fun y => D.str (W y)) (by simp [asL_ap, fBinL_ap, fLst_ap, all_mapT, ln_tup, ln_lst, ln_fz, tu_lst, tu_tup, it_tup, it_lst, it_fz, sq_tup, sq_lst, bindT_v, lockF, lockS, wipeF, run_ap, outO_rt, outO_nx, outO_ite, evC, evE, evB, evEs, evPs, evT, evTs, evI, evF, frame0, asP, asQ, mbind_ap, bindO_ok, bindO_ite, ite_ap, mret_ap, mopt_some, lift0_ap, liftO_ok, take_val, peek_val, peek_own, peek_lck, take_own, mval_int, mval_str, mval_bl, mval_non, mval_tup, mval_lst, mval_fz, mresL_v, mvals, cLt, cLe, cGt, cGe, cEqI, cNeI, cEqB, cIs, cIsNot, isNon, tBo, tIn, tNo, tTu, tLi, xT, xL, xF, omap_some]) (fun y hy => ⟨[.val (.tup rows), .val y, .val (.tup r)], by simp [asL_ap, fBinL_ap, fLst_ap, all_mapT, ln_tup, ln_lst, ln_fz, tu_lst, tu_tup, it_tup, it_lst, it_fz, sq_tup, sq_lst, bindT_v, lockF, lockS, wipeF, run_ap, outO_rt, outO_nx, outO_ite, evC, evE, evB, evEs, evPs, evT, evTs, evI, evF, frame0, asP, asQ, mbind_ap, bindO_ok, bindO_ite, ite_ap, mret_ap, mopt_some, lift0_ap, liftO_ok, take_val, peek_val, peek_own, peek_lck, take_own, mval_int, mval_str, mval_bl, mval_non, mval_tup, mval_lst, mval_fz, mresL_v, mvals, cLt, cLe, cGt, cGe, cEqI, cNeI, cEqB, cIs, cIsNot, isNon, tBo, tIn, tNo, tTu, tLi, xT, xL, xF, omap_some, e_part_text (n + 2) y S (hrr y hy)]⟩) (by omega)
      have e : (r.map fun y => D.str (W y)) = (mws (.tup r)).map D.str := by
        unfold mws
        rw [List.map_map]
        rfl
      rw [e] at k2
      simp [asL_ap, fBinL_ap, fLst_ap, all_mapT, ln_tup, ln_lst, ln_fz, tu_lst, tu_tup, it_tup, it_lst, it_fz, sq_tup, sq_lst, bindT_v, lockF, lockS, wipeF, run_ap, outO_rt, outO_nx, outO_ite, evC, evE, evB, evEs, evPs, evT, evTs, evI, evF, frame0, asP, asQ, mbind_ap, bindO_ok, bindO_ite, ite_ap, mret_ap, mopt_some, lift0_ap, liftO_ok, take_val, peek_val, peek_own, peek_lck, take_own, mval_int, mval_str, mval_bl, mval_non, mval_tup, mval_lst, mval_fz, mresL_v, mvals, cLt, cLe, cGt, cGe, cEqI, cNeI, cEqB, cIs, cIsNot, isNon, tBo, tIn, tNo, tTu, tLi, xT, xL, xF, omap_some, k2]) (by omega)
  have hf : ∀ r ∈ ptext (.tup rows), Fit r := fun r hrm => by
    obtain ⟨q, hq, rfl⟩ := List.mem_map.mp hrm
    exact fit_mws (hr q hq) hk fun x hx => .inl hx
  have rt := e_rows_text (n + 2) (ptext (.tup rows)) S hf (by unfold ptext; rw [List.length_map]; show rows.length ≤ 101; omega)
  have e : (ptext (.tup rows)).map rowD = rows.map fun r => rowD (mws r) := by
    unfold ptext
    rw [List.map_map]
    rfl
  rw [e] at rt
  simp [asL_ap, fBinL_ap, fLst_ap, all_mapT, ln_tup, ln_lst, ln_fz, tu_lst, tu_tup, it_tup, it_lst, it_fz, sq_tup, sq_lst, bindT_v, lockF, lockS, wipeF, run_ap, outO_rt, outO_nx, outO_ite, evC, evE, evB, evEs, evPs, evT, evTs, evI, evF, frame0, asP, asQ, mbind_ap, bindO_ok, bindO_ite, ite_ap, mret_ap, mopt_some, lift0_ap, liftO_ok, take_val, peek_val, peek_own, peek_lck, take_own, mval_int, mval_str, mval_bl, mval_non, mval_tup, mval_lst, mval_fz, mresL_v, mvals, cLt, cLe, cGt, cGe, cEqI, cNeI, cEqB, cIs, cIsNot, isNon, tBo, tIn, tNo, tTu, tLi, xT, xL, xF, omap_some, f_prices_text, b_prices_text, isiAny, isiD, hp, a1, a2, key, rt]
theorem e_run_text (n : Nat) (l : List D) (S : Store) (h : ∀ x ∈ l, Cell 9 9 x) (hl : l.length ≤ 500) : (callF Pg (n + 4)).f "run_text" [.tup l] [] [] S = .ok (.str (if l = [] then "-" else line (mws (.tup l)))) S := by
  have hp := e_are_steps n l 9 9 S h
  rw [F_eq find_run_text rfl rfl]
  have key : fLc (evCl (callF Pg (n + 3)) c_run_text_0) [.val (.tup l), .none] S = .ok (l.map fun y => D.str (W y)) [.val (.tup l), .none] S :=
    lc_map (l := l) (g := fun y => D.str (W y)) (by simp [asL_ap, fBinL_ap, fLst_ap, all_mapT, ln_tup, ln_lst, ln_fz, tu_lst, tu_tup, it_tup, it_lst, it_fz, sq_tup, sq_lst, bindT_v, lockF, lockS, wipeF, run_ap, outO_rt, outO_nx, outO_ite, evC, evE, evB, evEs, evPs, evT, evTs, evI, evF, frame0, asP, asQ, mbind_ap, bindO_ok, bindO_ite, ite_ap, mret_ap, mopt_some, lift0_ap, liftO_ok, take_val, peek_val, peek_own, peek_lck, take_own, mval_int, mval_str, mval_bl, mval_non, mval_tup, mval_lst, mval_fz, mresL_v, mvals, cLt, cLe, cGt, cGe, cEqI, cNeI, cEqB, cIs, cIsNot, isNon, tBo, tIn, tNo, tTu, tLi, xT, xL, xF, omap_some]) (fun x hx => ⟨[.val (.tup l), .val x], by simp [asL_ap, fBinL_ap, fLst_ap, all_mapT, ln_tup, ln_lst, ln_fz, tu_lst, tu_tup, it_tup, it_lst, it_fz, sq_tup, sq_lst, bindT_v, lockF, lockS, wipeF, run_ap, outO_rt, outO_nx, outO_ite, evC, evE, evB, evEs, evPs, evT, evTs, evI, evF, frame0, asP, asQ, mbind_ap, bindO_ok, bindO_ite, ite_ap, mret_ap, mopt_some, lift0_ap, liftO_ok, take_val, peek_val, peek_own, peek_lck, take_own, mval_int, mval_str, mval_bl, mval_non, mval_tup, mval_lst, mval_fz, mresL_v, mvals, cLt, cLe, cGt, cGe, cEqI, cNeI, cEqB, cIs, cIsNot, isNon, tBo, tIn, tNo, tTu, tLi, xT, xL, xF, omap_some, e_pair_text (n + 2) x S ((h x hx).mono (by omega) (by omega))]⟩) (by omega)
  have e : (l.map fun y => D.str (W y)) = (mws (.tup l)).map D.str := by
    unfold mws
    rw [List.map_map]
    rfl
  rw [e] at key
  have hfit : Fit (mws (.tup l)) := ⟨by unfold mws; rw [List.length_map]; exact hl, fun w hw => by
    obtain ⟨x, hx, rfl⟩ := List.mem_map.mp hw
    exact (W_tl (.inr ((h x hx).mono (by omega) (by omega)))).1⟩
  have j := join_str (a := " ") (l := mws (.tup l)) (Nat.le_trans (fit_sum hfit) (by omega))
  cases l with
  | nil => simp [asL_ap, fBinL_ap, fLst_ap, all_mapT, ln_tup, ln_lst, ln_fz, tu_lst, tu_tup, it_tup, it_lst, it_fz, sq_tup, sq_lst, bindT_v, lockF, lockS, wipeF, run_ap, outO_rt, outO_nx, outO_ite, evC, evE, evB, evEs, evPs, evT, evTs, evI, evF, frame0, asP, asQ, mbind_ap, bindO_ok, bindO_ite, ite_ap, mret_ap, mopt_some, lift0_ap, liftO_ok, take_val, peek_val, peek_own, peek_lck, take_own, mval_int, mval_str, mval_bl, mval_non, mval_tup, mval_lst, mval_fz, mresL_v, mvals, cLt, cLe, cGt, cGe, cEqI, cNeI, cEqB, cIs, cIsNot, isNon, tBo, tIn, tNo, tTu, tLi, xT, xL, xF, omap_some, f_run_text, b_run_text, hp]
  | cons x l => simp [asL_ap, fBinL_ap, fLst_ap, all_mapT, ln_tup, ln_lst, ln_fz, tu_lst, tu_tup, it_tup, it_lst, it_fz, sq_tup, sq_lst, bindT_v, lockF, lockS, wipeF, run_ap, outO_rt, outO_nx, outO_ite, evC, evE, evB, evEs, evPs, evT, evTs, evI, evF, frame0, asP, asQ, mbind_ap, bindO_ok, bindO_ite, ite_ap, mret_ap, mopt_some, lift0_ap, liftO_ok, take_val, peek_val, peek_own, peek_lck, take_own, mval_int, mval_str, mval_bl, mval_non, mval_tup, mval_lst, mval_fz, mresL_v, mvals, cLt, cLe, cGt, cGe, cEqI, cNeI, cEqB, cIs, cIsNot, isNon, tBo, tIn, tNo, tTu, tLi, xT, xL, xF, omap_some, f_run_text, b_run_text, hp, key, j, line]
end K86

namespace K86
open PySem PySem.Spec MP L2 TL
theorem empty_app (x : Str) : Str.empty ++ x = x := ext_tl (by rw [tl_append]; rfl)
theorem e_law_word (n : Nat) (d : D) (S : Store) (h : Wd d) : (callF Pg (n + 1)).f "_law_word" [d] [] [] S = .ok (.str (W d)) S := by
  rw [F_eq find__law_word rfl rfl]
  rcases h with (rfl | ⟨i, rfl, h1, h2⟩) | ⟨i, j, rfl, h1, h2, h3, h4⟩
  · simp [asL_ap, fBinL_ap, fLst_ap, fFl_ap, fl_tup, fl_lst, all_mapT, ln_tup, ln_lst, ln_fz, tu_lst, tu_tup, it_tup, it_lst, it_fz, sq_tup, sq_lst, bindT_v, lockF, lockS, wipeF, run_ap, outO_rt, outO_nx, outO_ite, evC, evE, evB, evEs, evPs, evT, evTs, evI, evF, frame0, asP, asQ, mbind_ap, bindO_ok, bindO_ite, ite_ap, mret_ap, mopt_some, lift0_ap, liftO_ok, take_val, peek_val, peek_own, peek_lck, take_own, mval_int, mval_str, mval_bl, mval_non, mval_tup, mval_lst, mval_fz, mresL_v, mvals, cLt, cLe, cGt, cGe, cEqI, cNeI, cEqB, cIs, cIsNot, isNon, tBo, tIn, tNo, tTu, tLi, xT, xL, xF, omap_some, f__law_word, b__law_word, W]
  · simp [asL_ap, fBinL_ap, fLst_ap, fFl_ap, fl_tup, fl_lst, all_mapT, ln_tup, ln_lst, ln_fz, tu_lst, tu_tup, it_tup, it_lst, it_fz, sq_tup, sq_lst, bindT_v, lockF, lockS, wipeF, run_ap, outO_rt, outO_nx, outO_ite, evC, evE, evB, evEs, evPs, evT, evTs, evI, evF, frame0, asP, asQ, mbind_ap, bindO_ok, bindO_ite, ite_ap, mret_ap, mopt_some, lift0_ap, liftO_ok, take_val, peek_val, peek_own, peek_lck, take_own, mval_int, mval_str, mval_bl, mval_non, mval_tup, mval_lst, mval_fz, mresL_v, mvals, cLt, cLe, cGt, cGe, cEqI, cNeI, cEqB, cIs, cIsNot, isNon, tBo, tIn, tNo, tTu, tLi, xT, xL, xF, omap_some, f__law_word, b__law_word, W, isiAny, isiD, st_int h1 h2]
  · obtain ⟨a, b, c⟩ := num_tl h1 h2
    obtain ⟨a', b', c'⟩ := num_tl h3 h4
    have l0 : (":" : Str).length = 1 := by decide
    have l1 := bAddS (a := num i) (b := ":") (by rw [l0]; omega)
    have l2 := bAddS (a := num i ++ ":") (b := num j) (by rw [Str.length_append, l0]; omega)
    simp [asL_ap, fBinL_ap, fLst_ap, fFl_ap, fl_tup, fl_lst, all_mapT, ln_tup, ln_lst, ln_fz, tu_lst, tu_tup, it_tup, it_lst, it_fz, sq_tup, sq_lst, bindT_v, lockF, lockS, wipeF, run_ap, outO_rt, outO_nx, outO_ite, evC, evE, evB, evEs, evPs, evT, evTs, evI, evF, frame0, asP, asQ, mbind_ap, bindO_ok, bindO_ite, ite_ap, mret_ap, mopt_some, lift0_ap, liftO_ok, take_val, peek_val, peek_own, peek_lck, take_own, mval_int, mval_str, mval_bl, mval_non, mval_tup, mval_lst, mval_fz, mresL_v, mvals, cLt, cLe, cGt, cGe, cEqI, cNeI, cEqB, cIs, cIsNot, isNon, tBo, tIn, tNo, tTu, tLi, xT, xL, xF, omap_some, f__law_word, b__law_word, W, isiAny, isiD, atD, ixD, st_int h1 h2, st_int h3 h4, l1, l2, empty_app]
/-- the law's rows -/
theorem e_law_lines (n : Nat) (rows : List (List D)) (S : Store) (h : ∀ r ∈ rows, r.length ≤ 500 ∧ ∀ x ∈ r, Wd x) (hl : rows.length ≤ 101) : (callF Pg (n + 2)).f "_law_lines" [.lst (rows.map D.lst)] [] [] S = .ok (.str (page (rows.map fun r => r.map W))) S := by
  rw [F_eq find__law_lines rfl rfl]
  have fit : ∀ r ∈ rows, Fit (r.map W) := fun r hr => ⟨by rw [List.length_map]; exact (h r hr).1, fun w hw => by
    obtain ⟨x, hx, rfl⟩ := List.mem_map.mp hw
    exact (W_tl ((h r hr).2 x hx)).1⟩
  have key : fLc (evCl (callF Pg (n + 1)) c__law_lines_1) [.val (.lst (rows.map D.lst)), .none, .none] S = .ok ((rows.map D.lst).map fun d => match d with | .lst l => .str (line (l.map W)) | _ => .non) [.val (.lst (rows.map D.lst)), .none, .none] S :=
    lc_map (l := rows.map D.lst) (by simp [asL_ap, fBinL_ap, fLst_ap, fFl_ap, fl_tup, fl_lst, all_mapT, ln_tup, ln_lst, ln_fz, tu_lst, tu_tup, it_tup, it_lst, it_fz, sq_tup, sq_lst, bindT_v, lockF, lockS, wipeF, run_ap, outO_rt, outO_nx, outO_ite, evC, evE, evB, evEs, evPs, evT, evTs, evI, evF, frame0, asP, asQ, mbind_ap, bindO_ok, bindO_ite, ite_ap, mret_ap, mopt_some, lift0_ap, liftO_ok, take_val, peek_val, peek_own, peek_lck, take_own, mval_int, mval_str, mval_bl, mval_non, mval_tup, mval_lst, mval_fz, mresL_v, mvals, cLt, cLe, cGt, cGe, cEqI, cNeI, cEqB, cIs, cIsNot, isNon, tBo, tIn, tNo, tTu, tLi, xT, xL, xF, omap_some]) (fun d hd => by
      obtain ⟨r, hr, rfl⟩ := List.mem_map.mp hd
      refine ⟨[.val (.lst (rows.map D.lst)), .none, .val (.lst r)], ?_⟩
      have k2 : fLc (evCl (callF Pg (n + 1)) c__law_lines_0) [.val (.lst (rows.map D.lst)), .none, .val (.lst r)] S = .ok (r.map fun y => D.str (W y)) [.val (.lst (rows.map D.lst)), .none, .val (.lst r)] S :=
        lc_map (l := r) (g := fun y => D.str (W y)) (by simp [asL_ap, fBinL_ap, fLst_ap, fFl_ap, fl_tup, fl_lst, all_mapT, ln_tup, ln_lst, ln_fz, tu_lst, tu_tup, it_tup, it_lst, it_fz, sq_tup, sq_lst, bindT_v, lockF, lockS, wipeF, run_ap, outO_rt, outO_nx, outO_ite, evC, evE, evB, evEs, evPs, evT, evTs, evI, evF, frame0, asP, asQ, mbind_ap, bindO_ok, bindO_ite, ite_ap, mret_ap, mopt_some, lift0_ap, liftO_ok, take_val, peek_val, peek_own, peek_lck, take_own, mval_int, mval_str, mval_bl, mval_non, mval_tup, mval_lst, mval_fz, mresL_v, mvals, cLt, cLe, cGt, cGe, cEqI, cNeI, cEqB, cIs, cIsNot, isNon, tBo, tIn, tNo, tTu, tLi, xT, xL, xF, omap_some]) (fun y hy => ⟨[.val (.lst (rows.map D.lst)), .val y, .val (.lst r)], by simp [asL_ap, fBinL_ap, fLst_ap, fFl_ap, fl_tup, fl_lst, all_mapT, ln_tup, ln_lst, ln_fz, tu_lst, tu_tup, it_tup, it_lst, it_fz, sq_tup, sq_lst, bindT_v, lockF, lockS, wipeF, run_ap, outO_rt, outO_nx, outO_ite, evC, evE, evB, evEs, evPs, evT, evTs, evI, evF, frame0, asP, asQ, mbind_ap, bindO_ok, bindO_ite, ite_ap, mret_ap, mopt_some, lift0_ap, liftO_ok, take_val, peek_val, peek_own, peek_lck, take_own, mval_int, mval_str, mval_bl, mval_non, mval_tup, mval_lst, mval_fz, mresL_v, mvals, cLt, cLe, cGt, cGe, cEqI, cNeI, cEqB, cIs, cIsNot, isNon, tBo, tIn, tNo, tTu, tLi, xT, xL, xF, omap_some, e_law_word n y S ((h r hr).2 y hy)]⟩) (by have := (h r hr).1; omega)
      have e : (r.map fun y => D.str (W y)) = (r.map W).map D.str := by
        rw [List.map_map]
        rfl
      rw [e] at k2
      have j := join_str (a := " ") (l := r.map W) (Nat.le_trans (fit_sum (fit r hr)) (by omega))
      simp only [List.map_map] at k2 j
      simp [asL_ap, fBinL_ap, fLst_ap, fFl_ap, fl_tup, fl_lst, all_mapT, ln_tup, ln_lst, ln_fz, tu_lst, tu_tup, it_tup, it_lst, it_fz, sq_tup, sq_lst, bindT_v, lockF, lockS, wipeF, run_ap, outO_rt, outO_nx, outO_ite, evC, evE, evB, evEs, evPs, evT, evTs, evI, evF, frame0, asP, asQ, mbind_ap, bindO_ok, bindO_ite, ite_ap, mret_ap, mopt_some, lift0_ap, liftO_ok, take_val, peek_val, peek_own, peek_lck, take_own, mval_int, mval_str, mval_bl, mval_non, mval_tup, mval_lst, mval_fz, mresL_v, mvals, cLt, cLe, cGt, cGe, cEqI, cNeI, cEqB, cIs, cIsNot, isNon, tBo, tIn, tNo, tTu, tLi, xT, xL, xF, omap_some, k2, j, line]) (by rw [List.length_map]; omega)
  have e : ((rows.map D.lst).map fun d => match d with | .lst l => D.str (line (l.map W)) | _ => .non) = ((rows.map fun r => r.map W).map line).map D.str := by
    rw [List.map_map, List.map_map, List.map_map]
    rfl
  rw [e] at key
  have j := join_str (a := " / ") (l := (rows.map fun r => r.map W).map line) (Nat.le_trans (page_sum (rows := rows.map fun r => r.map W) (fun r hr => by
    obtain ⟨q, hq, rfl⟩ := List.mem_map.mp hr
    exact fit q hq) (by rw [List.length_map]; exact hl)) (by omega))
  simp only [List.map_map] at key j
  simp [asL_ap, fBinL_ap, fLst_ap, fFl_ap, fl_tup, fl_lst, all_mapT, ln_tup, ln_lst, ln_fz, tu_lst, tu_tup, it_tup, it_lst, it_fz, sq_tup, sq_lst, bindT_v, lockF, lockS, wipeF, run_ap, outO_rt, outO_nx, outO_ite, evC, evE, evB, evEs, evPs, evT, evTs, evI, evF, frame0, asP, asQ, mbind_ap, bindO_ok, bindO_ite, ite_ap, mret_ap, mopt_some, lift0_ap, liftO_ok, take_val, peek_val, peek_own, peek_lck, take_own, mval_int, mval_str, mval_bl, mval_non, mval_tup, mval_lst, mval_fz, mresL_v, mvals, cLt, cLe, cGt, cGe, cEqI, cNeI, cEqB, cIs, cIsNot, isNon, tBo, tIn, tNo, tTu, tLi, xT, xL, xF, omap_some, f__law_lines, b__law_lines, key, j, page]
theorem e_law_flat (n : Nat) {P : D → Prop} (d : D) (s k : Int) (S : Store) (h : Row s (Row k P) d) (hs : s ≤ 9) (hk : k ≤ 9) : (callF Pg (n + 1)).f "_law_flat" [d] [] [] S = .ok (.lst ((its d).flatMap its)) S := by
  obtain ⟨l, rfl, hl, hr⟩ := h
  rw [F_eq find__law_flat rfl rfl]
  have bound : ∀ i, ((l.take i).flatMap its).length ≤ 81 := fun i => by
    have h1 := flat_len (P := P) hk (l.take i) fun x hx => hr x (List.mem_of_mem_take hx)
    have h2 : (l.take i).length ≤ l.length := by rw [List.length_take]; omega
    have e : ((l.take i).flatMap its).length = ((l.take i).flatMap fun x => (its x).map fun y => D.str (W y)).length := by
      rw [List.length_flatMap, List.length_flatMap]
      simp [asL_ap, fBinL_ap, fLst_ap, fFl_ap, fl_tup, fl_lst, all_mapT, ln_tup, ln_lst, ln_fz, tu_lst, tu_tup, it_tup, it_lst, it_fz, sq_tup, sq_lst, bindT_v, lockF, lockS, wipeF, run_ap, outO_rt, outO_nx, outO_ite, evC, evE, evB, evEs, evPs, evT, evTs, evI, evF, frame0, asP, asQ, mbind_ap, bindO_ok, bindO_ite, ite_ap, mret_ap, mopt_some, lift0_ap, liftO_ok, take_val, peek_val, peek_own, peek_lck, take_own, mval_int, mval_str, mval_bl, mval_non, mval_tup, mval_lst, mval_fz, mresL_v, mvals, cLt, cLe, cGt, cGe, cEqI, cNeI, cEqB, cIs, cIsNot, isNon, tBo, tIn, tNo, tTu, tLi, xT, xL, xF, omap_some]
    omega
  have key := for_inv (t := .v 2) (b := evC (callF Pg n) Pg.sub b__law_flat_0) (l := l) (ρ := [.val (.tup l), .own (.lst []), .none]) (S := S)
    (P := fun i ρ S' => S' = S ∧ ∃ a, ρ = [.val (.tup l), .own (.lst ((l.take i).flatMap its)), a]) ⟨rfl, _, rfl⟩ ?_
  · obtain ⟨ρ', S', e, rfl, a, rfl⟩ := key
    rw [List.take_length] at e
    simp [asL_ap, fBinL_ap, fLst_ap, fFl_ap, fl_tup, fl_lst, all_mapT, ln_tup, ln_lst, ln_fz, tu_lst, tu_tup, it_tup, it_lst, it_fz, sq_tup, sq_lst, bindT_v, lockF, lockS, wipeF, run_ap, outO_rt, outO_nx, outO_ite, evC, evE, evB, evEs, evPs, evT, evTs, evI, evF, frame0, asP, asQ, mbind_ap, bindO_ok, bindO_ite, ite_ap, mret_ap, mopt_some, lift0_ap, liftO_ok, take_val, peek_val, peek_own, peek_lck, take_own, mval_int, mval_str, mval_bl, mval_non, mval_tup, mval_lst, mval_fz, mresL_v, mvals, cLt, cLe, cGt, cGe, cEqI, cNeI, cEqB, cIs, cIsNot, isNon, tBo, tIn, tNo, tTu, tLi, xT, xL, xF, omap_some, f__law_flat, b__law_flat, okLen, e, its]
  · rintro i x ρ S' hx ⟨rfl, a, rfl⟩
    obtain ⟨r, rfl, hrl, hrr⟩ := hr x (List.mem_of_getElem? hx)
    refine ⟨[.val (.tup l), .own (.lst ((l.take (i + 1)).flatMap its)), .val (.tup r)], S', .nx, ?_, .inl rfl, rfl, _, rfl⟩
    have e : (l.take (i + 1)).flatMap its = (l.take i).flatMap its ++ r := by
      rw [List.take_add_one, hx]
      simp [asL_ap, fBinL_ap, fLst_ap, fFl_ap, fl_tup, fl_lst, all_mapT, ln_tup, ln_lst, ln_fz, tu_lst, tu_tup, it_tup, it_lst, it_fz, sq_tup, sq_lst, bindT_v, lockF, lockS, wipeF, run_ap, outO_rt, outO_nx, outO_ite, evC, evE, evB, evEs, evPs, evT, evTs, evI, evF, frame0, asP, asQ, mbind_ap, bindO_ok, bindO_ite, ite_ap, mret_ap, mopt_some, lift0_ap, liftO_ok, take_val, peek_val, peek_own, peek_lck, take_own, mval_int, mval_str, mval_bl, mval_non, mval_tup, mval_lst, mval_fz, mresL_v, mvals, cLt, cLe, cGt, cGe, cEqI, cNeI, cEqB, cIs, cIsNot, isNon, tBo, tIn, tNo, tTu, tLi, xT, xL, xF, omap_some, its]
    have c := chg_own (ρ := [.val (.tup l), .own (.lst ((l.take i).flatMap its)), .val (.tup r)]) (S := S') (i := 1) (o := .lst ((l.take i).flatMap its)) (f := addTo r) rfl (addTo_ok (by have := bound i; omega))
    rw [e]
    have mv := mval_own (ρ := [.val (.tup l), .own (.lst ((l.take i).flatMap its)), .val (.tup r)]) (S := S') (i := 1) (l := (l.take i).flatMap its) rfl
    simp [asL_ap, fBinL_ap, fLst_ap, fFl_ap, fl_tup, fl_lst, all_mapT, ln_tup, ln_lst, ln_fz, tu_lst, tu_tup, it_tup, it_lst, it_fz, sq_tup, sq_lst, bindT_v, lockF, lockS, wipeF, run_ap, outO_rt, outO_nx, outO_ite, evC, evE, evB, evEs, evPs, evT, evTs, evI, evF, frame0, asP, asQ, mbind_ap, bindO_ok, bindO_ite, ite_ap, mret_ap, mopt_some, lift0_ap, liftO_ok, take_val, peek_val, peek_own, peek_lck, take_own, mval_int, mval_str, mval_bl, mval_non, mval_tup, mval_lst, mval_fz, mresL_v, mvals, cLt, cLe, cGt, cGe, cEqI, cNeI, cEqB, cIs, cIsNot, isNon, tBo, tIn, tNo, tTu, tLi, xT, xL, xF, omap_some, b__law_flat_0, mv, c]
/-- what the law writes -/
theorem e_law_written01 (n : Nat) {P : D → Prop} (d : D) (kind s k : Int) (rooms : List D) (S : Store) (hkd : kind < 2) (h1 : 0 ≤ s) (h2 : s ≤ 9) (h3 : 0 ≤ k) (h4 : k ≤ 9) (hl : rooms.length ≤ 100) (hr : ∀ r ∈ rooms, Row s (Row k P) r) (hp : ∀ x, P x → Wd x) :
    (callF Pg (n + 3)).f "_law_written" [.int kind, .tup [.int s, .int k, .tup rooms]] [] [] S = .ok (.str (page (tpage s k sws rooms))) S := by
  rw [F_eq find__law_written rfl rfl]
  have key : fLc (evCl (callF Pg (n + 2)) c__law_written_2) [.val (.int kind), .val (.tup [.int s, .int k, .tup rooms]), .none, .none] S = .ok (rooms.map fun r => D.lst ((its r).flatMap its)) [.val (.int kind), .val (.tup [.int s, .int k, .tup rooms]), .none, .none] S :=
    lc_map (l := rooms) (g := fun r => D.lst ((its r).flatMap its)) (by simp [asL_ap, fBinL_ap, fLst_ap, fFl_ap, fl_tup, fl_lst, all_mapT, ln_tup, ln_lst, ln_fz, tu_lst, tu_tup, it_tup, it_lst, it_fz, sq_tup, sq_lst, bindT_v, lockF, lockS, wipeF, run_ap, outO_rt, outO_nx, outO_ite, evC, evE, evB, evEs, evPs, evT, evTs, evI, evF, frame0, asP, asQ, mbind_ap, bindO_ok, bindO_ite, ite_ap, mret_ap, mopt_some, lift0_ap, liftO_ok, take_val, peek_val, peek_own, peek_lck, take_own, mval_int, mval_str, mval_bl, mval_non, mval_tup, mval_lst, mval_fz, mresL_v, mvals, cLt, cLe, cGt, cGe, cEqI, cNeI, cEqB, cIs, cIsNot, isNon, tBo, tIn, tNo, tTu, tLi, xT, xL, xF, omap_some, atD, ixD]) (fun r hrm => ⟨[.val (.int kind), .val (.tup [.int s, .int k, .tup rooms]), .val r, .none], by simp [asL_ap, fBinL_ap, fLst_ap, fFl_ap, fl_tup, fl_lst, all_mapT, ln_tup, ln_lst, ln_fz, tu_lst, tu_tup, it_tup, it_lst, it_fz, sq_tup, sq_lst, bindT_v, lockF, lockS, wipeF, run_ap, outO_rt, outO_nx, outO_ite, evC, evE, evB, evEs, evPs, evT, evTs, evI, evF, frame0, asP, asQ, mbind_ap, bindO_ok, bindO_ite, ite_ap, mret_ap, mopt_some, lift0_ap, liftO_ok, take_val, peek_val, peek_own, peek_lck, take_own, mval_int, mval_str, mval_bl, mval_non, mval_tup, mval_lst, mval_fz, mresL_v, mvals, cLt, cLe, cGt, cGe, cEqI, cNeI, cEqB, cIs, cIsNot, isNon, tBo, tIn, tNo, tTu, tLi, xT, xL, xF, omap_some, e_law_flat (n + 1) r s k S (hr r hrm) h2 h4]⟩) (by omega)
  have lines := e_law_lines n ([D.int s, D.int k] :: rooms.map fun r => (its r).flatMap its) S (fun r hrm => by
    rcases List.mem_cons.mp hrm with rfl | hrm
    · refine ⟨by simp [asL_ap, fBinL_ap, fLst_ap, fFl_ap, fl_tup, fl_lst, all_mapT, ln_tup, ln_lst, ln_fz, tu_lst, tu_tup, it_tup, it_lst, it_fz, sq_tup, sq_lst, bindT_v, lockF, lockS, wipeF, run_ap, outO_rt, outO_nx, outO_ite, evC, evE, evB, evEs, evPs, evT, evTs, evI, evF, frame0, asP, asQ, mbind_ap, bindO_ok, bindO_ite, ite_ap, mret_ap, mopt_some, lift0_ap, liftO_ok, take_val, peek_val, peek_own, peek_lck, take_own, mval_int, mval_str, mval_bl, mval_non, mval_tup, mval_lst, mval_fz, mresL_v, mvals, cLt, cLe, cGt, cGe, cEqI, cNeI, cEqB, cIs, cIsNot, isNon, tBo, tIn, tNo, tTu, tLi, xT, xL, xF, omap_some], fun x hx => ?_⟩
      simp only [List.mem_cons, List.not_mem_nil, or_false] at hx
      rcases hx with rfl | rfl
      · exact .inl (.inr ⟨s, rfl, h1, by omega⟩)
      · exact .inl (.inr ⟨k, rfl, h3, by omega⟩)
    · obtain ⟨q, hq, rfl⟩ := List.mem_map.mp hrm
      obtain ⟨l, rfl, hll, hlr⟩ := hr q hq
      have fl := flat_len (P := P) h4 l hlr
      have e : (l.flatMap its).length = (l.flatMap fun x => (its x).map fun y => D.str (W y)).length := by
        rw [List.length_flatMap, List.length_flatMap]
        simp [asL_ap, fBinL_ap, fLst_ap, fFl_ap, fl_tup, fl_lst, all_mapT, ln_tup, ln_lst, ln_fz, tu_lst, tu_tup, it_tup, it_lst, it_fz, sq_tup, sq_lst, bindT_v, lockF, lockS, wipeF, run_ap, outO_rt, outO_nx, outO_ite, evC, evE, evB, evEs, evPs, evT, evTs, evI, evF, frame0, asP, asQ, mbind_ap, bindO_ok, bindO_ite, ite_ap, mret_ap, mopt_some, lift0_ap, liftO_ok, take_val, peek_val, peek_own, peek_lck, take_own, mval_int, mval_str, mval_bl, mval_non, mval_tup, mval_lst, mval_fz, mresL_v, mvals, cLt, cLe, cGt, cGe, cEqI, cNeI, cEqB, cIs, cIsNot, isNon, tBo, tIn, tNo, tTu, tLi, xT, xL, xF, omap_some]
      refine ⟨by show (l.flatMap its).length ≤ 500; omega, fun x hx => ?_⟩
      obtain ⟨r', hr', hx'⟩ := List.mem_flatMap.mp hx
      obtain ⟨l', rfl, _, hp'⟩ := hlr r' hr'
      exact hp x (hp' x hx')) (by rw [List.length_cons, List.length_map]; omega)
  rw [List.map_cons, List.map_map] at lines
  rw [List.map_cons, List.map_map] at lines
  have e2 : tpage s k sws rooms = [D.int s, D.int k].map W :: rooms.map ((fun r => r.map W) ∘ fun r => (its r).flatMap its) := rfl
  rw [← e2] at lines
  have al := addL (a := [D.lst [.int s, .int k]]) (b := rooms.map fun r => D.lst ((its r).flatMap its)) (by rw [List.length_map, List.length_singleton]; omega)
  rw [List.singleton_append] at al
  have e3 : (List.map (D.lst ∘ fun r => (its r).flatMap its) rooms) = rooms.map fun r => D.lst ((its r).flatMap its) := rfl
  rw [e3] at lines
  simp [asL_ap, fBinL_ap, fLst_ap, fFl_ap, fl_tup, fl_lst, all_mapT, ln_tup, ln_lst, ln_fz, tu_lst, tu_tup, it_tup, it_lst, it_fz, sq_tup, sq_lst, bindT_v, lockF, lockS, wipeF, run_ap, outO_rt, outO_nx, outO_ite, evC, evE, evB, evEs, evPs, evT, evTs, evI, evF, frame0, asP, asQ, mbind_ap, bindO_ok, bindO_ite, ite_ap, mret_ap, mopt_some, lift0_ap, liftO_ok, take_val, peek_val, peek_own, peek_lck, take_own, mval_int, mval_str, mval_bl, mval_non, mval_tup, mval_lst, mval_fz, mresL_v, mvals, cLt, cLe, cGt, cGe, cEqI, cNeI, cEqB, cIs, cIsNot, isNon, tBo, tIn, tNo, tTu, tLi, xT, xL, xF, omap_some, f__law_written, b__law_written, hkd, atD, ixD, okLen, key, al, lines]
theorem e_law_written2 (n : Nat) {P : D → Prop} (s k : Int) (rooms : List D) (S : Store) (h1 : 0 ≤ s) (h2 : s ≤ 9) (h3 : 0 ≤ k) (h4 : k ≤ 9) (hl : rooms.length ≤ 100) (hr : ∀ r ∈ rooms, Row s P r) (hp : ∀ x, P x → Wd x) :
    (callF Pg (n + 3)).f "_law_written" [.int 2, .tup [.int s, .int k, .tup rooms]] [] [] S = .ok (.str (page (tpage s k mws rooms))) S := by
  rw [F_eq find__law_written rfl rfl]
  have key : fLc (evCl (callF Pg (n + 2)) c__law_written_1) [.val (.int 2), .val (.tup [.int s, .int k, .tup rooms]), .none, .none] S = .ok (rooms.map fun r => D.lst (its r)) [.val (.int 2), .val (.tup [.int s, .int k, .tup rooms]), .none, .none] S :=
    lc_map (l := rooms) (g := fun r => D.lst (its r)) (by simp [asL_ap, fBinL_ap, fLst_ap, fFl_ap, fl_tup, fl_lst, all_mapT, ln_tup, ln_lst, ln_fz, tu_lst, tu_tup, it_tup, it_lst, it_fz, sq_tup, sq_lst, bindT_v, lockF, lockS, wipeF, run_ap, outO_rt, outO_nx, outO_ite, evC, evE, evB, evEs, evPs, evT, evTs, evI, evF, frame0, asP, asQ, mbind_ap, bindO_ok, bindO_ite, ite_ap, mret_ap, mopt_some, lift0_ap, liftO_ok, take_val, peek_val, peek_own, peek_lck, take_own, mval_int, mval_str, mval_bl, mval_non, mval_tup, mval_lst, mval_fz, mresL_v, mvals, cLt, cLe, cGt, cGe, cEqI, cNeI, cEqB, cIs, cIsNot, isNon, tBo, tIn, tNo, tTu, tLi, xT, xL, xF, omap_some, atD, ixD]) (fun r hrm => by
      obtain ⟨l, rfl, _, _⟩ := hr r hrm
      exact ⟨[.val (.int 2), .val (.tup [.int s, .int k, .tup rooms]), .val (.tup l), .none], by simp [asL_ap, fBinL_ap, fLst_ap, fFl_ap, fl_tup, fl_lst, all_mapT, ln_tup, ln_lst, ln_fz, tu_lst, tu_tup, it_tup, it_lst, it_fz, sq_tup, sq_lst, bindT_v, lockF, lockS, wipeF, run_ap, outO_rt, outO_nx, outO_ite, evC, evE, evB, evEs, evPs, evT, evTs, evI, evF, frame0, asP, asQ, mbind_ap, bindO_ok, bindO_ite, ite_ap, mret_ap, mopt_some, lift0_ap, liftO_ok, take_val, peek_val, peek_own, peek_lck, take_own, mval_int, mval_str, mval_bl, mval_non, mval_tup, mval_lst, mval_fz, mresL_v, mvals, cLt, cLe, cGt, cGe, cEqI, cNeI, cEqB, cIs, cIsNot, isNon, tBo, tIn, tNo, tTu, tLi, xT, xL, xF, omap_some, its]⟩) (by omega)
  have lines := e_law_lines n ([D.int s, D.int k] :: rooms.map its) S (fun r hrm => by
    rcases List.mem_cons.mp hrm with rfl | hrm
    · refine ⟨by simp [asL_ap, fBinL_ap, fLst_ap, fFl_ap, fl_tup, fl_lst, all_mapT, ln_tup, ln_lst, ln_fz, tu_lst, tu_tup, it_tup, it_lst, it_fz, sq_tup, sq_lst, bindT_v, lockF, lockS, wipeF, run_ap, outO_rt, outO_nx, outO_ite, evC, evE, evB, evEs, evPs, evT, evTs, evI, evF, frame0, asP, asQ, mbind_ap, bindO_ok, bindO_ite, ite_ap, mret_ap, mopt_some, lift0_ap, liftO_ok, take_val, peek_val, peek_own, peek_lck, take_own, mval_int, mval_str, mval_bl, mval_non, mval_tup, mval_lst, mval_fz, mresL_v, mvals, cLt, cLe, cGt, cGe, cEqI, cNeI, cEqB, cIs, cIsNot, isNon, tBo, tIn, tNo, tTu, tLi, xT, xL, xF, omap_some], fun x hx => ?_⟩
      simp only [List.mem_cons, List.not_mem_nil, or_false] at hx
      rcases hx with rfl | rfl
      · exact .inl (.inr ⟨s, rfl, h1, by omega⟩)
      · exact .inl (.inr ⟨k, rfl, h3, by omega⟩)
    · obtain ⟨q, hq, rfl⟩ := List.mem_map.mp hrm
      obtain ⟨l, rfl, hll, hlr⟩ := hr q hq
      exact ⟨by show l.length ≤ 500; omega, fun x hx => hp x (hlr x hx)⟩) (by rw [List.length_cons, List.length_map]; omega)
  rw [List.map_cons, List.map_map] at lines
  rw [List.map_cons, List.map_map] at lines
  have e2 : tpage s k mws rooms = [D.int s, D.int k].map W :: rooms.map ((fun r => r.map W) ∘ its) := rfl
  rw [← e2] at lines
  have al := addL (a := [D.lst [.int s, .int k]]) (b := rooms.map fun r => D.lst (its r)) (by rw [List.length_map, List.length_singleton]; omega)
  rw [List.singleton_append] at al
  have e3 : (List.map (D.lst ∘ its) rooms) = rooms.map fun r => D.lst (its r) := rfl
  rw [e3] at lines
  simp [asL_ap, fBinL_ap, fLst_ap, fFl_ap, fl_tup, fl_lst, all_mapT, ln_tup, ln_lst, ln_fz, tu_lst, tu_tup, it_tup, it_lst, it_fz, sq_tup, sq_lst, bindT_v, lockF, lockS, wipeF, run_ap, outO_rt, outO_nx, outO_ite, evC, evE, evB, evEs, evPs, evT, evTs, evI, evF, frame0, asP, asQ, mbind_ap, bindO_ok, bindO_ite, ite_ap, mret_ap, mopt_some, lift0_ap, liftO_ok, take_val, peek_val, peek_own, peek_lck, take_own, mval_int, mval_str, mval_bl, mval_non, mval_tup, mval_lst, mval_fz, mresL_v, mvals, cLt, cLe, cGt, cGe, cEqI, cNeI, cEqB, cIs, cIsNot, isNon, tBo, tIn, tNo, tTu, tLi, xT, xL, xF, omap_some, f__law_written, b__law_written, atD, ixD, okLen, key, al, lines]
theorem e_law_written3n (n : Nat) (S : Store) : (callF Pg (n + 1)).f "_law_written" [.int 3, .non] [] [] S = .ok (.str "even") S := by
  rw [F_eq find__law_written rfl rfl]
  simp [asL_ap, fBinL_ap, fLst_ap, fFl_ap, fl_tup, fl_lst, all_mapT, ln_tup, ln_lst, ln_fz, tu_lst, tu_tup, it_tup, it_lst, it_fz, sq_tup, sq_lst, bindT_v, lockF, lockS, wipeF, run_ap, outO_rt, outO_nx, outO_ite, evC, evE, evB, evEs, evPs, evT, evTs, evI, evF, frame0, asP, asQ, mbind_ap, bindO_ok, bindO_ite, ite_ap, mret_ap, mopt_some, lift0_ap, liftO_ok, take_val, peek_val, peek_own, peek_lck, take_own, mval_int, mval_str, mval_bl, mval_non, mval_tup, mval_lst, mval_fz, mresL_v, mvals, cLt, cLe, cGt, cGe, cEqI, cNeI, cEqB, cIs, cIsNot, isNon, tBo, tIn, tNo, tTu, tLi, xT, xL, xF, omap_some, f__law_written, b__law_written]
theorem e_law_written3 (n : Nat) {P : D → Prop} (k : Int) (d : D) (S : Store) (h : Row k (Row k P) d) (hk : k ≤ 9) (hp : ∀ x, P x → Wd x) : (callF Pg (n + 3)).f "_law_written" [.int 3, d] [] [] S = .ok (.str (page (ptext d))) S := by
  obtain ⟨rows, rfl, hl, hr⟩ := h
  rw [F_eq find__law_written rfl rfl]
  have key : fLc (evCl (callF Pg (n + 2)) c__law_written_0) [.val (.int 3), .val (.tup rows), .none, .none] S = .ok (rows.map fun r => D.lst (its r)) [.val (.int 3), .val (.tup rows), .none, .none] S :=
    lc_map (l := rows) (g := fun r => D.lst (its r)) (by simp [asL_ap, fBinL_ap, fLst_ap, fFl_ap, fl_tup, fl_lst, all_mapT, ln_tup, ln_lst, ln_fz, tu_lst, tu_tup, it_tup, it_lst, it_fz, sq_tup, sq_lst, bindT_v, lockF, lockS, wipeF, run_ap, outO_rt, outO_nx, outO_ite, evC, evE, evB, evEs, evPs, evT, evTs, evI, evF, frame0, asP, asQ, mbind_ap, bindO_ok, bindO_ite, ite_ap, mret_ap, mopt_some, lift0_ap, liftO_ok, take_val, peek_val, peek_own, peek_lck, take_own, mval_int, mval_str, mval_bl, mval_non, mval_tup, mval_lst, mval_fz, mresL_v, mvals, cLt, cLe, cGt, cGe, cEqI, cNeI, cEqB, cIs, cIsNot, isNon, tBo, tIn, tNo, tTu, tLi, xT, xL, xF, omap_some]) (fun r hrm => by
      obtain ⟨l, rfl, _, _⟩ := hr r hrm
      exact ⟨[.val (.int 3), .val (.tup rows), .none, .val (.tup l)], by simp [asL_ap, fBinL_ap, fLst_ap, fFl_ap, fl_tup, fl_lst, all_mapT, ln_tup, ln_lst, ln_fz, tu_lst, tu_tup, it_tup, it_lst, it_fz, sq_tup, sq_lst, bindT_v, lockF, lockS, wipeF, run_ap, outO_rt, outO_nx, outO_ite, evC, evE, evB, evEs, evPs, evT, evTs, evI, evF, frame0, asP, asQ, mbind_ap, bindO_ok, bindO_ite, ite_ap, mret_ap, mopt_some, lift0_ap, liftO_ok, take_val, peek_val, peek_own, peek_lck, take_own, mval_int, mval_str, mval_bl, mval_non, mval_tup, mval_lst, mval_fz, mresL_v, mvals, cLt, cLe, cGt, cGe, cEqI, cNeI, cEqB, cIs, cIsNot, isNon, tBo, tIn, tNo, tTu, tLi, xT, xL, xF, omap_some, its]⟩) (by omega)
  have lines := e_law_lines n (rows.map its) S (fun r hrm => by
    obtain ⟨q, hq, rfl⟩ := List.mem_map.mp hrm
    obtain ⟨l, rfl, hll, hlr⟩ := hr q hq
    exact ⟨by show l.length ≤ 500; omega, fun x hx => hp x (hlr x hx)⟩) (by rw [List.length_map]; omega)
  rw [List.map_map, List.map_map] at lines
  have e2 : ptext (.tup rows) = rows.map ((fun r => r.map W) ∘ its) := rfl
  rw [← e2] at lines
  have e3 : (List.map (D.lst ∘ its) rows) = rows.map fun r => D.lst (its r) := rfl
  rw [e3] at lines
  simp [asL_ap, fBinL_ap, fLst_ap, fFl_ap, fl_tup, fl_lst, all_mapT, ln_tup, ln_lst, ln_fz, tu_lst, tu_tup, it_tup, it_lst, it_fz, sq_tup, sq_lst, bindT_v, lockF, lockS, wipeF, run_ap, outO_rt, outO_nx, outO_ite, evC, evE, evB, evEs, evPs, evT, evTs, evI, evF, frame0, asP, asQ, mbind_ap, bindO_ok, bindO_ite, ite_ap, mret_ap, mopt_some, lift0_ap, liftO_ok, take_val, peek_val, peek_own, peek_lck, take_own, mval_int, mval_str, mval_bl, mval_non, mval_tup, mval_lst, mval_fz, mresL_v, mvals, cLt, cLe, cGt, cGe, cEqI, cNeI, cEqB, cIs, cIsNot, isNon, tBo, tIn, tNo, tTu, tLi, xT, xL, xF, omap_some, f__law_written, b__law_written, key, lines]
theorem e_law_written4 (n : Nat) (l : List D) (S : Store) (h : ∀ x ∈ l, Wd x) (hl : l.length ≤ 500) : (callF Pg (n + 3)).f "_law_written" [.int 4, .tup l] [] [] S = .ok (.str (if l = [] then "-" else line (mws (.tup l)))) S := by
  rw [F_eq find__law_written rfl rfl]
  have lines := e_law_lines n [l] S (fun r hrm => by
    rw [List.mem_singleton.mp hrm]
    exact ⟨hl, h⟩) (by simp [asL_ap, fBinL_ap, fLst_ap, fFl_ap, fl_tup, fl_lst, all_mapT, ln_tup, ln_lst, ln_fz, tu_lst, tu_tup, it_tup, it_lst, it_fz, sq_tup, sq_lst, bindT_v, lockF, lockS, wipeF, run_ap, outO_rt, outO_nx, outO_ite, evC, evE, evB, evEs, evPs, evT, evTs, evI, evF, frame0, asP, asQ, mbind_ap, bindO_ok, bindO_ite, ite_ap, mret_ap, mopt_some, lift0_ap, liftO_ok, take_val, peek_val, peek_own, peek_lck, take_own, mval_int, mval_str, mval_bl, mval_non, mval_tup, mval_lst, mval_fz, mresL_v, mvals, cLt, cLe, cGt, cGe, cEqI, cNeI, cEqB, cIs, cIsNot, isNon, tBo, tIn, tNo, tTu, tLi, xT, xL, xF, omap_some])
  have e2 : page ([l].map fun r => r.map W) = line (mws (.tup l)) := rfl
  rw [e2] at lines
  rw [List.map_cons, List.map_nil] at lines
  cases l with
  | nil => simp [asL_ap, fBinL_ap, fLst_ap, fFl_ap, fl_tup, fl_lst, all_mapT, ln_tup, ln_lst, ln_fz, tu_lst, tu_tup, it_tup, it_lst, it_fz, sq_tup, sq_lst, bindT_v, lockF, lockS, wipeF, run_ap, outO_rt, outO_nx, outO_ite, evC, evE, evB, evEs, evPs, evT, evTs, evI, evF, frame0, asP, asQ, mbind_ap, bindO_ok, bindO_ite, ite_ap, mret_ap, mopt_some, lift0_ap, liftO_ok, take_val, peek_val, peek_own, peek_lck, take_own, mval_int, mval_str, mval_bl, mval_non, mval_tup, mval_lst, mval_fz, mresL_v, mvals, cLt, cLe, cGt, cGe, cEqI, cNeI, cEqB, cIs, cIsNot, isNon, tBo, tIn, tNo, tTu, tLi, xT, xL, xF, omap_some, f__law_written, b__law_written, okLen, lines, opBl, atD, ixD]
  | cons x l => simp [asL_ap, fBinL_ap, fLst_ap, fFl_ap, fl_tup, fl_lst, all_mapT, ln_tup, ln_lst, ln_fz, tu_lst, tu_tup, it_tup, it_lst, it_fz, sq_tup, sq_lst, bindT_v, lockF, lockS, wipeF, run_ap, outO_rt, outO_nx, outO_ite, evC, evE, evB, evEs, evPs, evT, evTs, evI, evF, frame0, asP, asQ, mbind_ap, bindO_ok, bindO_ite, ite_ap, mret_ap, mopt_some, lift0_ap, liftO_ok, take_val, peek_val, peek_own, peek_lck, take_own, mval_int, mval_str, mval_bl, mval_non, mval_tup, mval_lst, mval_fz, mresL_v, mvals, cLt, cLe, cGt, cGe, cEqI, cNeI, cEqB, cIs, cIsNot, isNon, tBo, tIn, tNo, tTu, tLi, xT, xL, xF, omap_some, f__law_written, b__law_written, okLen, lines, opBl, atD, ixD]
end K86

namespace K86
open PySem PySem.Spec MP L2 TL
def AllB (P : Nat → Prop) : Nat → Prop
  | 0 => True
  | n + 1 => AllB P n ∧ P n
theorem AllB.get {P : Nat → Prop} : ∀ {n : Nat}, AllB P n → ∀ k, k < n → P k
  | n + 1, h, k, hk => by
    by_cases e : k = n
    · subst e; exact h.2
    · exact AllB.get h.1 k (by omega)
theorem num_all (m : Nat) (S : Store) : AllB (fun k => (callF Pg (m + 1)).f "number_in" [.str (num (k : Int))] [] [] S = .ok (.int (k : Int)) S) 100 := by
  repeat (first | exact trivial | refine ⟨?_, by kernel_rfl⟩)
theorem e_number_in (m : Nat) (i : Int) (S : Store) (h1 : 0 ≤ i) (h2 : i < 100) : (callF Pg (m + 1)).f "number_in" [.str (num i)] [] [] S = .ok (.int i) S := by
  have := (num_all m S).get i.toNat (by omega)
  have e : ((i.toNat : Nat) : Int) = i := by omega
  rw [e] at this
  exact this
theorem num_x {i : Int} (h1 : 0 ≤ i) (h2 : i < 100) : opCmp .Eq (.str (num i)) (.str "x") = some false :=
  fin100 (P := fun i => opCmp .Eq (.str (num i)) (.str "x") = some false) (by decide +kernel) h1 h2
theorem x_x : opCmp .Eq (.str "x") (.str "x") = some true := by decide +kernel
theorem e_part_in (n : Nat) (d : D) (S : Store) (h : Beh 100 d) : (callF Pg (n + 2)).f "part_in" [.str (W d)] [] [] S = .ok d S := by
  rw [F_eq find_part_in rfl rfl]
  rcases h with rfl | ⟨i, rfl, h1, h2⟩
  · simp [asL_ap, fBinL_ap, fLst_ap, fFl_ap, fMtF_ap, fSlL_ap, fl_tup, fl_lst, all_mapT, ln_tup, ln_lst, ln_fz, tu_lst, tu_tup, it_tup, it_lst, it_fz, sq_tup, sq_lst, bindT_v, lockF, lockS, wipeF, run_ap, outO_rt, outO_nx, outO_ite, evC, evE, evB, evEs, evPs, evT, evTs, evI, evF, frame0, asP, asQ, asO, mbind_ap, bindO_ok, bindO_ite, ite_ap, mret_ap, mopt_some, lift0_ap, liftO_ok, take_val, peek_val, peek_own, peek_lck, take_own, mval_int, mval_str, mval_bl, mval_non, mval_tup, mval_lst, mval_fz, mresL_v, mvals, cLt, cLe, cGt, cGe, cEqI, cNeI, cEqB, cIs, cIsNot, isNon, tBo, tIn, tNo, tTu, tLi, xT, xL, xF, omap_some, f_part_in, b_part_in, W, x_x]
  · simp [asL_ap, fBinL_ap, fLst_ap, fFl_ap, fMtF_ap, fSlL_ap, fl_tup, fl_lst, all_mapT, ln_tup, ln_lst, ln_fz, tu_lst, tu_tup, it_tup, it_lst, it_fz, sq_tup, sq_lst, bindT_v, lockF, lockS, wipeF, run_ap, outO_rt, outO_nx, outO_ite, evC, evE, evB, evEs, evPs, evT, evTs, evI, evF, frame0, asP, asQ, asO, mbind_ap, bindO_ok, bindO_ite, ite_ap, mret_ap, mopt_some, lift0_ap, liftO_ok, take_val, peek_val, peek_own, peek_lck, take_own, mval_int, mval_str, mval_bl, mval_non, mval_tup, mval_lst, mval_fz, mresL_v, mvals, cLt, cLe, cGt, cGe, cEqI, cNeI, cEqB, cIs, cIsNot, isNon, tBo, tIn, tNo, tTu, tLi, xT, xL, xF, omap_some, f_part_in, b_part_in, W, num_x h1 h2, e_number_in n i S h1 h2]
theorem split_pair {i j : Int} (h1 : 0 ≤ i) (h2 : i < 100) (h3 : 0 ≤ j) (h4 : j < 100) : Txt.split (W (.tup [.int i, .int j])) ":" = [num i, num j] := by
  have e : W (.tup [.int i, .int j]) = Txt.join ":" [num i, num j] := by
    rw [join_eq]
    show Str.empty ++ num i ++ ":" ++ num j = num i ++ ":" ++ num j
    rw [empty_app]
  rw [e]
  obtain ⟨a, _, _⟩ := num_tl h1 h2
  obtain ⟨a', _, _⟩ := num_tl h3 h4
  rw [List.all_eq_true] at a a'
  refine split_join (s := 58) (S := []) (by decide +kernel) (by decide +kernel) (by simp [asL_ap, fBinL_ap, fLst_ap, fFl_ap, fMtF_ap, fSlL_ap, fl_tup, fl_lst, all_mapT, ln_tup, ln_lst, ln_fz, tu_lst, tu_tup, it_tup, it_lst, it_fz, sq_tup, sq_lst, bindT_v, lockF, lockS, wipeF, run_ap, outO_rt, outO_nx, outO_ite, evC, evE, evB, evEs, evPs, evT, evTs, evI, evF, frame0, asP, asQ, asO, mbind_ap, bindO_ok, bindO_ite, ite_ap, mret_ap, mopt_some, lift0_ap, liftO_ok, take_val, peek_val, peek_own, peek_lck, take_own, mval_int, mval_str, mval_bl, mval_non, mval_tup, mval_lst, mval_fz, mresL_v, mvals, cLt, cLe, cGt, cGe, cEqI, cNeI, cEqB, cIs, cIsNot, isNon, tBo, tIn, tNo, tTu, tLi, xT, xL, xF, omap_some]) fun p hp hm => ?_
  simp only [List.mem_cons, List.not_mem_nil, or_false] at hp
  rcases hp with rfl | rfl
  · have := of_decide_eq_true (a 58 hm); omega
  · have := of_decide_eq_true (a' 58 hm); omega
theorem e_pair_in (n : Nat) (d : D) (S : Store) (h : Cell 100 100 d) : (callF Pg (n + 2)).f "pair_in" [.str (W d)] [] [] S = .ok d S := by
  have hw := (W_tl (.inr h)).1
  obtain ⟨i, j, rfl, h1, h2, h3, h4⟩ := h
  rw [F_eq find_pair_in rfl rfl]
  have sp := split_str (a := W (.tup [.int i, .int j])) (b := ":") (by decide) (by omega)
  rw [split_pair h1 h2 h3 h4] at sp
  have mv : ∀ (ρ : Fr) (S : Store), mval (.s 1) (.val (.str (W (.tup [.int i, .int j]))) :: .own (.lst [.str (num i), .str (num j)]) :: ρ) S = .ok (.lst [.str (num i), .str (num j)]) (.val (.str (W (.tup [.int i, .int j]))) :: .own (.lst [.str (num i), .str (num j)]) :: ρ) S := fun ρ S => mval_own rfl
  simp [asL_ap, fBinL_ap, fLst_ap, fFl_ap, fMtF_ap, fSlL_ap, fl_tup, fl_lst, all_mapT, ln_tup, ln_lst, ln_fz, tu_lst, tu_tup, it_tup, it_lst, it_fz, sq_tup, sq_lst, bindT_v, lockF, lockS, wipeF, run_ap, outO_rt, outO_nx, outO_ite, evC, evE, evB, evEs, evPs, evT, evTs, evI, evF, frame0, asP, asQ, asO, mbind_ap, bindO_ok, bindO_ite, ite_ap, mret_ap, mopt_some, lift0_ap, liftO_ok, take_val, peek_val, peek_own, peek_lck, take_own, mval_int, mval_str, mval_bl, mval_non, mval_tup, mval_lst, mval_fz, mresL_v, mvals, cLt, cLe, cGt, cGe, cEqI, cNeI, cEqB, cIs, cIsNot, isNon, tBo, tIn, tNo, tTu, tLi, xT, xL, xF, omap_some, f_pair_in, b_pair_in, sp, mv, atD, ixD, okLen, e_number_in n i S h1 h2, e_number_in n j S h3 h4]
/-- words that split well -/
def Pure (w : Str) : Prop := 32 ∉ tl w ∧ 47 ∉ tl w
theorem free47 {S p rest : List Nat} (h : 47 ∉ p) (hS : S = [] ∨ ∃ r, S = 32 :: r) : ∀ i, i < p.length → pre [32, 47, 32] ((p ++ S).drop i) = false := fun i hi => by
  have hlt : i < (p ++ S).length := by rw [List.length_append]; omega
  rw [List.drop_eq_getElem_cons hlt]
  have hd : ∀ r, (p ++ S).drop (i + 1) ≠ 47 :: r := fun r e => by
    by_cases h2 : i + 1 < p.length
    · rw [List.drop_append_of_le_length (by omega), List.drop_eq_getElem_cons h2] at e
      injection e with e1 _
      exact h (e1 ▸ List.getElem_mem h2)
    · have e0 : i + 1 = p.length := by omega
      rw [e0, List.drop_left] at e
      rcases hS with hS | ⟨r', hS⟩
      · rw [hS] at e; cases e
      · rw [hS] at e; cases e
  cases e : (p ++ S).drop (i + 1) with
  | nil => 
    by_cases hc : (p ++ S)[i] = 32 <;> simp [asL_ap, fBinL_ap, fLst_ap, fFl_ap, fMtF_ap, fSlL_ap, fl_tup, fl_lst, all_mapT, ln_tup, ln_lst, ln_fz, tu_lst, tu_tup, it_tup, it_lst, it_fz, sq_tup, sq_lst, bindT_v, lockF, lockS, wipeF, run_ap, outO_rt, outO_nx, outO_ite, evC, evE, evB, evEs, evPs, evT, evTs, evI, evF, frame0, asP, asQ, asO, mbind_ap, bindO_ok, bindO_ite, ite_ap, mret_ap, mopt_some, lift0_ap, liftO_ok, take_val, peek_val, peek_own, peek_lck, take_own, mval_int, mval_str, mval_bl, mval_non, mval_tup, mval_lst, mval_fz, mresL_v, mvals, cLt, cLe, cGt, cGe, cEqI, cNeI, cEqB, cIs, cIsNot, isNon, tBo, tIn, tNo, tTu, tLi, xT, xL, xF, omap_some, pre, hc]
  | cons x r =>
    have hx : x ≠ 47 := fun z => hd r (by rw [e, z])
    simp [asL_ap, fBinL_ap, fLst_ap, fFl_ap, fMtF_ap, fSlL_ap, fl_tup, fl_lst, all_mapT, ln_tup, ln_lst, ln_fz, tu_lst, tu_tup, it_tup, it_lst, it_fz, sq_tup, sq_lst, bindT_v, lockF, lockS, wipeF, run_ap, outO_rt, outO_nx, outO_ite, evC, evE, evB, evEs, evPs, evT, evTs, evI, evF, frame0, asP, asQ, asO, mbind_ap, bindO_ok, bindO_ite, ite_ap, mret_ap, mopt_some, lift0_ap, liftO_ok, take_val, peek_val, peek_own, peek_lck, take_own, mval_int, mval_str, mval_bl, mval_non, mval_tup, mval_lst, mval_fz, mresL_v, mvals, cLt, cLe, cGt, cGe, cEqI, cNeI, cEqB, cIs, cIsNot, isNon, tBo, tIn, tNo, tTu, tLi, xT, xL, xF, omap_some, pre, hx]
theorem spl_rows : ∀ {parts : List (List Nat)}, parts ≠ [] → (∀ p ∈ parts, 47 ∉ p) → spl [32, 47, 32] 0 [] (joinL [32, 47, 32] parts) = parts
  | [], h, _ => absurd rfl h
  | [p], _, hp => by
    have h := free47 (S := []) (rest := []) (hp p (List.mem_singleton.mpr rfl)) (.inl rfl)
    rw [List.append_nil] at h
    show spl [32, 47, 32] 0 [] p = [p]
    rw [spl_last h, List.nil_append]
  | p :: q :: r, _, hp => by
    show spl [32, 47, 32] 0 [] (p ++ ([32, 47, 32] ++ joinL [32, 47, 32] (q :: r))) = p :: q :: r
    rw [spl_part (by simp [asL_ap, fBinL_ap, fLst_ap, fFl_ap, fMtF_ap, fSlL_ap, fl_tup, fl_lst, all_mapT, ln_tup, ln_lst, ln_fz, tu_lst, tu_tup, it_tup, it_lst, it_fz, sq_tup, sq_lst, bindT_v, lockF, lockS, wipeF, run_ap, outO_rt, outO_nx, outO_ite, evC, evE, evB, evEs, evPs, evT, evTs, evI, evF, frame0, asP, asQ, asO, mbind_ap, bindO_ok, bindO_ite, ite_ap, mret_ap, mopt_some, lift0_ap, liftO_ok, take_val, peek_val, peek_own, peek_lck, take_own, mval_int, mval_str, mval_bl, mval_non, mval_tup, mval_lst, mval_fz, mresL_v, mvals, cLt, cLe, cGt, cGe, cEqI, cNeI, cEqB, cIs, cIsNot, isNon, tBo, tIn, tNo, tTu, tLi, xT, xL, xF, omap_some]) (free47 (rest := []) (hp p List.mem_cons_self) (.inr ⟨_, rfl⟩)), List.nil_append, spl_rows (by simp [asL_ap, fBinL_ap, fLst_ap, fFl_ap, fMtF_ap, fSlL_ap, fl_tup, fl_lst, all_mapT, ln_tup, ln_lst, ln_fz, tu_lst, tu_tup, it_tup, it_lst, it_fz, sq_tup, sq_lst, bindT_v, lockF, lockS, wipeF, run_ap, outO_rt, outO_nx, outO_ite, evC, evE, evB, evEs, evPs, evT, evTs, evI, evF, frame0, asP, asQ, asO, mbind_ap, bindO_ok, bindO_ite, ite_ap, mret_ap, mopt_some, lift0_ap, liftO_ok, take_val, peek_val, peek_own, peek_lck, take_own, mval_int, mval_str, mval_bl, mval_non, mval_tup, mval_lst, mval_fz, mresL_v, mvals, cLt, cLe, cGt, cGe, cEqI, cNeI, cEqB, cIs, cIsNot, isNon, tBo, tIn, tNo, tTu, tLi, xT, xL, xF, omap_some]) fun z hz => hp z (List.mem_cons_of_mem _ hz)]
theorem split_rows {parts : List Str} (hne : parts ≠ []) (hp : ∀ p ∈ parts, 47 ∉ tl p) : Txt.split (Txt.join " / " parts) " / " = parts := by
  refine map_tl_inj ?_
  have ey : tl (" / " : Str) = [32, 47, 32] := by decide +kernel
  rw [split_spl _ (" / " : Str) (by rw [ey]; simp [asL_ap, fBinL_ap, fLst_ap, fFl_ap, fMtF_ap, fSlL_ap, fl_tup, fl_lst, all_mapT, ln_tup, ln_lst, ln_fz, tu_lst, tu_tup, it_tup, it_lst, it_fz, sq_tup, sq_lst, bindT_v, lockF, lockS, wipeF, run_ap, outO_rt, outO_nx, outO_ite, evC, evE, evB, evEs, evPs, evT, evTs, evI, evF, frame0, asP, asQ, asO, mbind_ap, bindO_ok, bindO_ite, ite_ap, mret_ap, mopt_some, lift0_ap, liftO_ok, take_val, peek_val, peek_own, peek_lck, take_own, mval_int, mval_str, mval_bl, mval_non, mval_tup, mval_lst, mval_fz, mresL_v, mvals, cLt, cLe, cGt, cGe, cEqI, cNeI, cEqB, cIs, cIsNot, isNon, tBo, tIn, tNo, tTu, tLi, xT, xL, xF, omap_some]) (kind_ok (by decide +kernel)), join_eq, tl_join, ey]
  refine spl_rows (fun e => hne (List.map_eq_nil_iff.mp e)) fun p h => ?_
  obtain ⟨z, hz, rfl⟩ := List.mem_map.mp h
  exact hp z hz
theorem join_free {s : Nat} {S : List Nat} (hs : s ∉ S) : ∀ {parts : List (List Nat)}, (∀ p ∈ parts, s ∉ p) → s ∉ joinL S parts
  | [], _ => by simp [asL_ap, fBinL_ap, fLst_ap, fFl_ap, fMtF_ap, fSlL_ap, fl_tup, fl_lst, all_mapT, ln_tup, ln_lst, ln_fz, tu_lst, tu_tup, it_tup, it_lst, it_fz, sq_tup, sq_lst, bindT_v, lockF, lockS, wipeF, run_ap, outO_rt, outO_nx, outO_ite, evC, evE, evB, evEs, evPs, evT, evTs, evI, evF, frame0, asP, asQ, asO, mbind_ap, bindO_ok, bindO_ite, ite_ap, mret_ap, mopt_some, lift0_ap, liftO_ok, take_val, peek_val, peek_own, peek_lck, take_own, mval_int, mval_str, mval_bl, mval_non, mval_tup, mval_lst, mval_fz, mresL_v, mvals, cLt, cLe, cGt, cGe, cEqI, cNeI, cEqB, cIs, cIsNot, isNon, tBo, tIn, tNo, tTu, tLi, xT, xL, xF, omap_some, joinL]
  | [p], h => h p (List.mem_singleton.mpr rfl)
  | p :: q :: r, h => by
    show s ∉ p ++ (S ++ joinL S (q :: r))
    rw [List.mem_append, List.mem_append]
    rintro (h1 | h1 | h1)
    · exact h p List.mem_cons_self h1
    · exact hs h1
    · exact join_free hs (fun z hz => h z (List.mem_cons_of_mem _ hz)) h1
theorem line_free {r : List Str} (h : ∀ w ∈ r, Pure w) : 47 ∉ tl (line r) := by
  unfold line
  rw [join_eq, tl_join]
  refine join_free (by decide +kernel) fun p hp => ?_
  obtain ⟨w, hw, rfl⟩ := List.mem_map.mp hp
  exact (h w hw).2
theorem split_line {r : List Str} (hne : r ≠ []) (h : ∀ w ∈ r, Pure w) : Txt.split (line r) " " = r :=
  split_join (s := 32) (S := []) (by decide +kernel) (by decide +kernel) hne fun p hp => (h p hp).1
theorem split_page {rows : List (List Str)} (hne : rows ≠ []) (h : ∀ r ∈ rows, ∀ w ∈ r, Pure w) : Txt.split (page rows) " / " = rows.map line :=
  split_rows (fun e => hne (List.map_eq_nil_iff.mp e)) fun p hp => by
    obtain ⟨r, hr, rfl⟩ := List.mem_map.mp hp
    exact line_free (h r hr)
/-- rows that are read back -/
def Good (rows : List (List Str)) : Prop := rows ≠ [] ∧ rows.length ≤ 101 ∧ ∀ r ∈ rows, r ≠ [] ∧ Fit r ∧ ∀ w ∈ r, Pure w
theorem e_rows_in (n : Nat) (rows : List (List Str)) (S : Store) (h : Good rows) : (callF Pg (n + 1)).f "rows_in" [.str (page rows)] [] [] S = .ok (.lst (rows.map rowD)) S := by
  obtain ⟨h1, h2, h3⟩ := h
  rw [F_eq find_rows_in rfl rfl]
  have lp := page_len (rows := rows) (fun r hr => (h3 r hr).2.1) h2
  have s1 := split_str (a := page rows) (b := " / ") (by decide +kernel) (by omega)
  rw [split_page h1 fun r hr => (h3 r hr).2.2] at s1
  have key : fLc (evCl (callF Pg n) c_rows_in_0) [.val (.str (page rows)), .none] S = .ok (((rows.map line).map D.str).map fun d => match d with | .str t => .lst ((Txt.split t " ").map D.str) | _ => .non) [.val (.str (page rows)), .none] S :=
    lc_map (l := (rows.map line).map D.str) (by simp [asL_ap, fBinL_ap, fLst_ap, fFl_ap, fMtF_ap, fSlL_ap, fl_tup, fl_lst, all_mapT, ln_tup, ln_lst, ln_fz, tu_lst, tu_tup, it_tup, it_lst, it_fz, sq_tup, sq_lst, bindT_v, lockF, lockS, wipeF, run_ap, outO_rt, outO_nx, outO_ite, evC, evE, evB, evEs, evPs, evT, evTs, evI, evF, frame0, asP, asQ, asO, mbind_ap, bindO_ok, bindO_ite, ite_ap, mret_ap, mopt_some, lift0_ap, liftO_ok, take_val, peek_val, peek_own, peek_lck, take_own, mval_int, mval_str, mval_bl, mval_non, mval_tup, mval_lst, mval_fz, mresL_v, mvals, cLt, cLe, cGt, cGe, cEqI, cNeI, cEqB, cIs, cIsNot, isNon, tBo, tIn, tNo, tTu, tLi, xT, xL, xF, omap_some, s1]) (fun d hd => by
      obtain ⟨t, ht, rfl⟩ := List.mem_map.mp hd
      obtain ⟨r, hr, rfl⟩ := List.mem_map.mp ht
      have ll := fit_line (h3 r hr).2.1
      have s2 := split_str (a := line r) (b := " ") (by decide +kernel) (by omega)
      exact ⟨[.val (.str (page rows)), .val (.str (line r))], by simp [asL_ap, fBinL_ap, fLst_ap, fFl_ap, fMtF_ap, fSlL_ap, fl_tup, fl_lst, all_mapT, ln_tup, ln_lst, ln_fz, tu_lst, tu_tup, it_tup, it_lst, it_fz, sq_tup, sq_lst, bindT_v, lockF, lockS, wipeF, run_ap, outO_rt, outO_nx, outO_ite, evC, evE, evB, evEs, evPs, evT, evTs, evI, evF, frame0, asP, asQ, asO, mbind_ap, bindO_ok, bindO_ite, ite_ap, mret_ap, mopt_some, lift0_ap, liftO_ok, take_val, peek_val, peek_own, peek_lck, take_own, mval_int, mval_str, mval_bl, mval_non, mval_tup, mval_lst, mval_fz, mresL_v, mvals, cLt, cLe, cGt, cGe, cEqI, cNeI, cEqB, cIs, cIsNot, isNon, tBo, tIn, tNo, tTu, tLi, xT, xL, xF, omap_some, s2]⟩) (by rw [List.length_map, List.length_map]; omega)
  have e : (((rows.map line).map D.str).map fun d => match d with | .str t => D.lst ((Txt.split t " ").map D.str) | _ => .non) = rows.map rowD := by
    rw [List.map_map, List.map_map]
    refine List.map_congr_left fun r hr => ?_
    show D.lst ((Txt.split (line r) " ").map D.str) = _
    rw [split_line (h3 r hr).1 (h3 r hr).2.2]
  rw [e] at key
  simp [asL_ap, fBinL_ap, fLst_ap, fFl_ap, fMtF_ap, fSlL_ap, fl_tup, fl_lst, all_mapT, ln_tup, ln_lst, ln_fz, tu_lst, tu_tup, it_tup, it_lst, it_fz, sq_tup, sq_lst, bindT_v, lockF, lockS, wipeF, run_ap, outO_rt, outO_nx, outO_ite, evC, evE, evB, evEs, evPs, evT, evTs, evI, evF, frame0, asP, asQ, asO, mbind_ap, bindO_ok, bindO_ite, ite_ap, mret_ap, mopt_some, lift0_ap, liftO_ok, take_val, peek_val, peek_own, peek_lck, take_own, mval_int, mval_str, mval_bl, mval_non, mval_tup, mval_lst, mval_fz, mresL_v, mvals, cLt, cLe, cGt, cGe, cEqI, cNeI, cEqB, cIs, cIsNot, isNon, tBo, tIn, tNo, tTu, tLi, xT, xL, xF, omap_some, f_rows_in, b_rows_in, isiAny, isiD, key]
theorem stepsFrom_map (k : Int) : ∀ (n : Nat) (lo : Int), stepsFrom lo k n = (List.range n).map fun i => D.int (lo + (i : Nat) * k) := fun n => by
  induction n with
  | zero => intro lo; rfl
  | succ n ih =>
    intro lo
    rw [List.range_succ_eq_map, List.map_cons, List.map_map]
    show D.int lo :: stepsFrom (lo + k) k n = _
    rw [ih (lo + k)]
    congr 1
    · simp [asL_ap, fBinL_ap, fLst_ap, fFl_ap, fMtF_ap, fSlL_ap, fl_tup, fl_lst, all_mapT, ln_tup, ln_lst, ln_fz, tu_lst, tu_tup, it_tup, it_lst, it_fz, sq_tup, sq_lst, bindT_v, lockF, lockS, wipeF, run_ap, outO_rt, outO_nx, outO_ite, evC, evE, evB, evEs, evPs, evT, evTs, evI, evF, frame0, asP, asQ, asO, mbind_ap, bindO_ok, bindO_ite, ite_ap, mret_ap, mopt_some, lift0_ap, liftO_ok, take_val, peek_val, peek_own, peek_lck, take_own, mval_int, mval_str, mval_bl, mval_non, mval_tup, mval_lst, mval_fz, mresL_v, mvals, cLt, cLe, cGt, cGe, cEqI, cNeI, cEqB, cIs, cIsNot, isNon, tBo, tIn, tNo, tTu, tLi, xT, xL, xF, omap_some]
    · refine List.map_congr_left fun i _ => ?_
      show D.int (lo + k + (i : Nat) * k) = D.int (lo + ((i + 1 : Nat) : Int) * k)
      congr 1
      rw [Int.natCast_succ, Int.add_mul, Int.one_mul]
      omega
end K86

namespace K86
open PySem PySem.Spec MP L2 TL
theorem flat_take {k : Nat} : ∀ {rows : List (List D)} (i : Nat) (r : List D), (∀ r ∈ rows, r.length = k) → rows[i]? = some r → (rows.flatten.drop (i * k)).take k = r
  | [], _, _, _, h => by simp [asL_ap, fBinL_ap, fLst_ap, fFl_ap, fMtF_ap, fSlL_ap, fl_tup, fl_lst, all_mapT, ln_tup, ln_lst, ln_fz, tu_lst, tu_tup, it_tup, it_lst, it_fz, sq_tup, sq_lst, bindT_v, lockF, lockS, wipeF, run_ap, outO_rt, outO_nx, outO_ite, evC, evE, evB, evEs, evPs, evT, evTs, evI, evF, frame0, asP, asQ, asO, mbind_ap, bindO_ok, bindO_ite, ite_ap, mret_ap, mopt_some, lift0_ap, liftO_ok, take_val, peek_val, peek_own, peek_lck, take_own, mval_int, mval_str, mval_bl, mval_non, mval_tup, mval_lst, mval_fz, mresL_v, mvals, cLt, cLe, cGt, cGe, cEqI, cNeI, cEqB, cIs, cIsNot, isNon, tBo, tIn, tNo, tTu, tLi, xT, xL, xF, omap_some, bAdd] at h
  | x :: rows, 0, r, hk, h => by
    simp [asL_ap, fBinL_ap, fLst_ap, fFl_ap, fMtF_ap, fSlL_ap, fl_tup, fl_lst, all_mapT, ln_tup, ln_lst, ln_fz, tu_lst, tu_tup, it_tup, it_lst, it_fz, sq_tup, sq_lst, bindT_v, lockF, lockS, wipeF, run_ap, outO_rt, outO_nx, outO_ite, evC, evE, evB, evEs, evPs, evT, evTs, evI, evF, frame0, asP, asQ, asO, mbind_ap, bindO_ok, bindO_ite, ite_ap, mret_ap, mopt_some, lift0_ap, liftO_ok, take_val, peek_val, peek_own, peek_lck, take_own, mval_int, mval_str, mval_bl, mval_non, mval_tup, mval_lst, mval_fz, mresL_v, mvals, cLt, cLe, cGt, cGe, cEqI, cNeI, cEqB, cIs, cIsNot, isNon, tBo, tIn, tNo, tTu, tLi, xT, xL, xF, omap_some, bAdd] at h
    subst h
    rw [Nat.zero_mul, List.drop_zero, List.flatten_cons]
    have := hk x List.mem_cons_self
    rw [← this, List.take_left]
  | x :: rows, i + 1, r, hk, h => by
    rw [List.flatten_cons, Nat.succ_mul, Nat.add_comm]
    have hx := hk x List.mem_cons_self
    have e : (x ++ rows.flatten).drop (k + i * k) = rows.flatten.drop (i * k) := by
      rw [← hx]
      rw [List.drop_append]
      simp [asL_ap, fBinL_ap, fLst_ap, fFl_ap, fMtF_ap, fSlL_ap, fl_tup, fl_lst, all_mapT, ln_tup, ln_lst, ln_fz, tu_lst, tu_tup, it_tup, it_lst, it_fz, sq_tup, sq_lst, bindT_v, lockF, lockS, wipeF, run_ap, outO_rt, outO_nx, outO_ite, evC, evE, evB, evEs, evPs, evT, evTs, evI, evF, frame0, asP, asQ, asO, mbind_ap, bindO_ok, bindO_ite, ite_ap, mret_ap, mopt_some, lift0_ap, liftO_ok, take_val, peek_val, peek_own, peek_lck, take_own, mval_int, mval_str, mval_bl, mval_non, mval_tup, mval_lst, mval_fz, mresL_v, mvals, cLt, cLe, cGt, cGe, cEqI, cNeI, cEqB, cIs, cIsNot, isNon, tBo, tIn, tNo, tTu, tLi, xT, xL, xF, omap_some, bAdd]
    rw [e]
    exact flat_take i r (fun y hy => hk y (List.mem_cons_of_mem _ hy)) (by simpa [asL_ap, fBinL_ap, fLst_ap, fFl_ap, fMtF_ap, fSlL_ap, fl_tup, fl_lst, all_mapT, ln_tup, ln_lst, ln_fz, tu_lst, tu_tup, it_tup, it_lst, it_fz, sq_tup, sq_lst, bindT_v, lockF, lockS, wipeF, run_ap, outO_rt, outO_nx, outO_ite, evC, evE, evB, evEs, evPs, evT, evTs, evI, evF, frame0, asP, asQ, asO, mbind_ap, bindO_ok, bindO_ite, ite_ap, mret_ap, mopt_some, lift0_ap, liftO_ok, take_val, peek_val, peek_own, peek_lck, take_own, mval_int, mval_str, mval_bl, mval_non, mval_tup, mval_lst, mval_fz, mresL_v, mvals, cLt, cLe, cGt, cGe, cEqI, cNeI, cEqB, cIs, cIsNot, isNon, tBo, tIn, tNo, tTu, tLi, xT, xL, xF, omap_some, bAdd] using h)
theorem flat_length {k : Nat} : ∀ {rows : List (List D)}, (∀ r ∈ rows, r.length = k) → rows.flatten.length = rows.length * k
  | [], _ => by simp [asL_ap, fBinL_ap, fLst_ap, fFl_ap, fMtF_ap, fSlL_ap, fl_tup, fl_lst, all_mapT, ln_tup, ln_lst, ln_fz, tu_lst, tu_tup, it_tup, it_lst, it_fz, sq_tup, sq_lst, bindT_v, lockF, lockS, wipeF, run_ap, outO_rt, outO_nx, outO_ite, evC, evE, evB, evEs, evPs, evT, evTs, evI, evF, frame0, asP, asQ, asO, mbind_ap, bindO_ok, bindO_ite, ite_ap, mret_ap, mopt_some, lift0_ap, liftO_ok, take_val, peek_val, peek_own, peek_lck, take_own, mval_int, mval_str, mval_bl, mval_non, mval_tup, mval_lst, mval_fz, mresL_v, mvals, cLt, cLe, cGt, cGe, cEqI, cNeI, cEqB, cIs, cIsNot, isNon, tBo, tIn, tNo, tTu, tLi, xT, xL, xF, omap_some, bAdd]
  | x :: rows, hk => by
    rw [List.flatten_cons, List.length_append, List.length_cons, Nat.succ_mul, flat_length fun y hy => hk y (List.mem_cons_of_mem _ hy), hk x List.mem_cons_self]
    omega
theorem rsize {m k : Nat} (hk : 1 ≤ k) : Builtin.Range.rangeSize 0 ((m * k : Nat) : Int) (k : Int) = (m : Int) := by
  unfold Builtin.Range.rangeSize
  rw [if_pos (by omega)]
  cases m with
  | zero => simp [asL_ap, fBinL_ap, fLst_ap, fFl_ap, fMtF_ap, fSlL_ap, fl_tup, fl_lst, all_mapT, ln_tup, ln_lst, ln_fz, tu_lst, tu_tup, it_tup, it_lst, it_fz, sq_tup, sq_lst, bindT_v, lockF, lockS, wipeF, run_ap, outO_rt, outO_nx, outO_ite, evC, evE, evB, evEs, evPs, evT, evTs, evI, evF, frame0, asP, asQ, asO, mbind_ap, bindO_ok, bindO_ite, ite_ap, mret_ap, mopt_some, lift0_ap, liftO_ok, take_val, peek_val, peek_own, peek_lck, take_own, mval_int, mval_str, mval_bl, mval_non, mval_tup, mval_lst, mval_fz, mresL_v, mvals, cLt, cLe, cGt, cGe, cEqI, cNeI, cEqB, cIs, cIsNot, isNon, tBo, tIn, tNo, tTu, tLi, xT, xL, xF, omap_some, bAdd]
  | succ m =>
    have h1 : 1 ≤ (m + 1) * k := Nat.le_trans hk (Nat.le_mul_of_pos_left k (Nat.succ_pos m))
    rw [if_pos (by omega)]
    have e : (((m + 1) * k : Nat) : Int) - 0 - 1 = ((k : Int) - 1) + (m : Int) * (k : Int) := by
      rw [Nat.succ_mul]
      push_cast
      omega
    rw [e, Int.add_mul_ediv_right _ _ (by omega), Int.ediv_eq_zero_of_lt (by omega) (by omega)]
    omega
theorem small_ok {m k : Nat} (hk : 1 ≤ k) (hk2 : k ≤ 1000) (hm : m ≤ 1000) : Builtin.Range.small 0 ((m * k : Nat) : Int) (k : Int) = true := by
  have h : m * k ≤ 1000 * 1000 := Nat.mul_le_mul hm hk2
  unfold Builtin.Range.small
  rw [rsize hk]
  have f : ∀ z : Int, 0 ≤ z → z ≤ 10000000 → Builtin.Range.rangeFitsLong z = true := fun z h1 h2 => by
    unfold Builtin.Range.rangeFitsLong
    simp [asL_ap, fBinL_ap, fLst_ap, fFl_ap, fMtF_ap, fSlL_ap, fl_tup, fl_lst, all_mapT, ln_tup, ln_lst, ln_fz, tu_lst, tu_tup, it_tup, it_lst, it_fz, sq_tup, sq_lst, bindT_v, lockF, lockS, wipeF, run_ap, outO_rt, outO_nx, outO_ite, evC, evE, evB, evEs, evPs, evT, evTs, evI, evF, frame0, asP, asQ, asO, mbind_ap, bindO_ok, bindO_ite, ite_ap, mret_ap, mopt_some, lift0_ap, liftO_ok, take_val, peek_val, peek_own, peek_lck, take_own, mval_int, mval_str, mval_bl, mval_non, mval_tup, mval_lst, mval_fz, mresL_v, mvals, cLt, cLe, cGt, cGe, cEqI, cNeI, cEqB, cIs, cIsNot, isNon, tBo, tIn, tNo, tTu, tLi, xT, xL, xF, omap_some, bAdd]
    omega
  rw [f 0 (by omega) (by omega), f ((m * k : Nat) : Int) (by omega) (by omega), f (k : Int) (by omega) (by omega), f (m : Int) (by omega) (by omega), if_pos (show (k : Int) > 0 by omega), f _ (by omega) (by omega)]
  simp [asL_ap, fBinL_ap, fLst_ap, fFl_ap, fMtF_ap, fSlL_ap, fl_tup, fl_lst, all_mapT, ln_tup, ln_lst, ln_fz, tu_lst, tu_tup, it_tup, it_lst, it_fz, sq_tup, sq_lst, bindT_v, lockF, lockS, wipeF, run_ap, outO_rt, outO_nx, outO_ite, evC, evE, evB, evEs, evPs, evT, evTs, evI, evF, frame0, asP, asQ, asO, mbind_ap, bindO_ok, bindO_ite, ite_ap, mret_ap, mopt_some, lift0_ap, liftO_ok, take_val, peek_val, peek_own, peek_lck, take_own, mval_int, mval_str, mval_bl, mval_non, mval_tup, mval_lst, mval_fz, mresL_v, mvals, cLt, cLe, cGt, cGe, cEqI, cNeI, cEqB, cIs, cIsNot, isNon, tBo, tIn, tNo, tTu, tLi, xT, xL, xF, omap_some, bAdd]
theorem e_parted0 (n : Nat) (rows : List (List D)) (parts : List D) (k : Nat) (S : Store) (hk : 1 ≤ k) (hk2 : k ≤ 9) (hm : rows.length ≤ 9) (fl : parts.length = rows.length * k) (hg : ∀ (i : Nat) r, rows[i]? = some r → (parts.drop (i * k)).take k = r) :
    (callF Pg (n + 1)).f "parted" [.lst parts, .int k] [] [] S = .ok (.tup (rows.map D.tup)) S := by
  rw [F_eq find_parted rfl rfl]
  have mk : rows.length * k ≤ 9 * 9 := Nat.mul_le_mul hm hk2
  obtain ⟨its, hits⟩ : ∃ its, its = (List.range rows.length).map fun i => D.int (0 + (i : Nat) * (k : Int)) := ⟨_, rfl⟩
  have rg : rngD3 0 (parts.length : Int) (k : Int) = some its := by
    unfold rngD3
    rw [fl, small_ok hk (by omega) (by omega), rsize hk, decide_eq_true (show (1 : Int) ≤ (k : Int) ∧ (k : Int) ≤ 1000000 by omega), hits]
    show some (stepsFrom 0 (k : Int) ((rows.length : Int)).toNat) = _
    rw [Int.toNat_natCast, stepsFrom_map]
  have key : fLc (evCl (callF Pg n) c_parted_0) [.val (.lst parts), .val (.int k), .none] S = .ok (its.map fun d => match d with | .int v => .tup ((parts.drop v.toNat).take k) | _ => .non) [.val (.lst parts), .val (.int k), .none] S :=
    lc_map (l := its) (by simp [asL_ap, fBinL_ap, fLst_ap, fFl_ap, fMtF_ap, fSlL_ap, fl_tup, fl_lst, all_mapT, ln_tup, ln_lst, ln_fz, tu_lst, tu_tup, it_tup, it_lst, it_fz, sq_tup, sq_lst, bindT_v, lockF, lockS, wipeF, run_ap, outO_rt, outO_nx, outO_ite, evC, evE, evB, evEs, evPs, evT, evTs, evI, evF, frame0, asP, asQ, asO, mbind_ap, bindO_ok, bindO_ite, ite_ap, mret_ap, mopt_some, lift0_ap, liftO_ok, take_val, peek_val, peek_own, peek_lck, take_own, mval_int, mval_str, mval_bl, mval_non, mval_tup, mval_lst, mval_fz, mresL_v, mvals, cLt, cLe, cGt, cGe, cEqI, cNeI, cEqB, cIs, cIsNot, isNon, tBo, tIn, tNo, tTu, tLi, xT, xL, xF, omap_some, bAdd, rg]) (fun d hd => by
      rw [hits] at hd
      obtain ⟨i, hi, rfl⟩ := List.mem_map.mp hd
      have hi := List.mem_range.mp hi
      have hik : i * k + k ≤ rows.length * k := by
        have := Nat.mul_le_mul_right k (show i + 1 ≤ rows.length by omega)
        rw [Nat.succ_mul] at this
        exact this
      have e1 : (0 : Int) + (i : Nat) * (k : Int) = ((i * k : Nat) : Int) := by push_cast; omega
      rw [e1]
      have c : cutD parts (.int ((i * k : Nat) : Int)) (.int (((i * k : Nat) : Int) + (k : Int))) = some ((parts.drop (i * k)).take k) := by
        have e2 : ((i * k : Nat) : Int) + (k : Int) = ((i * k + k : Nat) : Int) := by push_cast; omega
        unfold cutD slD
        rw [e2]
        show some ((parts.drop (HT.sIx parts.length 0 (some ((i * k : Nat) : Int)))).take (HT.sIx parts.length parts.length (some ((i * k + k : Nat) : Int)) - HT.sIx parts.length 0 (some ((i * k : Nat) : Int)))) = _
        rw [HT.sIx_nat, HT.sIx_nat, fl, Nat.min_eq_left (by omega), Nat.min_eq_left (by omega)]
        congr 2
        omega
      have e3 : (((i * k : Nat) : Int)).toNat = i * k := Int.toNat_natCast _
      generalize ((i * k : Nat) : Int) = v at c e3 ⊢
      refine ⟨[.val (.lst parts), .val (.int k), .val (.int v)], ?_⟩
      simp [asL_ap, fBinL_ap, fLst_ap, fFl_ap, fMtF_ap, fSlL_ap, fl_tup, fl_lst, all_mapT, ln_tup, ln_lst, ln_fz, tu_lst, tu_tup, it_tup, it_lst, it_fz, sq_tup, sq_lst, bindT_v, lockF, lockS, wipeF, run_ap, outO_rt, outO_nx, outO_ite, evC, evE, evB, evEs, evPs, evT, evTs, evI, evF, frame0, asP, asQ, asO, mbind_ap, bindO_ok, bindO_ite, ite_ap, mret_ap, mopt_some, lift0_ap, liftO_ok, take_val, peek_val, peek_own, peek_lck, take_own, mval_int, mval_str, mval_bl, mval_non, mval_tup, mval_lst, mval_fz, mresL_v, mvals, cLt, cLe, cGt, cGe, cEqI, cNeI, cEqB, cIs, cIsNot, isNon, tBo, tIn, tNo, tTu, tLi, xT, xL, xF, omap_some, bAdd, c, e3]) (by rw [hits, List.length_map, List.length_range]; omega)
  have e : (its.map fun d => match d with | .int v => D.tup ((parts.drop v.toNat).take k) | _ => .non) = rows.map D.tup := by
    rw [hits, List.map_map]
    apply List.ext_getElem
    · simp [asL_ap, fBinL_ap, fLst_ap, fFl_ap, fMtF_ap, fSlL_ap, fl_tup, fl_lst, all_mapT, ln_tup, ln_lst, ln_fz, tu_lst, tu_tup, it_tup, it_lst, it_fz, sq_tup, sq_lst, bindT_v, lockF, lockS, wipeF, run_ap, outO_rt, outO_nx, outO_ite, evC, evE, evB, evEs, evPs, evT, evTs, evI, evF, frame0, asP, asQ, asO, mbind_ap, bindO_ok, bindO_ite, ite_ap, mret_ap, mopt_some, lift0_ap, liftO_ok, take_val, peek_val, peek_own, peek_lck, take_own, mval_int, mval_str, mval_bl, mval_non, mval_tup, mval_lst, mval_fz, mresL_v, mvals, cLt, cLe, cGt, cGe, cEqI, cNeI, cEqB, cIs, cIsNot, isNon, tBo, tIn, tNo, tTu, tLi, xT, xL, xF, omap_some, bAdd]
    · intro i h1 h2
      have hi : i < rows.length := by simpa [asL_ap, fBinL_ap, fLst_ap, fFl_ap, fMtF_ap, fSlL_ap, fl_tup, fl_lst, all_mapT, ln_tup, ln_lst, ln_fz, tu_lst, tu_tup, it_tup, it_lst, it_fz, sq_tup, sq_lst, bindT_v, lockF, lockS, wipeF, run_ap, outO_rt, outO_nx, outO_ite, evC, evE, evB, evEs, evPs, evT, evTs, evI, evF, frame0, asP, asQ, asO, mbind_ap, bindO_ok, bindO_ite, ite_ap, mret_ap, mopt_some, lift0_ap, liftO_ok, take_val, peek_val, peek_own, peek_lck, take_own, mval_int, mval_str, mval_bl, mval_non, mval_tup, mval_lst, mval_fz, mresL_v, mvals, cLt, cLe, cGt, cGe, cEqI, cNeI, cEqB, cIs, cIsNot, isNon, tBo, tIn, tNo, tTu, tLi, xT, xL, xF, omap_some, bAdd] using h2
      rw [List.getElem_map, List.getElem_map, List.getElem_range]
      have e1 : (0 : Int) + (i : Nat) * (k : Int) = ((i * k : Nat) : Int) := by push_cast; omega
      show (match D.int (0 + (i : Nat) * (k : Int)) with | .int v => D.tup ((parts.drop v.toNat).take k) | _ => .non) = _
      rw [e1]
      show D.tup ((parts.drop (((i * k : Nat) : Int)).toNat).take k) = _
      rw [Int.toNat_natCast, hg i rows[i] (List.getElem?_eq_getElem hi)]
  rw [e] at key
  simp [asL_ap, fBinL_ap, fLst_ap, fFl_ap, fMtF_ap, fSlL_ap, fl_tup, fl_lst, all_mapT, ln_tup, ln_lst, ln_fz, tu_lst, tu_tup, it_tup, it_lst, it_fz, sq_tup, sq_lst, bindT_v, lockF, lockS, wipeF, run_ap, outO_rt, outO_nx, outO_ite, evC, evE, evB, evEs, evPs, evT, evTs, evI, evF, frame0, asP, asQ, asO, mbind_ap, bindO_ok, bindO_ite, ite_ap, mret_ap, mopt_some, lift0_ap, liftO_ok, take_val, peek_val, peek_own, peek_lck, take_own, mval_int, mval_str, mval_bl, mval_non, mval_tup, mval_lst, mval_fz, mresL_v, mvals, cLt, cLe, cGt, cGe, cEqI, cNeI, cEqB, cIs, cIsNot, isNon, tBo, tIn, tNo, tTu, tLi, xT, xL, xF, omap_some, bAdd, f_parted, b_parted, key]
theorem e_parted (n : Nat) (rows : List (List D)) (k : Nat) (S : Store) (hk : 1 ≤ k) (hk2 : k ≤ 9) (hm : rows.length ≤ 9) (h : ∀ r ∈ rows, r.length = k) : (callF Pg (n + 1)).f "parted" [.lst rows.flatten, .int k] [] [] S = .ok (.tup (rows.map D.tup)) S :=
  e_parted0 n rows _ k S hk hk2 hm (flat_length h) fun i r e => flat_take i r h e
/-- tables read -/
theorem e_table_in (n : Nat) (s k : Int) (rooms : List D) (x : Str) (ps : D → List D) (S : Store) (h1 : 0 ≤ s) (h2 : s < 100) (h3 : 0 ≤ k) (h4 : k < 100) (hl : rooms.length ≤ 100)
    (hx : ∀ r ∈ rooms, ps r ≠ [] ∧ (ps r).length ≤ 500 ∧ ∀ p ∈ ps r, Wd p ∧ (callF Pg (n + 1)).f x [.str (W p)] [] [] S = .ok p S) :
    (callF Pg (n + 2)).f "table_in" [.str (page (tpage s k (fun r => (ps r).map W) rooms)), .fn x] [] [] S = .ok (.tup [.int s, .int k, .lst (rooms.map fun r => .lst (ps r))]) S := by
  rw [F_eq find_table_in rfl rfl]
  have good : Good (tpage s k (fun r => (ps r).map W) rooms) := by
    refine ⟨by unfold tpage; simp [asL_ap, fBinL_ap, fLst_ap, fFl_ap, fMtF_ap, fSlL_ap, fl_tup, fl_lst, all_mapT, ln_tup, ln_lst, ln_fz, tu_lst, tu_tup, it_tup, it_lst, it_fz, sq_tup, sq_lst, bindT_v, lockF, lockS, wipeF, run_ap, outO_rt, outO_nx, outO_ite, evC, evE, evB, evEs, evPs, evT, evTs, evI, evF, frame0, asP, asQ, asO, mbind_ap, bindO_ok, bindO_ite, ite_ap, mret_ap, mopt_some, lift0_ap, liftO_ok, take_val, peek_val, peek_own, peek_lck, take_own, mval_int, mval_str, mval_bl, mval_non, mval_tup, mval_lst, mval_fz, mresL_v, mvals, cLt, cLe, cGt, cGe, cEqI, cNeI, cEqB, cIs, cIsNot, isNon, tBo, tIn, tNo, tTu, tLi, xT, xL, xF, omap_some, bAdd], by unfold tpage; rw [List.length_cons, List.length_map]; omega, fun r hr => ?_⟩
    unfold tpage at hr
    rcases List.mem_cons.mp hr with rfl | hr
    · obtain ⟨a, b, c⟩ := num_tl h1 h2
      obtain ⟨a', b', c'⟩ := num_tl h3 h4
      rw [List.all_eq_true] at a a'
      refine ⟨by simp [asL_ap, fBinL_ap, fLst_ap, fFl_ap, fMtF_ap, fSlL_ap, fl_tup, fl_lst, all_mapT, ln_tup, ln_lst, ln_fz, tu_lst, tu_tup, it_tup, it_lst, it_fz, sq_tup, sq_lst, bindT_v, lockF, lockS, wipeF, run_ap, outO_rt, outO_nx, outO_ite, evC, evE, evB, evEs, evPs, evT, evTs, evI, evF, frame0, asP, asQ, asO, mbind_ap, bindO_ok, bindO_ite, ite_ap, mret_ap, mopt_some, lift0_ap, liftO_ok, take_val, peek_val, peek_own, peek_lck, take_own, mval_int, mval_str, mval_bl, mval_non, mval_tup, mval_lst, mval_fz, mresL_v, mvals, cLt, cLe, cGt, cGe, cEqI, cNeI, cEqB, cIs, cIsNot, isNon, tBo, tIn, tNo, tTu, tLi, xT, xL, xF, omap_some, bAdd], ⟨by simp [asL_ap, fBinL_ap, fLst_ap, fFl_ap, fMtF_ap, fSlL_ap, fl_tup, fl_lst, all_mapT, ln_tup, ln_lst, ln_fz, tu_lst, tu_tup, it_tup, it_lst, it_fz, sq_tup, sq_lst, bindT_v, lockF, lockS, wipeF, run_ap, outO_rt, outO_nx, outO_ite, evC, evE, evB, evEs, evPs, evT, evTs, evI, evF, frame0, asP, asQ, asO, mbind_ap, bindO_ok, bindO_ite, ite_ap, mret_ap, mopt_some, lift0_ap, liftO_ok, take_val, peek_val, peek_own, peek_lck, take_own, mval_int, mval_str, mval_bl, mval_non, mval_tup, mval_lst, mval_fz, mresL_v, mvals, cLt, cLe, cGt, cGe, cEqI, cNeI, cEqB, cIs, cIsNot, isNon, tBo, tIn, tNo, tTu, tLi, xT, xL, xF, omap_some, bAdd], fun w hw => ?_⟩, fun w hw => ?_⟩
      · simp only [List.mem_cons, List.not_mem_nil, or_false] at hw
        rcases hw with rfl | rfl <;> omega
      · simp only [List.mem_cons, List.not_mem_nil, or_false] at hw
        rcases hw with rfl | rfl
        · exact ⟨fun h => by have := of_decide_eq_true (a 32 h); omega, fun h => by have := of_decide_eq_true (a 47 h); omega⟩
        · exact ⟨fun h => by have := of_decide_eq_true (a' 32 h); omega, fun h => by have := of_decide_eq_true (a' 47 h); omega⟩
    · obtain ⟨q, hq, rfl⟩ := List.mem_map.mp hr
      obtain ⟨g1, g2, g3⟩ := hx q hq
      refine ⟨fun e => g1 (List.map_eq_nil_iff.mp e), ⟨by rw [List.length_map]; exact g2, fun w hw => ?_⟩, fun w hw => ?_⟩
      · obtain ⟨p, hp, rfl⟩ := List.mem_map.mp hw
        exact (W_tl (g3 p hp).1).1
      · obtain ⟨p, hp, rfl⟩ := List.mem_map.mp hw
        exact ⟨(W_tl (g3 p hp).1).2.1, (W_tl (g3 p hp).1).2.2.1⟩
  have ri := e_rows_in n _ S good
  obtain ⟨txt, htxt⟩ : ∃ t, t = page (tpage s k (fun r => (ps r).map W) rooms) := ⟨_, rfl⟩
  rw [← htxt] at ri ⊢
  have e0 : (tpage s k (fun r => (ps r).map W) rooms).map rowD = D.lst [.str (num s), .str (num k)] :: rooms.map fun r => rowD ((ps r).map W) := by
    unfold tpage
    rw [List.map_cons, List.map_map]
    rfl
  rw [e0] at ri
  have key : ∀ rest, rest = (rooms.map fun r => rowD ((ps r).map W)) → fLc (evCl (callF Pg (n + 1)) c_table_in_1) [.val (.str txt), .val (.fn x), .val (.lst [.str (num s), .str (num k)]), .val (.lst rest), .none, .none] S = .ok (rooms.map fun r => D.lst (ps r)) [.val (.str txt), .val (.fn x), .val (.lst [.str (num s), .str (num k)]), .val (.lst rest), .none, .none] S := fun rest hrest =>
    lc_img (l := rooms) (a := fun r => rowD ((ps r).map W)) (g := fun r => D.lst (ps r)) (by simp [asL_ap, fBinL_ap, fLst_ap, fFl_ap, fMtF_ap, fSlL_ap, fl_tup, fl_lst, all_mapT, ln_tup, ln_lst, ln_fz, tu_lst, tu_tup, it_tup, it_lst, it_fz, sq_tup, sq_lst, bindT_v, lockF, lockS, wipeF, run_ap, outO_rt, outO_nx, outO_ite, evC, evE, evB, evEs, evPs, evT, evTs, evI, evF, frame0, asP, asQ, asO, mbind_ap, bindO_ok, bindO_ite, ite_ap, mret_ap, mopt_some, lift0_ap, liftO_ok, take_val, peek_val, peek_own, peek_lck, take_own, mval_int, mval_str, mval_bl, mval_non, mval_tup, mval_lst, mval_fz, mresL_v, mvals, cLt, cLe, cGt, cGe, cEqI, cNeI, cEqB, cIs, cIsNot, isNon, tBo, tIn, tNo, tTu, tLi, xT, xL, xF, omap_some, bAdd, hrest]) (fun r hr => by
      obtain ⟨g1, g2, g3⟩ := hx r hr
      refine ⟨[.val (.str txt), .val (.fn x), .val (.lst [.str (num s), .str (num k)]), .val (.lst rest), .none, .val (rowD ((ps r).map W))], ?_⟩
      have k2 : fLc (evCl (callF Pg (n + 1)) c_table_in_0) [.val (.str txt), .val (.fn x), .val (.lst [.str (num s), .str (num k)]), .val (.lst rest), .none, .val (rowD ((ps r).map W))] S = .ok ((ps r).map fun p => p) [.val (.str txt), .val (.fn x), .val (.lst [.str (num s), .str (num k)]), .val (.lst rest), .none, .val (rowD ((ps r).map W))] S :=
        lc_img (l := ps r) (a := fun p => D.str (W p)) (g := fun p => p) (by simp [asL_ap, fBinL_ap, fLst_ap, fFl_ap, fMtF_ap, fSlL_ap, fl_tup, fl_lst, all_mapT, ln_tup, ln_lst, ln_fz, tu_lst, tu_tup, it_tup, it_lst, it_fz, sq_tup, sq_lst, bindT_v, lockF, lockS, wipeF, run_ap, outO_rt, outO_nx, outO_ite, evC, evE, evB, evEs, evPs, evT, evTs, evI, evF, frame0, asP, asQ, asO, mbind_ap, bindO_ok, bindO_ite, ite_ap, mret_ap, mopt_some, lift0_ap, liftO_ok, take_val, peek_val, peek_own, peek_lck, take_own, mval_int, mval_str, mval_bl, mval_non, mval_tup, mval_lst, mval_fz, mresL_v, mvals, cLt, cLe, cGt, cGe, cEqI, cNeI, cEqB, cIs, cIsNot, isNon, tBo, tIn, tNo, tTu, tLi, xT, xL, xF, omap_some, bAdd]) (fun p hp => ⟨[.val (.str txt), .val (.fn x), .val (.lst [.str (num s), .str (num k)]), .val (.lst rest), .val (.str (W p)), .val (rowD ((ps r).map W))], by simp [asL_ap, fBinL_ap, fLst_ap, fFl_ap, fMtF_ap, fSlL_ap, fl_tup, fl_lst, all_mapT, ln_tup, ln_lst, ln_fz, tu_lst, tu_tup, it_tup, it_lst, it_fz, sq_tup, sq_lst, bindT_v, lockF, lockS, wipeF, run_ap, outO_rt, outO_nx, outO_ite, evC, evE, evB, evEs, evPs, evT, evTs, evI, evF, frame0, asP, asQ, asO, mbind_ap, bindO_ok, bindO_ite, ite_ap, mret_ap, mopt_some, lift0_ap, liftO_ok, take_val, peek_val, peek_own, peek_lck, take_own, mval_int, mval_str, mval_bl, mval_non, mval_tup, mval_lst, mval_fz, mresL_v, mvals, cLt, cLe, cGt, cGe, cEqI, cNeI, cEqB, cIs, cIsNot, isNon, tBo, tIn, tNo, tTu, tLi, xT, xL, xF, omap_some, bAdd, (g3 p hp).2]⟩) (by omega)
      rw [List.map_id'] at k2
      simp only [rowD] at k2 ⊢
      simp only [List.map_map] at k2 ⊢
      simp [asL_ap, fBinL_ap, fLst_ap, fFl_ap, fMtF_ap, fSlL_ap, fl_tup, fl_lst, all_mapT, ln_tup, ln_lst, ln_fz, tu_lst, tu_tup, it_tup, it_lst, it_fz, sq_tup, sq_lst, bindT_v, lockF, lockS, wipeF, run_ap, outO_rt, outO_nx, outO_ite, evC, evE, evB, evEs, evPs, evT, evTs, evI, evF, frame0, asP, asQ, asO, mbind_ap, bindO_ok, bindO_ite, ite_ap, mret_ap, mopt_some, lift0_ap, liftO_ok, take_val, peek_val, peek_own, peek_lck, take_own, mval_int, mval_str, mval_bl, mval_non, mval_tup, mval_lst, mval_fz, mresL_v, mvals, cLt, cLe, cGt, cGe, cEqI, cNeI, cEqB, cIs, cIsNot, isNon, tBo, tIn, tNo, tTu, tLi, xT, xL, xF, omap_some, bAdd, k2]) (by omega)
  have key := key _ rfl
  generalize (rooms.map fun r => rowD ((ps r).map W)) = rest at ri key
  have n1 := e_number_in n s S h1 h2
  have n2 := e_number_in n k S h3 h4
  simp [asL_ap, fBinL_ap, fLst_ap, fFl_ap, fMtF_ap, fSlL_ap, fl_tup, fl_lst, all_mapT, ln_tup, ln_lst, ln_fz, tu_lst, tu_tup, it_tup, it_lst, it_fz, sq_tup, sq_lst, bindT_v, lockF, lockS, wipeF, run_ap, outO_rt, outO_nx, outO_ite, evC, evE, evB, evEs, evPs, evT, evTs, evI, evF, frame0, asP, asQ, asO, mbind_ap, bindO_ok, bindO_ite, ite_ap, mret_ap, mopt_some, lift0_ap, liftO_ok, take_val, peek_val, peek_own, peek_lck, take_own, mval_int, mval_str, mval_bl, mval_non, mval_tup, mval_lst, mval_fz, mresL_v, mvals, cLt, cLe, cGt, cGe, cEqI, cNeI, cEqB, cIs, cIsNot, isNon, tBo, tIn, tNo, tTu, tLi, xT, xL, xF, omap_some, bAdd, f_table_in, b_table_in, ri, bindT, bindTs, okLen, atD, ixD, n1, n2, key]
end K86

namespace K86
open PySem PySem.Spec MP L2 TL
/-! ### plain signs -/
def Sg (c : Nat) : Prop := c = 32 ∨ c = 47 ∨ (48 ≤ c ∧ c ≤ 58) ∨ c = 120
def Pl (x : Str) : Prop := ∀ c ∈ tl x, Sg c
theorem pl_ok {x : Str} (h : Pl x) : PyData.strOk x = true := by
  unfold PyData.strOk
  rw [← Array.all_toList, List.all_eq_true]
  intro c hc
  refine decide_eq_true ?_
  have h := h c hc
  unfold Sg at h
  omega
theorem pl_app {x y : Str} (h1 : Pl x) (h2 : Pl y) : Pl (x ++ y) := fun c hc => by
  rw [tl_append] at hc
  rcases List.mem_append.mp hc with h | h
  · exact h1 c h
  · exact h2 c h
theorem pl_num {i : Int} (h1 : 0 ≤ i) (h2 : i < 100) : Pl (num i) := fun c hc => by
  obtain ⟨a, _, _⟩ := num_tl h1 h2
  rw [List.all_eq_true] at a
  have := of_decide_eq_true (a c hc)
  unfold Sg
  omega
theorem pl_W {d : D} (h : Wd d) : Pl (W d) := by
  rcases h with (rfl | ⟨i, rfl, h1, h2⟩) | ⟨i, j, rfl, h1, h2, h3, h4⟩
  · exact fun c hc => by
      have : tl (W .non) = [120] := by decide +kernel
      rw [this] at hc
      simp [asL_ap, fBinL_ap, fLst_ap, fFl_ap, fMtF_ap, fSlL_ap, fl_tup, fl_lst, all_mapT, ln_tup, ln_lst, ln_fz, tu_lst, tu_tup, it_tup, it_lst, it_fz, sq_tup, sq_lst, bindT_v, lockF, lockS, wipeF, run_ap, outO_rt, outO_nx, outO_ite, evC, evE, evB, evEs, evPs, evT, evTs, evI, evF, frame0, asP, asQ, asO, mbind_ap, bindO_ok, bindO_ite, ite_ap, mret_ap, mopt_some, lift0_ap, liftO_ok, take_val, peek_val, peek_own, peek_lck, take_own, mval_int, mval_str, mval_bl, mval_non, mval_tup, mval_lst, mval_fz, mresL_v, mvals, cLt, cLe, cGt, cGe, cEqI, cNeI, cEqB, cIs, cIsNot, isNon, tBo, tIn, tNo, tTu, tLi, xT, xL, xF, omap_some, bAdd] at hc
      unfold Sg
      omega
  · exact pl_num h1 h2
  · refine pl_app (pl_app (pl_app (fun c hc => by cases hc) (pl_num h1 h2)) fun c hc => ?_) (pl_num h3 h4)
    have : tl (":" : Str) = [58] := by decide +kernel
    rw [this] at hc
    simp [asL_ap, fBinL_ap, fLst_ap, fFl_ap, fMtF_ap, fSlL_ap, fl_tup, fl_lst, all_mapT, ln_tup, ln_lst, ln_fz, tu_lst, tu_tup, it_tup, it_lst, it_fz, sq_tup, sq_lst, bindT_v, lockF, lockS, wipeF, run_ap, outO_rt, outO_nx, outO_ite, evC, evE, evB, evEs, evPs, evT, evTs, evI, evF, frame0, asP, asQ, asO, mbind_ap, bindO_ok, bindO_ite, ite_ap, mret_ap, mopt_some, lift0_ap, liftO_ok, take_val, peek_val, peek_own, peek_lck, take_own, mval_int, mval_str, mval_bl, mval_non, mval_tup, mval_lst, mval_fz, mresL_v, mvals, cLt, cLe, cGt, cGe, cEqI, cNeI, cEqB, cIs, cIsNot, isNon, tBo, tIn, tNo, tTu, tLi, xT, xL, xF, omap_some, bAdd] at hc
    unfold Sg
    omega
theorem pl_joinL {S : List Nat} (hS : ∀ c ∈ S, Sg c) : ∀ {parts : List (List Nat)}, (∀ p ∈ parts, ∀ c ∈ p, Sg c) → ∀ c ∈ joinL S parts, Sg c
  | [], _, c, hc => by simp [asL_ap, fBinL_ap, fLst_ap, fFl_ap, fMtF_ap, fSlL_ap, fl_tup, fl_lst, all_mapT, ln_tup, ln_lst, ln_fz, tu_lst, tu_tup, it_tup, it_lst, it_fz, sq_tup, sq_lst, bindT_v, lockF, lockS, wipeF, run_ap, outO_rt, outO_nx, outO_ite, evC, evE, evB, evEs, evPs, evT, evTs, evI, evF, frame0, asP, asQ, asO, mbind_ap, bindO_ok, bindO_ite, ite_ap, mret_ap, mopt_some, lift0_ap, liftO_ok, take_val, peek_val, peek_own, peek_lck, take_own, mval_int, mval_str, mval_bl, mval_non, mval_tup, mval_lst, mval_fz, mresL_v, mvals, cLt, cLe, cGt, cGe, cEqI, cNeI, cEqB, cIs, cIsNot, isNon, tBo, tIn, tNo, tTu, tLi, xT, xL, xF, omap_some, bAdd, joinL] at hc
  | [p], h, c, hc => h p (List.mem_singleton.mpr rfl) c hc
  | p :: q :: r, h, c, hc => by
    have hc : c ∈ p ++ (S ++ joinL S (q :: r)) := hc
    rw [List.mem_append, List.mem_append] at hc
    rcases hc with h1 | h1 | h1
    · exact h p List.mem_cons_self c h1
    · exact hS c h1
    · exact pl_joinL hS (fun z hz => h z (List.mem_cons_of_mem _ hz)) c h1
theorem pl_join {sep : Str} {parts : List Str} (hs : Pl sep) (h : ∀ p ∈ parts, Pl p) : Pl (Txt.join sep parts) := fun c hc => by
  rw [join_eq, tl_join] at hc
  refine pl_joinL hs (fun p hp => ?_) c hc
  obtain ⟨w, hw, rfl⟩ := List.mem_map.mp hp
  exact h w hw
theorem pl_sep : Pl " " ∧ Pl " / " := ⟨fun c hc => by
  have : tl (" " : Str) = [32] := by decide +kernel
  rw [this] at hc
  simp [asL_ap, fBinL_ap, fLst_ap, fFl_ap, fMtF_ap, fSlL_ap, fl_tup, fl_lst, all_mapT, ln_tup, ln_lst, ln_fz, tu_lst, tu_tup, it_tup, it_lst, it_fz, sq_tup, sq_lst, bindT_v, lockF, lockS, wipeF, run_ap, outO_rt, outO_nx, outO_ite, evC, evE, evB, evEs, evPs, evT, evTs, evI, evF, frame0, asP, asQ, asO, mbind_ap, bindO_ok, bindO_ite, ite_ap, mret_ap, mopt_some, lift0_ap, liftO_ok, take_val, peek_val, peek_own, peek_lck, take_own, mval_int, mval_str, mval_bl, mval_non, mval_tup, mval_lst, mval_fz, mresL_v, mvals, cLt, cLe, cGt, cGe, cEqI, cNeI, cEqB, cIs, cIsNot, isNon, tBo, tIn, tNo, tTu, tLi, xT, xL, xF, omap_some, bAdd] at hc
  unfold Sg
  omega, fun c hc => by
  have : tl (" / " : Str) = [32, 47, 32] := by decide +kernel
  rw [this] at hc
  simp [asL_ap, fBinL_ap, fLst_ap, fFl_ap, fMtF_ap, fSlL_ap, fl_tup, fl_lst, all_mapT, ln_tup, ln_lst, ln_fz, tu_lst, tu_tup, it_tup, it_lst, it_fz, sq_tup, sq_lst, bindT_v, lockF, lockS, wipeF, run_ap, outO_rt, outO_nx, outO_ite, evC, evE, evB, evEs, evPs, evT, evTs, evI, evF, frame0, asP, asQ, asO, mbind_ap, bindO_ok, bindO_ite, ite_ap, mret_ap, mopt_some, lift0_ap, liftO_ok, take_val, peek_val, peek_own, peek_lck, take_own, mval_int, mval_str, mval_bl, mval_non, mval_tup, mval_lst, mval_fz, mresL_v, mvals, cLt, cLe, cGt, cGe, cEqI, cNeI, cEqB, cIs, cIsNot, isNon, tBo, tIn, tNo, tTu, tLi, xT, xL, xF, omap_some, bAdd] at hc
  unfold Sg
  omega⟩
theorem pl_line {r : List Str} (h : ∀ w ∈ r, Pl w) : Pl (line r) := pl_join pl_sep.1 h
theorem pl_page {rows : List (List Str)} (h : ∀ r ∈ rows, ∀ w ∈ r, Pl w) : Pl (page rows) := pl_join pl_sep.2 fun p hp => by
  obtain ⟨r, hr, rfl⟩ := List.mem_map.mp hp
  exact pl_line (h r hr)
theorem pl_ne {x y : Str} (h : Pl x) {c : Nat} (hc : c ∈ tl y) (hs : ¬Sg c) : (x == y) = false := by
  rw [beq_eq_false_iff_ne]
  intro e
  subst e
  exact hs (h c hc)
theorem eq_str {a b : Str} (h1 : PyData.strOk a = true) (h2 : PyData.strOk b = true) : opCmp .Eq (.str a) (.str b) = some (a == b) := by
  rw [cEqD]
  have e1 : shp (.str a) = true := by
    show (PyData.strOk a && decide (0 ≤ 64)) = true
    rw [h1] <;> rfl
  have e2 : shp (.str b) = true := by
    show (PyData.strOk b && decide (0 ≤ 64)) = true
    rw [h2] <;> rfl
  rw [e1, e2]
  rfl
/-! ### things read by deeds -/
def cps (r : D) : List D := (its r).flatMap its
theorem e_read_by_deeds (n : Nat) {P : D → Prop} (s k : Int) (rooms : List D) (x : Str) (S : Store) (h1 : 1 ≤ s) (h2 : s ≤ 9) (h3 : 1 ≤ k) (h4 : k ≤ 9) (hl : rooms.length ≤ 100) (hr : ∀ r ∈ rooms, Row s (Row k P) r)
    (hp : ∀ p, P p → Wd p ∧ (callF Pg (n + 1)).f x [.str (W p)] [] [] S = .ok p S) : (callF Pg (n + 3)).f "read_by_deeds" [.str (page (tpage s k sws rooms)), .fn x] [] [] S = .ok (.tup [.int s, .int k, .tup rooms]) S := by
  rw [F_eq find_read_by_deeds rfl rfl]
  have hx : ∀ r ∈ rooms, cps r ≠ [] ∧ (cps r).length ≤ 500 ∧ ∀ p ∈ cps r, Wd p ∧ (callF Pg (n + 1)).f x [.str (W p)] [] [] S = .ok p S := fun r hrm => by
    obtain ⟨l, rfl, hll, hlr⟩ := hr r hrm
    refine ⟨?_, ?_, fun p hpm => ?_⟩
    · cases l with
      | nil => simp [asL_ap, fBinL_ap, fLst_ap, fFl_ap, fMtF_ap, fSlL_ap, fl_tup, fl_lst, all_mapT, ln_tup, ln_lst, ln_fz, tu_lst, tu_tup, it_tup, it_lst, it_fz, sq_tup, sq_lst, bindT_v, lockF, lockS, wipeF, run_ap, outO_rt, outO_nx, outO_ite, evC, evE, evB, evEs, evPs, evT, evTs, evI, evF, frame0, asP, asQ, asO, mbind_ap, bindO_ok, bindO_ite, ite_ap, mret_ap, mopt_some, lift0_ap, liftO_ok, take_val, peek_val, peek_own, peek_lck, take_own, mval_int, mval_str, mval_bl, mval_non, mval_tup, mval_lst, mval_fz, mresL_v, mvals, cLt, cLe, cGt, cGe, cEqI, cNeI, cEqB, cIs, cIsNot, isNon, tBo, tIn, tNo, tTu, tLi, xT, xL, xF, omap_some, bAdd] at hll; omega
      | cons y l =>
        obtain ⟨r2, rfl, hr2, _⟩ := hlr y List.mem_cons_self
        cases r2 with
        | nil => simp [asL_ap, fBinL_ap, fLst_ap, fFl_ap, fMtF_ap, fSlL_ap, fl_tup, fl_lst, all_mapT, ln_tup, ln_lst, ln_fz, tu_lst, tu_tup, it_tup, it_lst, it_fz, sq_tup, sq_lst, bindT_v, lockF, lockS, wipeF, run_ap, outO_rt, outO_nx, outO_ite, evC, evE, evB, evEs, evPs, evT, evTs, evI, evF, frame0, asP, asQ, asO, mbind_ap, bindO_ok, bindO_ite, ite_ap, mret_ap, mopt_some, lift0_ap, liftO_ok, take_val, peek_val, peek_own, peek_lck, take_own, mval_int, mval_str, mval_bl, mval_non, mval_tup, mval_lst, mval_fz, mresL_v, mvals, cLt, cLe, cGt, cGe, cEqI, cNeI, cEqB, cIs, cIsNot, isNon, tBo, tIn, tNo, tTu, tLi, xT, xL, xF, omap_some, bAdd] at hr2; omega
        | cons z r2 => simp [asL_ap, fBinL_ap, fLst_ap, fFl_ap, fMtF_ap, fSlL_ap, fl_tup, fl_lst, all_mapT, ln_tup, ln_lst, ln_fz, tu_lst, tu_tup, it_tup, it_lst, it_fz, sq_tup, sq_lst, bindT_v, lockF, lockS, wipeF, run_ap, outO_rt, outO_nx, outO_ite, evC, evE, evB, evEs, evPs, evT, evTs, evI, evF, frame0, asP, asQ, asO, mbind_ap, bindO_ok, bindO_ite, ite_ap, mret_ap, mopt_some, lift0_ap, liftO_ok, take_val, peek_val, peek_own, peek_lck, take_own, mval_int, mval_str, mval_bl, mval_non, mval_tup, mval_lst, mval_fz, mresL_v, mvals, cLt, cLe, cGt, cGe, cEqI, cNeI, cEqB, cIs, cIsNot, isNon, tBo, tIn, tNo, tTu, tLi, xT, xL, xF, omap_some, bAdd, cps, its]
    · have fl := flat_len (P := P) h4 l hlr
      have e : (cps (.tup l)).length = (l.flatMap fun x => (its x).map fun y => D.str (W y)).length := by
        unfold cps
        rw [List.length_flatMap, List.length_flatMap]
        simp [asL_ap, fBinL_ap, fLst_ap, fFl_ap, fMtF_ap, fSlL_ap, fl_tup, fl_lst, all_mapT, ln_tup, ln_lst, ln_fz, tu_lst, tu_tup, it_tup, it_lst, it_fz, sq_tup, sq_lst, bindT_v, lockF, lockS, wipeF, run_ap, outO_rt, outO_nx, outO_ite, evC, evE, evB, evEs, evPs, evT, evTs, evI, evF, frame0, asP, asQ, asO, mbind_ap, bindO_ok, bindO_ite, ite_ap, mret_ap, mopt_some, lift0_ap, liftO_ok, take_val, peek_val, peek_own, peek_lck, take_own, mval_int, mval_str, mval_bl, mval_non, mval_tup, mval_lst, mval_fz, mresL_v, mvals, cLt, cLe, cGt, cGe, cEqI, cNeI, cEqB, cIs, cIsNot, isNon, tBo, tIn, tNo, tTu, tLi, xT, xL, xF, omap_some, bAdd, its]
      omega
    · obtain ⟨y, hy, hpy⟩ := List.mem_flatMap.mp hpm
      obtain ⟨r2, rfl, hr2, hr3⟩ := hlr y hy
      exact hp p (hr3 p hpy)
  have ti := e_table_in n s k rooms x cps S (by omega) (by omega) (by omega) (by omega) hl hx
  have et : (fun r => (cps r).map W) = sws := rfl
  rw [et] at ti
  obtain ⟨txt, htxt⟩ : ∃ t, t = page (tpage s k sws rooms) := ⟨_, rfl⟩
  rw [← htxt] at ti ⊢
  have key : ∀ L, L = (rooms.map fun r => D.lst (cps r)) → fLc (evCl (callF Pg (n + 2)) c_read_by_deeds_0) [.val (.str txt), .val (.fn x), .val (.int s), .val (.int k), .val (.lst L), .none] S = .ok (rooms.map fun r => r) [.val (.str txt), .val (.fn x), .val (.int s), .val (.int k), .val (.lst L), .none] S := fun L hL =>
    lc_img (l := rooms) (a := fun r => D.lst (cps r)) (g := fun r => r) (by simp [asL_ap, fBinL_ap, fLst_ap, fFl_ap, fMtF_ap, fSlL_ap, fl_tup, fl_lst, all_mapT, ln_tup, ln_lst, ln_fz, tu_lst, tu_tup, it_tup, it_lst, it_fz, sq_tup, sq_lst, bindT_v, lockF, lockS, wipeF, run_ap, outO_rt, outO_nx, outO_ite, evC, evE, evB, evEs, evPs, evT, evTs, evI, evF, frame0, asP, asQ, asO, mbind_ap, bindO_ok, bindO_ite, ite_ap, mret_ap, mopt_some, lift0_ap, liftO_ok, take_val, peek_val, peek_own, peek_lck, take_own, mval_int, mval_str, mval_bl, mval_non, mval_tup, mval_lst, mval_fz, mresL_v, mvals, cLt, cLe, cGt, cGe, cEqI, cNeI, cEqB, cIs, cIsNot, isNon, tBo, tIn, tNo, tTu, tLi, xT, xL, xF, omap_some, bAdd, hL]) (fun r hrm => by
      refine ⟨[.val (.str txt), .val (.fn x), .val (.int s), .val (.int k), .val (.lst L), .val (.lst (cps r))], ?_⟩
      obtain ⟨l, rfl, hll, hlr⟩ := hr r hrm
      have kk : ((k.toNat : Nat) : Int) = k := by omega
      have pd := e_parted (n + 1) (l.map its) k.toNat S (by omega) (by omega) (by rw [List.length_map]; omega) fun r2 hr2 => by
        obtain ⟨y, hy, rfl⟩ := List.mem_map.mp hr2
        obtain ⟨r3, rfl, hr3, _⟩ := hlr y hy
        show r3.length = k.toNat
        omega
      have e1 : (l.map its).flatten = cps (.tup l) := rfl
      have e2 : (l.map its).map D.tup = l := by
        rw [List.map_map]
        have : ∀ y ∈ l, (D.tup ∘ its) y = y := fun y hy => by
          obtain ⟨r3, rfl, hr3, _⟩ := hlr y hy
          rfl
        rw [List.map_congr_left this, List.map_id']
      rw [e1, e2, kk] at pd
      simp [asL_ap, fBinL_ap, fLst_ap, fFl_ap, fMtF_ap, fSlL_ap, fl_tup, fl_lst, all_mapT, ln_tup, ln_lst, ln_fz, tu_lst, tu_tup, it_tup, it_lst, it_fz, sq_tup, sq_lst, bindT_v, lockF, lockS, wipeF, run_ap, outO_rt, outO_nx, outO_ite, evC, evE, evB, evEs, evPs, evT, evTs, evI, evF, frame0, asP, asQ, asO, mbind_ap, bindO_ok, bindO_ite, ite_ap, mret_ap, mopt_some, lift0_ap, liftO_ok, take_val, peek_val, peek_own, peek_lck, take_own, mval_int, mval_str, mval_bl, mval_non, mval_tup, mval_lst, mval_fz, mresL_v, mvals, cLt, cLe, cGt, cGe, cEqI, cNeI, cEqB, cIs, cIsNot, isNon, tBo, tIn, tNo, tTu, tLi, xT, xL, xF, omap_some, bAdd, pd]) (by omega)
  have key := key _ rfl
  rw [List.map_id'] at key
  generalize (rooms.map fun r => D.lst (cps r)) = L at ti key
  have k0 : (k == 0) = false := by
    rw [beq_eq_false_iff_ne]; omega
  have k1 : ¬ k = 0 := by omega
  simp [asL_ap, fBinL_ap, fLst_ap, fFl_ap, fMtF_ap, fSlL_ap, fl_tup, fl_lst, all_mapT, ln_tup, ln_lst, ln_fz, tu_lst, tu_tup, it_tup, it_lst, it_fz, sq_tup, sq_lst, bindT_v, lockF, lockS, wipeF, run_ap, outO_rt, outO_nx, outO_ite, evC, evE, evB, evEs, evPs, evT, evTs, evI, evF, frame0, asP, asQ, asO, mbind_ap, bindO_ok, bindO_ite, ite_ap, mret_ap, mopt_some, lift0_ap, liftO_ok, take_val, peek_val, peek_own, peek_lck, take_own, mval_int, mval_str, mval_bl, mval_non, mval_tup, mval_lst, mval_fz, mresL_v, mvals, cLt, cLe, cGt, cGe, cEqI, cNeI, cEqB, cIs, cIsNot, isNon, tBo, tIn, tNo, tTu, tLi, xT, xL, xF, omap_some, bAdd, f_read_by_deeds, b_read_by_deeds, ti, bindT, bindTs, k0, k1, okLen, key]
theorem e_read_saying (n : Nat) (d : D) (S : Store) (h : Saying d) : (callF Pg (n + 5)).f "read_saying" [.str (page (textOf 0 d))] [] [] S = .ok d S := by
  have hs := e_is_saying n d S h
  obtain ⟨s, k, rooms, rfl, h1, h2, h3, h4, h5, h6, h7⟩ := h
  rw [F_eq find_read_saying rfl rfl]
  have rd := e_read_by_deeds (n + 1) (P := Beh 100) s k rooms "part_in" S h1 h2 h3 h4 h6 (fun r hr => (h7 r hr).imp fun x hx => hx.imp fun y hy => hy.mono (by omega)) fun p hp => ⟨.inl hp, e_part_in n p S hp⟩
  have e : textOf 0 (.tup [.int s, .int k, .tup rooms]) = tpage s k sws rooms := rfl
  rw [e]
  simp [asL_ap, fBinL_ap, fLst_ap, fFl_ap, fMtF_ap, fSlL_ap, fl_tup, fl_lst, all_mapT, ln_tup, ln_lst, ln_fz, tu_lst, tu_tup, it_tup, it_lst, it_fz, sq_tup, sq_lst, bindT_v, lockF, lockS, wipeF, run_ap, outO_rt, outO_nx, outO_ite, evC, evE, evB, evEs, evPs, evT, evTs, evI, evF, frame0, asP, asQ, asO, mbind_ap, bindO_ok, bindO_ite, ite_ap, mret_ap, mopt_some, lift0_ap, liftO_ok, take_val, peek_val, peek_own, peek_lck, take_own, mval_int, mval_str, mval_bl, mval_non, mval_tup, mval_lst, mval_fz, mresL_v, mvals, cLt, cLe, cGt, cGe, cEqI, cNeI, cEqB, cIs, cIsNot, isNon, tBo, tIn, tNo, tTu, tLi, xT, xL, xF, omap_some, bAdd, f_read_saying, b_read_saying, rd, hs]
theorem e_read_watcher (n : Nat) (d : D) (S : Store) (h : Watcher d) : (callF Pg (n + 6)).f "read_watcher" [.str (page (textOf 1 d))] [] [] S = .ok d S := by
  have hs := e_is_watcher n d S h
  obtain ⟨s, k, rooms, rfl, h1, h2, h3, h4, h5, h6, h7⟩ := h
  rw [F_eq find_read_watcher rfl rfl]
  have rd := e_read_by_deeds (n + 2) (P := Cell 100 100) s k rooms "pair_in" S h1 h2 h3 h4 h6 (fun r hr => (h7 r hr).imp fun x hx => hx.imp fun y hy => hy.mono (by omega) (by omega)) fun p hp => ⟨.inr hp, e_pair_in (n + 1) p S hp⟩
  have e : textOf 1 (.tup [.int s, .int k, .tup rooms]) = tpage s k sws rooms := rfl
  rw [e]
  simp [asL_ap, fBinL_ap, fLst_ap, fFl_ap, fMtF_ap, fSlL_ap, fl_tup, fl_lst, all_mapT, ln_tup, ln_lst, ln_fz, tu_lst, tu_tup, it_tup, it_lst, it_fz, sq_tup, sq_lst, bindT_v, lockF, lockS, wipeF, run_ap, outO_rt, outO_nx, outO_ite, evC, evE, evB, evEs, evPs, evT, evTs, evI, evF, frame0, asP, asQ, asO, mbind_ap, bindO_ok, bindO_ite, ite_ap, mret_ap, mopt_some, lift0_ap, liftO_ok, take_val, peek_val, peek_own, peek_lck, take_own, mval_int, mval_str, mval_bl, mval_non, mval_tup, mval_lst, mval_fz, mresL_v, mvals, cLt, cLe, cGt, cGe, cEqI, cNeI, cEqB, cIs, cIsNot, isNon, tBo, tIn, tNo, tTu, tLi, xT, xL, xF, omap_some, bAdd, f_read_watcher, b_read_watcher, rd, hs]
theorem e_read_machine (n : Nat) (d : D) (S : Store) (h : Machine d) : (callF Pg (n + 5)).f "read_machine" [.str (page (textOf 2 d))] [] [] S = .ok d S := by
  have hs := e_is_machine n d S h
  obtain ⟨s, k, rooms, rfl, h1, h2, h3, h4, h5, h6, h7⟩ := h
  rw [F_eq find_read_machine rfl rfl]
  have hx : ∀ r ∈ rooms, its r ≠ [] ∧ (its r).length ≤ 500 ∧ ∀ p ∈ its r, Wd p ∧ (callF Pg (n + 3)).f "pair_in" [.str (W p)] [] [] S = .ok p S := fun r hrm => by
    obtain ⟨l, rfl, hll, hlr⟩ := h7 r hrm
    refine ⟨fun e => ?_, by show l.length ≤ 500; omega, fun p hpm => ?_⟩
    · have e : l = [] := e
      subst e
      simp [asL_ap, fBinL_ap, fLst_ap, fFl_ap, fMtF_ap, fSlL_ap, fl_tup, fl_lst, all_mapT, ln_tup, ln_lst, ln_fz, tu_lst, tu_tup, it_tup, it_lst, it_fz, sq_tup, sq_lst, bindT_v, lockF, lockS, wipeF, run_ap, outO_rt, outO_nx, outO_ite, evC, evE, evB, evEs, evPs, evT, evTs, evI, evF, frame0, asP, asQ, asO, mbind_ap, bindO_ok, bindO_ite, ite_ap, mret_ap, mopt_some, lift0_ap, liftO_ok, take_val, peek_val, peek_own, peek_lck, take_own, mval_int, mval_str, mval_bl, mval_non, mval_tup, mval_lst, mval_fz, mresL_v, mvals, cLt, cLe, cGt, cGe, cEqI, cNeI, cEqB, cIs, cIsNot, isNon, tBo, tIn, tNo, tTu, tLi, xT, xL, xF, omap_some, bAdd] at hll
      omega
    · have hc := (hlr p hpm).mono (k' := 100) (m' := 100) (by omega) (by omega)
      exact ⟨.inr hc, e_pair_in (n + 1) p S hc⟩
  have ti := e_table_in (n + 2) s k rooms "pair_in" its S (by omega) (by omega) (by omega) (by omega) h6 hx
  have e : textOf 2 (.tup [.int s, .int k, .tup rooms]) = tpage s k (fun r => (its r).map W) rooms := rfl
  rw [e]
  generalize page (tpage s k (fun r => (its r).map W) rooms) = txt at ti ⊢
  have key : ∀ L, L = (rooms.map fun r => D.lst (its r)) → fLc (evCl (callF Pg (n + 4)) c_read_machine_0) [.val (.str txt), .val (.int s), .val (.int k), .val (.lst L), .none, .none] S = .ok (rooms.map fun r => r) [.val (.str txt), .val (.int s), .val (.int k), .val (.lst L), .none, .none] S := fun L hL =>
    lc_img (l := rooms) (a := fun r => D.lst (its r)) (g := fun r => r) (by simp [asL_ap, fBinL_ap, fLst_ap, fFl_ap, fMtF_ap, fSlL_ap, fl_tup, fl_lst, all_mapT, ln_tup, ln_lst, ln_fz, tu_lst, tu_tup, it_tup, it_lst, it_fz, sq_tup, sq_lst, bindT_v, lockF, lockS, wipeF, run_ap, outO_rt, outO_nx, outO_ite, evC, evE, evB, evEs, evPs, evT, evTs, evI, evF, frame0, asP, asQ, asO, mbind_ap, bindO_ok, bindO_ite, ite_ap, mret_ap, mopt_some, lift0_ap, liftO_ok, take_val, peek_val, peek_own, peek_lck, take_own, mval_int, mval_str, mval_bl, mval_non, mval_tup, mval_lst, mval_fz, mresL_v, mvals, cLt, cLe, cGt, cGe, cEqI, cNeI, cEqB, cIs, cIsNot, isNon, tBo, tIn, tNo, tTu, tLi, xT, xL, xF, omap_some, bAdd, hL]) (fun r hrm => by
      obtain ⟨l, rfl, hll, hlr⟩ := h7 r hrm
      exact ⟨[.val (.str txt), .val (.int s), .val (.int k), .val (.lst L), .none, .val (.lst l)], by simp [asL_ap, fBinL_ap, fLst_ap, fFl_ap, fMtF_ap, fSlL_ap, fl_tup, fl_lst, all_mapT, ln_tup, ln_lst, ln_fz, tu_lst, tu_tup, it_tup, it_lst, it_fz, sq_tup, sq_lst, bindT_v, lockF, lockS, wipeF, run_ap, outO_rt, outO_nx, outO_ite, evC, evE, evB, evEs, evPs, evT, evTs, evI, evF, frame0, asP, asQ, asO, mbind_ap, bindO_ok, bindO_ite, ite_ap, mret_ap, mopt_some, lift0_ap, liftO_ok, take_val, peek_val, peek_own, peek_lck, take_own, mval_int, mval_str, mval_bl, mval_non, mval_tup, mval_lst, mval_fz, mresL_v, mvals, cLt, cLe, cGt, cGe, cEqI, cNeI, cEqB, cIs, cIsNot, isNon, tBo, tIn, tNo, tTu, tLi, xT, xL, xF, omap_some, bAdd, its]⟩) (by omega)
  have key := key _ rfl
  rw [List.map_id'] at key
  generalize (rooms.map fun r => D.lst (its r)) = L at ti key
  simp [asL_ap, fBinL_ap, fLst_ap, fFl_ap, fMtF_ap, fSlL_ap, fl_tup, fl_lst, all_mapT, ln_tup, ln_lst, ln_fz, tu_lst, tu_tup, it_tup, it_lst, it_fz, sq_tup, sq_lst, bindT_v, lockF, lockS, wipeF, run_ap, outO_rt, outO_nx, outO_ite, evC, evE, evB, evEs, evPs, evT, evTs, evI, evF, frame0, asP, asQ, asO, mbind_ap, bindO_ok, bindO_ite, ite_ap, mret_ap, mopt_some, lift0_ap, liftO_ok, take_val, peek_val, peek_own, peek_lck, take_own, mval_int, mval_str, mval_bl, mval_non, mval_tup, mval_lst, mval_fz, mresL_v, mvals, cLt, cLe, cGt, cGe, cEqI, cNeI, cEqB, cIs, cIsNot, isNon, tBo, tIn, tNo, tTu, tLi, xT, xL, xF, omap_some, bAdd, f_read_machine, b_read_machine, ti, bindT, bindTs, okLen, key, hs]
theorem sub_mem {x y : Str} {i : Nat} (h : Builtin.Str.subAt x y i = true) : ∀ c ∈ tl y, c ∈ tl x := fun c hc => by
  have hc : c ∈ y.cps := Array.mem_toList_iff.mp hc
  rw [← beq_iff_eq.mp h] at hc
  obtain ⟨k, hk, rfl⟩ := Array.mem_extract_iff_getElem.mp hc
  exact Array.mem_toList_iff.mpr (Array.getElem_mem _)
theorem in_no {x y : Str} {c : Nat} (hc : c ∈ tl y) (hx : c ∉ tl x) : opCmp .In (.str y) (.str x) = some false := by
  show some (!(Builtin.Str.occurrences x y 0 x.length 1).isEmpty) = _
  rw [PySem.W.occ_nil_of_no x y 1 fun i hi => ?_]
  · rfl
  · cases e : Builtin.Str.subAt x y i with
    | false => rfl
    | true => exact absurd (sub_mem e c hc) hx
theorem wd_pure {d : D} (h : Wd d) : Pure (W d) := ⟨(W_tl h).2.1, (W_tl h).2.2.1⟩
theorem good_ptext {k : Int} {d : D} (h1 : 1 ≤ k) (hk : k ≤ 9) (h : Row k (Row k (Beh 100)) d) : Good (ptext d) := by
  obtain ⟨rows, rfl, hl, hr⟩ := h
  refine ⟨fun e => ?_, by unfold ptext; rw [List.length_map]; show rows.length ≤ 101; omega, fun r hrm => ?_⟩
  · have e : rows = [] := List.map_eq_nil_iff.mp e
    subst e
    simp [asL_ap, fBinL_ap, fLst_ap, fFl_ap, fMtF_ap, fSlL_ap, fl_tup, fl_lst, all_mapT, ln_tup, ln_lst, ln_fz, tu_lst, tu_tup, it_tup, it_lst, it_fz, sq_tup, sq_lst, bindT_v, lockF, lockS, wipeF, run_ap, outO_rt, outO_nx, outO_ite, evC, evE, evB, evEs, evPs, evT, evTs, evI, evF, frame0, asP, asQ, asO, mbind_ap, bindO_ok, bindO_ite, ite_ap, mret_ap, mopt_some, lift0_ap, liftO_ok, take_val, peek_val, peek_own, peek_lck, take_own, mval_int, mval_str, mval_bl, mval_non, mval_tup, mval_lst, mval_fz, mresL_v, mvals, cLt, cLe, cGt, cGe, cEqI, cNeI, cEqB, cIs, cIsNot, isNon, tBo, tIn, tNo, tTu, tLi, xT, xL, xF, omap_some, bAdd] at hl
    omega
  · obtain ⟨q, hq, rfl⟩ := List.mem_map.mp hrm
    have hrow := hr q hq
    obtain ⟨l, rfl, hll, hlr⟩ := hr q hq
    refine ⟨fun e => ?_, fit_mws hrow hk fun x hx => .inl hx, fun w hw => ?_⟩
    · have e : l = [] := List.map_eq_nil_iff.mp e
      subst e
      simp [asL_ap, fBinL_ap, fLst_ap, fFl_ap, fMtF_ap, fSlL_ap, fl_tup, fl_lst, all_mapT, ln_tup, ln_lst, ln_fz, tu_lst, tu_tup, it_tup, it_lst, it_fz, sq_tup, sq_lst, bindT_v, lockF, lockS, wipeF, run_ap, outO_rt, outO_nx, outO_ite, evC, evE, evB, evEs, evPs, evT, evTs, evI, evF, frame0, asP, asQ, asO, mbind_ap, bindO_ok, bindO_ite, ite_ap, mret_ap, mopt_some, lift0_ap, liftO_ok, take_val, peek_val, peek_own, peek_lck, take_own, mval_int, mval_str, mval_bl, mval_non, mval_tup, mval_lst, mval_fz, mresL_v, mvals, cLt, cLe, cGt, cGe, cEqI, cNeI, cEqB, cIs, cIsNot, isNon, tBo, tIn, tNo, tTu, tLi, xT, xL, xF, omap_some, bAdd] at hll
      omega
    · obtain ⟨x, hx, rfl⟩ := List.mem_map.mp hw
      exact wd_pure (.inl (hlr x hx))
theorem pl_ptext {k : Int} {d : D} (h : Row k (Row k (Beh 100)) d) : Pl (page (ptext d)) := by
  obtain ⟨rows, rfl, hl, hr⟩ := h
  refine pl_page fun r hrm w hw => ?_
  obtain ⟨q, hq, rfl⟩ := List.mem_map.mp hrm
  obtain ⟨l, rfl, hll, hlr⟩ := hr q hq
  obtain ⟨x, hx, rfl⟩ := List.mem_map.mp hw
  exact pl_W (.inl (hlr x hx))
theorem ev_ok : PyData.strOk "even" = true := by decide +kernel
theorem da_ok : PyData.strOk "-" = true := by decide +kernel
theorem e_read_even (n : Nat) (S : Store) : (callF Pg (n + 1)).f "read_prices" [.str "even"] [] [] S = .ok .non S := by
  rw [F_eq find_read_prices rfl rfl]
  have e : opCmp .Eq (.str "even") (.str "even") = some true := by rw [eq_str ev_ok ev_ok]; rfl
  simp [asL_ap, fBinL_ap, fLst_ap, fFl_ap, fMtF_ap, fSlL_ap, fl_tup, fl_lst, all_mapT, ln_tup, ln_lst, ln_fz, tu_lst, tu_tup, it_tup, it_lst, it_fz, sq_tup, sq_lst, bindT_v, lockF, lockS, wipeF, run_ap, outO_rt, outO_nx, outO_ite, evC, evE, evB, evEs, evPs, evT, evTs, evI, evF, frame0, asP, asQ, asO, mbind_ap, bindO_ok, bindO_ite, ite_ap, mret_ap, mopt_some, lift0_ap, liftO_ok, take_val, peek_val, peek_own, peek_lck, take_own, mval_int, mval_str, mval_bl, mval_non, mval_tup, mval_lst, mval_fz, mresL_v, mvals, cLt, cLe, cGt, cGe, cEqI, cNeI, cEqB, cIs, cIsNot, isNon, tBo, tIn, tNo, tTu, tLi, xT, xL, xF, omap_some, bAdd, f_read_prices, b_read_prices, e]
theorem e_read_prices (n : Nat) (d : D) (k : Int) (S : Store) (hk1 : 1 ≤ k) (hk : k ≤ 9) (h : PriceT k d) : (callF Pg (n + 4)).f "read_prices" [.str (page (ptext d))] [] [] S = .ok d S := by
  have hp := e_are_prices n d k S hk h
  have hrows := h.rows
  have g := good_ptext hk1 hk hrows
  have pl := pl_ptext hrows
  have ri := e_rows_in (n + 2) (ptext d) S g
  have ne : opCmp .Eq (.str (page (ptext d))) (.str "even") = some false := by
    rw [eq_str (pl_ok pl) ev_ok, pl_ne pl (c := 101) (by decide +kernel) (by unfold Sg; omega)]
  obtain ⟨rows, rfl, hl, hr⟩ := hrows
  rw [F_eq find_read_prices rfl rfl]
  rw [← hl] at hp
  have a2 : ¬ (9 : Int) < rows.length := by omega
  have e0 : (ptext (.tup rows)).map rowD = rows.map fun r => rowD (mws r) := by
    unfold ptext
    rw [List.map_map]
    rfl
  rw [e0] at ri
  generalize page (ptext (.tup rows)) = txt at ri ne ⊢
  have key : fLc (evCl (callF Pg (n + 3)) c_read_prices_1) [.val (.str txt), .none, .none, .none] S = .ok (rows.map fun r => r) [.val (.str txt), .none, .none, .none] S :=
    lc_img (l := rows) (a := fun r => rowD (mws r)) (g := fun r => r) (by simp [asL_ap, fBinL_ap, fLst_ap, fFl_ap, fMtF_ap, fSlL_ap, fl_tup, fl_lst, all_mapT, ln_tup, ln_lst, ln_fz, tu_lst, tu_tup, it_tup, it_lst, it_fz, sq_tup, sq_lst, bindT_v, lockF, lockS, wipeF, run_ap, outO_rt, outO_nx, outO_ite, evC, evE, evB, evEs, evPs, evT, evTs, evI, evF, frame0, asP, asQ, asO, mbind_ap, bindO_ok, bindO_ite, ite_ap, mret_ap, mopt_some, lift0_ap, liftO_ok, take_val, peek_val, peek_own, peek_lck, take_own, mval_int, mval_str, mval_bl, mval_non, mval_tup, mval_lst, mval_fz, mresL_v, mvals, cLt, cLe, cGt, cGe, cEqI, cNeI, cEqB, cIs, cIsNot, isNon, tBo, tIn, tNo, tTu, tLi, xT, xL, xF, omap_some, bAdd, ri]) (fun r hrm => by
      obtain ⟨l, rfl, hll, hlr⟩ := hr r hrm
      refine ⟨[.val (.str txt), .none, .none, .val (rowD (mws (.tup l)))], ?_⟩
      have k2 : fLc (evCl (callF Pg (n + 3)) c_read_prices_0) [.val (.str txt), .none, .none, .val (rowD (mws (.tup l)))] S = .ok (l.map fun p => p) [.val (.str txt), .none, .none, .val (rowD (mws (.tup l)))] S :=
        lc_img (l := l) (a := fun p => D.str (W p)) (g := fun p => p) (by simp [asL_ap, fBinL_ap, fLst_ap, fFl_ap, fMtF_ap, fSlL_ap, fl_tup, fl_lst, all_mapT, ln_tup, ln_lst, ln_fz, tu_lst, tu_tup, it_tup, it_lst, it_fz, sq_tup, sq_lst, bindT_v, lockF, lockS, wipeF, run_ap, outO_rt, outO_nx, outO_ite, evC, evE, evB, evEs, evPs, evT, evTs, evI, evF, frame0, asP, asQ, asO, mbind_ap, bindO_ok, bindO_ite, ite_ap, mret_ap, mopt_some, lift0_ap, liftO_ok, take_val, peek_val, peek_own, peek_lck, take_own, mval_int, mval_str, mval_bl, mval_non, mval_tup, mval_lst, mval_fz, mresL_v, mvals, cLt, cLe, cGt, cGe, cEqI, cNeI, cEqB, cIs, cIsNot, isNon, tBo, tIn, tNo, tTu, tLi, xT, xL, xF, omap_some, bAdd, mws, its]) (fun p hp => ⟨[.val (.str txt), .none, .val (.str (W p)), .val (rowD (mws (.tup l)))], by simp [asL_ap, fBinL_ap, fLst_ap, fFl_ap, fMtF_ap, fSlL_ap, fl_tup, fl_lst, all_mapT, ln_tup, ln_lst, ln_fz, tu_lst, tu_tup, it_tup, it_lst, it_fz, sq_tup, sq_lst, bindT_v, lockF, lockS, wipeF, run_ap, outO_rt, outO_nx, outO_ite, evC, evE, evB, evEs, evPs, evT, evTs, evI, evF, frame0, asP, asQ, asO, mbind_ap, bindO_ok, bindO_ite, ite_ap, mret_ap, mopt_some, lift0_ap, liftO_ok, take_val, peek_val, peek_own, peek_lck, take_own, mval_int, mval_str, mval_bl, mval_non, mval_tup, mval_lst, mval_fz, mresL_v, mvals, cLt, cLe, cGt, cGe, cEqI, cNeI, cEqB, cIs, cIsNot, isNon, tBo, tIn, tNo, tTu, tLi, xT, xL, xF, omap_some, bAdd, e_part_in (n + 1) p S (hlr p hp)]⟩) (by omega)
      rw [List.map_id'] at k2
      simp only [rowD, mws, List.map_map] at k2 ⊢
      simp [asL_ap, fBinL_ap, fLst_ap, fFl_ap, fMtF_ap, fSlL_ap, fl_tup, fl_lst, all_mapT, ln_tup, ln_lst, ln_fz, tu_lst, tu_tup, it_tup, it_lst, it_fz, sq_tup, sq_lst, bindT_v, lockF, lockS, wipeF, run_ap, outO_rt, outO_nx, outO_ite, evC, evE, evB, evEs, evPs, evT, evTs, evI, evF, frame0, asP, asQ, asO, mbind_ap, bindO_ok, bindO_ite, ite_ap, mret_ap, mopt_some, lift0_ap, liftO_ok, take_val, peek_val, peek_own, peek_lck, take_own, mval_int, mval_str, mval_bl, mval_non, mval_tup, mval_lst, mval_fz, mresL_v, mvals, cLt, cLe, cGt, cGe, cEqI, cNeI, cEqB, cIs, cIsNot, isNon, tBo, tIn, tNo, tTu, tLi, xT, xL, xF, omap_some, bAdd, k2]) (by omega)
  rw [List.map_id'] at key
  simp [asL_ap, fBinL_ap, fLst_ap, fFl_ap, fMtF_ap, fSlL_ap, fl_tup, fl_lst, all_mapT, ln_tup, ln_lst, ln_fz, tu_lst, tu_tup, it_tup, it_lst, it_fz, sq_tup, sq_lst, bindT_v, lockF, lockS, wipeF, run_ap, outO_rt, outO_nx, outO_ite, evC, evE, evB, evEs, evPs, evT, evTs, evI, evF, frame0, asP, asQ, asO, mbind_ap, bindO_ok, bindO_ite, ite_ap, mret_ap, mopt_some, lift0_ap, liftO_ok, take_val, peek_val, peek_own, peek_lck, take_own, mval_int, mval_str, mval_bl, mval_non, mval_tup, mval_lst, mval_fz, mresL_v, mvals, cLt, cLe, cGt, cGe, cEqI, cNeI, cEqB, cIs, cIsNot, isNon, tBo, tIn, tNo, tTu, tLi, xT, xL, xF, omap_some, bAdd, f_read_prices, b_read_prices, ne, key, a2, hp]
theorem page_one (r : List Str) : page [r] = line r := rfl
theorem e_read_run (n : Nat) (l : List D) (S : Store) (h : ∀ x ∈ l, Cell 9 9 x) (hl : l.length ≤ 500) : (callF Pg (n + 4)).f "read_run" [.str (if l = [] then "-" else line (mws (.tup l)))] [] [] S = .ok (.tup l) S := by
  rw [F_eq find_read_run rfl rfl]
  by_cases h0 : l = []
  · subst h0
    have e : opCmp .Eq (.str "-") (.str "-") = some true := by rw [eq_str da_ok da_ok]; rfl
    simp [asL_ap, fBinL_ap, fLst_ap, fFl_ap, fMtF_ap, fSlL_ap, fl_tup, fl_lst, all_mapT, ln_tup, ln_lst, ln_fz, tu_lst, tu_tup, it_tup, it_lst, it_fz, sq_tup, sq_lst, bindT_v, lockF, lockS, wipeF, run_ap, outO_rt, outO_nx, outO_ite, evC, evE, evB, evEs, evPs, evT, evTs, evI, evF, frame0, asP, asQ, asO, mbind_ap, bindO_ok, bindO_ite, ite_ap, mret_ap, mopt_some, lift0_ap, liftO_ok, take_val, peek_val, peek_own, peek_lck, take_own, mval_int, mval_str, mval_bl, mval_non, mval_tup, mval_lst, mval_fz, mresL_v, mvals, cLt, cLe, cGt, cGe, cEqI, cNeI, cEqB, cIs, cIsNot, isNon, tBo, tIn, tNo, tTu, tLi, xT, xL, xF, omap_some, bAdd, f_read_run, b_read_run, e, okLen]
  · rw [if_neg h0]
    have hw : ∀ x ∈ l, Wd x := fun x hx => .inr ((h x hx).mono (by omega) (by omega))
    have hp := e_are_steps n l 9 9 S h
    have g : Good [mws (.tup l)] := ⟨by simp [asL_ap, fBinL_ap, fLst_ap, fFl_ap, fMtF_ap, fSlL_ap, fl_tup, fl_lst, all_mapT, ln_tup, ln_lst, ln_fz, tu_lst, tu_tup, it_tup, it_lst, it_fz, sq_tup, sq_lst, bindT_v, lockF, lockS, wipeF, run_ap, outO_rt, outO_nx, outO_ite, evC, evE, evB, evEs, evPs, evT, evTs, evI, evF, frame0, asP, asQ, asO, mbind_ap, bindO_ok, bindO_ite, ite_ap, mret_ap, mopt_some, lift0_ap, liftO_ok, take_val, peek_val, peek_own, peek_lck, take_own, mval_int, mval_str, mval_bl, mval_non, mval_tup, mval_lst, mval_fz, mresL_v, mvals, cLt, cLe, cGt, cGe, cEqI, cNeI, cEqB, cIs, cIsNot, isNon, tBo, tIn, tNo, tTu, tLi, xT, xL, xF, omap_some, bAdd], by simp [asL_ap, fBinL_ap, fLst_ap, fFl_ap, fMtF_ap, fSlL_ap, fl_tup, fl_lst, all_mapT, ln_tup, ln_lst, ln_fz, tu_lst, tu_tup, it_tup, it_lst, it_fz, sq_tup, sq_lst, bindT_v, lockF, lockS, wipeF, run_ap, outO_rt, outO_nx, outO_ite, evC, evE, evB, evEs, evPs, evT, evTs, evI, evF, frame0, asP, asQ, asO, mbind_ap, bindO_ok, bindO_ite, ite_ap, mret_ap, mopt_some, lift0_ap, liftO_ok, take_val, peek_val, peek_own, peek_lck, take_own, mval_int, mval_str, mval_bl, mval_non, mval_tup, mval_lst, mval_fz, mresL_v, mvals, cLt, cLe, cGt, cGe, cEqI, cNeI, cEqB, cIs, cIsNot, isNon, tBo, tIn, tNo, tTu, tLi, xT, xL, xF, omap_some, bAdd], fun r hr => by
      rw [List.mem_singleton.mp hr]
      refine ⟨fun e => h0 (List.map_eq_nil_iff.mp e), ⟨by unfold mws; rw [List.length_map]; exact hl, fun w hwm => ?_⟩, fun w hwm => ?_⟩
      · obtain ⟨x, hx, rfl⟩ := List.mem_map.mp hwm
        exact (W_tl (hw x hx)).1
      · obtain ⟨x, hx, rfl⟩ := List.mem_map.mp hwm
        exact wd_pure (hw x hx)⟩
    have ri := e_rows_in (n + 2) _ S g
    rw [page_one] at ri
    have pl : Pl (line (mws (.tup l))) := pl_line fun w hwm => by
      obtain ⟨x, hx, rfl⟩ := List.mem_map.mp hwm
      exact pl_W (hw x hx)
    have ne : opCmp .Eq (.str (line (mws (.tup l)))) (.str "-") = some false := by
      rw [eq_str (pl_ok pl) da_ok, pl_ne pl (c := 45) (by decide +kernel) (by unfold Sg; omega)]
    have ni : opCmp .In (.str " / ") (.str (line (mws (.tup l)))) = some false := in_no (c := 47) (by decide +kernel) (line_free fun w hwm => by
      obtain ⟨x, hx, rfl⟩ := List.mem_map.mp hwm
      exact wd_pure (hw x hx))
    have e0 : [mws (.tup l)].map rowD = [rowD (mws (.tup l))] := rfl
    rw [e0] at ri
    generalize line (mws (.tup l)) = txt at ri ne ni ⊢
    have key : fLc (evCl (callF Pg (n + 3)) c_read_run_0) [.val (.str txt), .none, .none, .none] S = .ok ([rowD (mws (.tup l))].flatMap fun _ => l) [.val (.str txt), .none, .none, .none] S :=
      lc_pure (l := [rowD (mws (.tup l))]) (g := fun _ => l) (by simp [asL_ap, fBinL_ap, fLst_ap, fFl_ap, fMtF_ap, fSlL_ap, fl_tup, fl_lst, all_mapT, ln_tup, ln_lst, ln_fz, tu_lst, tu_tup, it_tup, it_lst, it_fz, sq_tup, sq_lst, bindT_v, lockF, lockS, wipeF, run_ap, outO_rt, outO_nx, outO_ite, evC, evE, evB, evEs, evPs, evT, evTs, evI, evF, frame0, asP, asQ, asO, mbind_ap, bindO_ok, bindO_ite, ite_ap, mret_ap, mopt_some, lift0_ap, liftO_ok, take_val, peek_val, peek_own, peek_lck, take_own, mval_int, mval_str, mval_bl, mval_non, mval_tup, mval_lst, mval_fz, mresL_v, mvals, cLt, cLe, cGt, cGe, cEqI, cNeI, cEqB, cIs, cIsNot, isNon, tBo, tIn, tNo, tTu, tLi, xT, xL, xF, omap_some, bAdd, ri]) (fun r hrm => by
        rw [List.mem_singleton.mp hrm]
        refine ⟨[.val (.str txt), .none, .val (rowD (mws (.tup l))), .none], ?_⟩
        have k2 : evCl (callF Pg (n + 3)) (.gen (.v 3) [3] (.val (.var 2)) .nil (.fin (.call "pair_in" (.cons (.var 3) .nil) [] .nil))) [.val (.str txt), .none, .val (rowD (mws (.tup l))), .none] S = .ok (l.flatMap fun p => [p]) [.val (.str txt), .none, .val (rowD (mws (.tup l))), .none] S :=
          cl_img (l := l) (a := fun p => D.str (W p)) (by simp [asL_ap, fBinL_ap, fLst_ap, fFl_ap, fMtF_ap, fSlL_ap, fl_tup, fl_lst, all_mapT, ln_tup, ln_lst, ln_fz, tu_lst, tu_tup, it_tup, it_lst, it_fz, sq_tup, sq_lst, bindT_v, lockF, lockS, wipeF, run_ap, outO_rt, outO_nx, outO_ite, evC, evE, evB, evEs, evPs, evT, evTs, evI, evF, frame0, asP, asQ, asO, mbind_ap, bindO_ok, bindO_ite, ite_ap, mret_ap, mopt_some, lift0_ap, liftO_ok, take_val, peek_val, peek_own, peek_lck, take_own, mval_int, mval_str, mval_bl, mval_non, mval_tup, mval_lst, mval_fz, mresL_v, mvals, cLt, cLe, cGt, cGe, cEqI, cNeI, cEqB, cIs, cIsNot, isNon, tBo, tIn, tNo, tTu, tLi, xT, xL, xF, omap_some, bAdd, mws, its]) (by rfl) fun p hp => ⟨[.val (.str txt), .none, .val (rowD (mws (.tup l))), .val (.str (W p))], by simp [asL_ap, fBinL_ap, fLst_ap, fFl_ap, fMtF_ap, fSlL_ap, fl_tup, fl_lst, all_mapT, ln_tup, ln_lst, ln_fz, tu_lst, tu_tup, it_tup, it_lst, it_fz, sq_tup, sq_lst, bindT_v, lockF, lockS, wipeF, run_ap, outO_rt, outO_nx, outO_ite, evC, evE, evB, evEs, evPs, evT, evTs, evI, evF, frame0, asP, asQ, asO, mbind_ap, bindO_ok, bindO_ite, ite_ap, mret_ap, mopt_some, lift0_ap, liftO_ok, take_val, peek_val, peek_own, peek_lck, take_own, mval_int, mval_str, mval_bl, mval_non, mval_tup, mval_lst, mval_fz, mresL_v, mvals, cLt, cLe, cGt, cGe, cEqI, cNeI, cEqB, cIs, cIsNot, isNon, tBo, tIn, tNo, tTu, tLi, xT, xL, xF, omap_some, bAdd, evTs_nil, evCl_fin, e_pair_in (n + 1) p S ((h p hp).mono (by omega) (by omega))]⟩
        rw [fm_one', List.map_id'] at k2
        simp [asL_ap, fBinL_ap, fLst_ap, fFl_ap, fMtF_ap, fSlL_ap, fl_tup, fl_lst, all_mapT, ln_tup, ln_lst, ln_fz, tu_lst, tu_tup, it_tup, it_lst, it_fz, sq_tup, sq_lst, bindT_v, lockF, lockS, wipeF, run_ap, outO_rt, outO_nx, outO_ite, evC, evE, evB, evEs, evPs, evT, evTs, evI, evF, frame0, asP, asQ, asO, mbind_ap, bindO_ok, bindO_ite, ite_ap, mret_ap, mopt_some, lift0_ap, liftO_ok, take_val, peek_val, peek_own, peek_lck, take_own, mval_int, mval_str, mval_bl, mval_non, mval_tup, mval_lst, mval_fz, mresL_v, mvals, cLt, cLe, cGt, cGe, cEqI, cNeI, cEqB, cIs, cIsNot, isNon, tBo, tIn, tNo, tTu, tLi, xT, xL, xF, omap_some, bAdd, evTs_nil, k2]) (by simp [asL_ap, fBinL_ap, fLst_ap, fFl_ap, fMtF_ap, fSlL_ap, fl_tup, fl_lst, all_mapT, ln_tup, ln_lst, ln_fz, tu_lst, tu_tup, it_tup, it_lst, it_fz, sq_tup, sq_lst, bindT_v, lockF, lockS, wipeF, run_ap, outO_rt, outO_nx, outO_ite, evC, evE, evB, evEs, evPs, evT, evTs, evI, evF, frame0, asP, asQ, asO, mbind_ap, bindO_ok, bindO_ite, ite_ap, mret_ap, mopt_some, lift0_ap, liftO_ok, take_val, peek_val, peek_own, peek_lck, take_own, mval_int, mval_str, mval_bl, mval_non, mval_tup, mval_lst, mval_fz, mresL_v, mvals, cLt, cLe, cGt, cGe, cEqI, cNeI, cEqB, cIs, cIsNot, isNon, tBo, tIn, tNo, tTu, tLi, xT, xL, xF, omap_some, bAdd]; omega)
    have e1 : ([rowD (mws (.tup l))].flatMap fun _ => l) = l := by simp [asL_ap, fBinL_ap, fLst_ap, fFl_ap, fMtF_ap, fSlL_ap, fl_tup, fl_lst, all_mapT, ln_tup, ln_lst, ln_fz, tu_lst, tu_tup, it_tup, it_lst, it_fz, sq_tup, sq_lst, bindT_v, lockF, lockS, wipeF, run_ap, outO_rt, outO_nx, outO_ite, evC, evE, evB, evEs, evPs, evT, evTs, evI, evF, frame0, asP, asQ, asO, mbind_ap, bindO_ok, bindO_ite, ite_ap, mret_ap, mopt_some, lift0_ap, liftO_ok, take_val, peek_val, peek_own, peek_lck, take_own, mval_int, mval_str, mval_bl, mval_non, mval_tup, mval_lst, mval_fz, mresL_v, mvals, cLt, cLe, cGt, cGe, cEqI, cNeI, cEqB, cIs, cIsNot, isNon, tBo, tIn, tNo, tTu, tLi, xT, xL, xF, omap_some, bAdd]
    rw [e1] at key
    simp [asL_ap, fBinL_ap, fLst_ap, fFl_ap, fMtF_ap, fSlL_ap, fl_tup, fl_lst, all_mapT, ln_tup, ln_lst, ln_fz, tu_lst, tu_tup, it_tup, it_lst, it_fz, sq_tup, sq_lst, bindT_v, lockF, lockS, wipeF, run_ap, outO_rt, outO_nx, outO_ite, evC, evE, evB, evEs, evPs, evT, evTs, evI, evF, frame0, asP, asQ, asO, mbind_ap, bindO_ok, bindO_ite, ite_ap, mret_ap, mopt_some, lift0_ap, liftO_ok, take_val, peek_val, peek_own, peek_lck, take_own, mval_int, mval_str, mval_bl, mval_non, mval_tup, mval_lst, mval_fz, mresL_v, mvals, cLt, cLe, cGt, cGe, cEqI, cNeI, cEqB, cIs, cIsNot, isNon, tBo, tIn, tNo, tTu, tLi, xT, xL, xF, omap_some, bAdd, f_read_run, b_read_run, ne, key, ni, hp]
/-! ### the same -/
def Same : Nat → D → Prop
  | 0, d => d = .non ∨ (∃ i, d = .int i) ∨ ∃ x, d = .str x ∧ PyData.strOk x = true
  | k + 1, d => Same 0 d ∨ ∃ l, d = .tup l ∧ l.length ≤ 10000 ∧ ∀ x ∈ l, Same k x
theorem zip_self : ∀ l : List D, zipD l l = l.map fun x => D.tup [x, x]
  | [] => rfl
  | x :: l => by
    unfold zipD
    rw [zip_self l]
    rfl
theorem e_same0 (n : Nat) (d : D) (S : Store) (h : Same 0 d) : (callF Pg (n + 1)).f "_law_same" [d, d] [] [] S = .ok (.bl true) S := by
  rw [F_eq find__law_same rfl rfl]
  unfold Same at h
  rcases h with rfl | ⟨i, rfl⟩ | ⟨x, rfl, hx⟩
  · simp [asL_ap, fBinL_ap, fLst_ap, fFl_ap, fMtF_ap, fSlL_ap, fl_tup, fl_lst, all_mapT, ln_tup, ln_lst, ln_fz, tu_lst, tu_tup, it_tup, it_lst, it_fz, sq_tup, sq_lst, bindT_v, lockF, lockS, wipeF, run_ap, outO_rt, outO_nx, outO_ite, evC, evE, evB, evEs, evPs, evT, evTs, evI, evF, frame0, asP, asQ, asO, mbind_ap, bindO_ok, bindO_ite, ite_ap, mret_ap, mopt_some, lift0_ap, liftO_ok, take_val, peek_val, peek_own, peek_lck, take_own, mval_int, mval_str, mval_bl, mval_non, mval_tup, mval_lst, mval_fz, mresL_v, mvals, cLt, cLe, cGt, cGe, cEqI, cNeI, cEqB, cIs, cIsNot, isNon, tBo, tIn, tNo, tTu, tLi, xT, xL, xF, omap_some, bAdd, f__law_same, b__law_same, isiAny, isiD]
  · simp [asL_ap, fBinL_ap, fLst_ap, fFl_ap, fMtF_ap, fSlL_ap, fl_tup, fl_lst, all_mapT, ln_tup, ln_lst, ln_fz, tu_lst, tu_tup, it_tup, it_lst, it_fz, sq_tup, sq_lst, bindT_v, lockF, lockS, wipeF, run_ap, outO_rt, outO_nx, outO_ite, evC, evE, evB, evEs, evPs, evT, evTs, evI, evF, frame0, asP, asQ, asO, mbind_ap, bindO_ok, bindO_ite, ite_ap, mret_ap, mopt_some, lift0_ap, liftO_ok, take_val, peek_val, peek_own, peek_lck, take_own, mval_int, mval_str, mval_bl, mval_non, mval_tup, mval_lst, mval_fz, mresL_v, mvals, cLt, cLe, cGt, cGe, cEqI, cNeI, cEqB, cIs, cIsNot, isNon, tBo, tIn, tNo, tTu, tLi, xT, xL, xF, omap_some, bAdd, f__law_same, b__law_same, isiAny, isiD]
  · simp [asL_ap, fBinL_ap, fLst_ap, fFl_ap, fMtF_ap, fSlL_ap, fl_tup, fl_lst, all_mapT, ln_tup, ln_lst, ln_fz, tu_lst, tu_tup, it_tup, it_lst, it_fz, sq_tup, sq_lst, bindT_v, lockF, lockS, wipeF, run_ap, outO_rt, outO_nx, outO_ite, evC, evE, evB, evEs, evPs, evT, evTs, evI, evF, frame0, asP, asQ, asO, mbind_ap, bindO_ok, bindO_ite, ite_ap, mret_ap, mopt_some, lift0_ap, liftO_ok, take_val, peek_val, peek_own, peek_lck, take_own, mval_int, mval_str, mval_bl, mval_non, mval_tup, mval_lst, mval_fz, mresL_v, mvals, cLt, cLe, cGt, cGe, cEqI, cNeI, cEqB, cIs, cIsNot, isNon, tBo, tIn, tNo, tTu, tLi, xT, xL, xF, omap_some, bAdd, f__law_same, b__law_same, isiAny, isiD, eq_str hx hx]
theorem e_same : ∀ (k n : Nat) (d : D) (S : Store), Same k d → (callF Pg (n + k + 1)).f "_law_same" [d, d] [] [] S = .ok (.bl true) S
  | 0, n, d, S, h => e_same0 n d S h
  | k + 1, n, d, S, h => by
    rw [Same] at h
    rcases h with h | ⟨l, rfl, hl, hr⟩
    · exact e_same0 (n + (k + 1)) d S h
    · rw [F_eq find__law_same rfl rfl]
      have key : fLc (evCl (callF Pg (n + (k + 1))) c__law_same_0) [.val (.tup l), .val (.tup l), .none, .none] S = .ok (l.map fun _ => D.bl true) [.val (.tup l), .val (.tup l), .none, .none] S :=
        lc_img (l := l) (a := fun x => D.tup [x, x]) (g := fun _ => D.bl true) (by simp [asL_ap, fBinL_ap, fLst_ap, fFl_ap, fMtF_ap, fSlL_ap, fl_tup, fl_lst, all_mapT, ln_tup, ln_lst, ln_fz, tu_lst, tu_tup, it_tup, it_lst, it_fz, sq_tup, sq_lst, bindT_v, lockF, lockS, wipeF, run_ap, outO_rt, outO_nx, outO_ite, evC, evE, evB, evEs, evPs, evT, evTs, evI, evF, frame0, asP, asQ, asO, mbind_ap, bindO_ok, bindO_ite, ite_ap, mret_ap, mopt_some, lift0_ap, liftO_ok, take_val, peek_val, peek_own, peek_lck, take_own, mval_int, mval_str, mval_bl, mval_non, mval_tup, mval_lst, mval_fz, mresL_v, mvals, cLt, cLe, cGt, cGe, cEqI, cNeI, cEqB, cIs, cIsNot, isNon, tBo, tIn, tNo, tTu, tLi, xT, xL, xF, omap_some, bAdd, zipO, zip_self]) (fun x hx => by
          have ih := e_same k n x S (hr x hx)
          have e : n + k + 1 = n + (k + 1) := by omega
          rw [e] at ih
          exact ⟨[.val (.tup l), .val (.tup l), .val x, .val x], by simp [asL_ap, fBinL_ap, fLst_ap, fFl_ap, fMtF_ap, fSlL_ap, fl_tup, fl_lst, all_mapT, ln_tup, ln_lst, ln_fz, tu_lst, tu_tup, it_tup, it_lst, it_fz, sq_tup, sq_lst, bindT_v, lockF, lockS, wipeF, run_ap, outO_rt, outO_nx, outO_ite, evC, evE, evB, evEs, evPs, evT, evTs, evI, evF, frame0, asP, asQ, asO, mbind_ap, bindO_ok, bindO_ite, ite_ap, mret_ap, mopt_some, lift0_ap, liftO_ok, take_val, peek_val, peek_own, peek_lck, take_own, mval_int, mval_str, mval_bl, mval_non, mval_tup, mval_lst, mval_fz, mresL_v, mvals, cLt, cLe, cGt, cGe, cEqI, cNeI, cEqB, cIs, cIsNot, isNon, tBo, tIn, tNo, tTu, tLi, xT, xL, xF, omap_some, bAdd, bindT, bindTs, ih]⟩) (by omega)
      simp [asL_ap, fBinL_ap, fLst_ap, fFl_ap, fMtF_ap, fSlL_ap, fl_tup, fl_lst, all_mapT, ln_tup, ln_lst, ln_fz, tu_lst, tu_tup, it_tup, it_lst, it_fz, sq_tup, sq_lst, bindT_v, lockF, lockS, wipeF, run_ap, outO_rt, outO_nx, outO_ite, evC, evE, evB, evEs, evPs, evT, evTs, evI, evF, frame0, asP, asQ, asO, mbind_ap, bindO_ok, bindO_ite, ite_ap, mret_ap, mopt_some, lift0_ap, liftO_ok, take_val, peek_val, peek_own, peek_lck, take_own, mval_int, mval_str, mval_bl, mval_non, mval_tup, mval_lst, mval_fz, mresL_v, mvals, cLt, cLe, cGt, cGe, cEqI, cNeI, cEqB, cIs, cIsNot, isNon, tBo, tIn, tNo, tTu, tLi, xT, xL, xF, omap_some, bAdd, f__law_same, b__law_same, isiAny, isiD, key]
end K86

namespace K86
open PySem PySem.Spec MP L2 TL
theorem log_le {a : Int} {k : Nat} (h1 : 0 ≤ a) (h2 : a < 2 ^ k) : a.natAbs.log2 ≤ k := by
  by_cases h0 : a.natAbs = 0
  · rw [h0]; exact Nat.zero_le _
  · have e : (a.natAbs : Int) = a := Int.natAbs_of_nonneg h1
    have h3 : a.natAbs < 2 ^ k := by
      have : ((a.natAbs : Nat) : Int) < ((2 ^ k : Nat) : Int) := by rw [e]; simpa [asL_ap, fBinL_ap, fLst_ap, fFl_ap, fl_tup, fl_lst, all_mapT, ln_tup, ln_lst, ln_fz, tu_lst, tu_tup, it_tup, it_lst, it_fz, sq_tup, sq_lst, bindT_v, lockF, lockS, wipeF, run_ap, outO_rt, outO_nx, outO_ite, evC, evE, evB, evEs, evPs, evT, evTs, evI, evF, frame0, asP, asQ, mbind_ap, bindO_ok, bindO_ite, ite_ap, mret_ap, mopt_some, lift0_ap, liftO_ok, take_val, peek_val, peek_own, peek_lck, take_own, mval_int, mval_str, mval_bl, mval_non, mval_tup, mval_lst, mval_fz, mresL_v, mvals, cLt, cLe, cGt, cGe, cEqI, cNeI, cEqB, cIs, cIsNot, isNon, tBo, tIn, tNo, tTu, tLi, xT, xL, xF, omap_some] using h2
      exact_mod_cast this
    exact Nat.le_of_lt ((Nat.log2_lt h0).2 h3)
theorem bits_le {a : Int} {k : Nat} (h1 : 0 ≤ a) (h2 : a < 2 ^ k) : Builtin.Int.intBits a ≤ k + 1 := by
  have := log_le h1 h2
  unfold Builtin.Int.intBits
  split <;> omega
theorem bMul' {a b : Int} (h1 : 0 ≤ a) (h2 : a < 2 ^ 128) (h3 : 0 ≤ b) (h4 : b < 2 ^ 2048) : opBin .Mult (.int a) (.int b) = some (.int (a * b)) := by
  have := log_le h1 h2
  have := log_le h3 h4
  exact bMul (by omega)
theorem bPow' {a b : Int} (h1 : 0 ≤ a) (h2 : a < 2 ^ 128) (h3 : 0 ≤ b) (h4 : b ≤ 100) : opBin .Pow (.int a) (.int b) = some (.int (a ^ b.toNat)) := by
  have := bits_le h1 h2
  refine bPow h3 ?_
  have hb : (Builtin.Int.intBits a : Int) ≤ 129 := by omega
  calc (Builtin.Int.intBits a : Int) * b ≤ 129 * 100 := Int.mul_le_mul hb h4 h3 (by omega)
    _ ≤ _ := by decide
/-- a pot at place j, at most N takes past its numbers -/
def Pot (j N : Nat) (S : Store) : Prop := ∃ a b c : Int, S[j]? = some (.lst [.int a, .int b, .int c]) ∧ 0 ≤ a ∧ 0 ≤ b ∧ b < 2305843009213693951 ∧ 0 ≤ c ∧ c ≤ N
theorem Pot.mono {j N M : Nat} {S : Store} (h : Pot j N S) (hl : N ≤ M) : Pot j M S := by
  obtain ⟨a, b, c, e, h1, h2, h3, h4, h5⟩ := h
  exact ⟨a, b, c, e, h1, h2, h3, h4, by omega⟩
theorem set_get {S : Store} {j : Nat} {o o' : MO} (h : S[j]? = some o) : (S.set j o')[j]? = some o' := by
  obtain ⟨hl, _⟩ := List.getElem?_eq_some_iff.mp h
  rw [List.getElem?_set_self hl]
theorem e_take (n : Nat) (j N : Nat) (m : Int) (S : Store) (hp : Pot j N S) (hN : N ≤ 10000000) (h1 : 1 ≤ m) (h2 : m ≤ 100000) :
    ∃ v S', (callF Pg (n + 1)).f "_law_take" [.ref j, .int m] [] [] S = .ok (.int v) S' ∧ 0 ≤ v ∧ v < m ∧ Pot j (N + 1) S' := by
  obtain ⟨a, b, c, e, ha, hb, hb2, hc, hc2⟩ := hp
  have q0 := fun (ρ : Fr) => mval_ref (ρ := ρ) e
  have pm : 0 < m := by omega
  have em := fun (x : Int) => bMod (a := x) pm
  have ed := fun (x : Int) => bDiv (a := x) pm (by have := log_le (a := m) (k := 17) (by omega) (by omega); omega)
  rw [F_eq find__law_take rfl rfl]
  by_cases h0 : 0 < a
  · refine ⟨a % m, S.set j (.lst [.int (a / m), .int b, .int c]), ?_, Int.emod_nonneg _ (by omega), Int.emod_lt_of_pos _ pm, a / m, b, c, set_get e, Int.ediv_nonneg ha (by omega), hb, hb2, hc, by omega⟩
    have cg := fun (ρ : Fr) => chg_ref (ρ := ρ) (f := putAt (.int 0) (.int (a / m))) e (o' := .lst [.int (a / m), .int b, .int c]) rfl
    simp [asL_ap, fBinL_ap, fLst_ap, fFl_ap, fl_tup, fl_lst, all_mapT, ln_tup, ln_lst, ln_fz, tu_lst, tu_tup, it_tup, it_lst, it_fz, sq_tup, sq_lst, bindT_v, lockF, lockS, wipeF, run_ap, outO_rt, outO_nx, outO_ite, evC, evE, evB, evEs, evPs, evT, evTs, evI, evF, frame0, asP, asQ, mbind_ap, bindO_ok, bindO_ite, ite_ap, mret_ap, mopt_some, lift0_ap, liftO_ok, take_val, peek_val, peek_own, peek_lck, take_own, mval_int, mval_str, mval_bl, mval_non, mval_tup, mval_lst, mval_fz, mresL_v, mvals, cLt, cLe, cGt, cGe, cEqI, cNeI, cEqB, cIs, cIsNot, isNon, tBo, tIn, tNo, tTu, tLi, xT, xL, xF, omap_some, f__law_take, b__law_take, q0, atD, ixD, h0, em, ed, cg]
  · have a0 : a = 0 := by omega
    subst a0
    have cg := fun (ρ : Fr) => chg_ref (ρ := ρ) (f := putAt (.int 2) (.int (c + 1))) e (o' := .lst [.int 0, .int b, .int (c + 1)]) rfl
    have e2 : (S.set j (.lst [.int 0, .int b, .int (c + 1)]))[j]? = some (.lst [.int 0, .int b, .int (c + 1)]) := set_get e
    have q1 := fun (ρ : Fr) => mval_ref (ρ := ρ) e2
    have m1 : opBin .Mult (.int 104729) (.int (c + 1)) = some (.int (104729 * (c + 1))) := bMul' (by omega) (by omega) (by omega) (by omega)
    have m2 : opBin .Mult (.int 31) (.int (c + 1)) = some (.int (31 * (c + 1))) := bMul' (by omega) (by omega) (by omega) (by omega)
    have p1 := bPow' (a := b + 104729 * (c + 1)) (b := 3) (by omega) (by omega) (by omega) (by omega)
    have d1 := fun (x : Int) => bMod (a := x) (b := 2305843009213693921) (by omega)
    have d2 := fun (x : Int) => bMod (a := x) (b := 65537) (by omega)
    have d3 := fun (x : Int) => bMod (a := x) (b := 2305843009213693907) (by omega)
    have d4 := fun (x : Int) => bDiv (a := x) (b := 1024) (by omega) (by decide)
    generalize hx : (b + 104729 * (c + 1)) ^ 3 % 2305843009213693921 = x
    have x1 : 0 ≤ x := by rw [← hx]; exact Int.emod_nonneg _ (by omega)
    have x2 : x < 2305843009213693921 := by rw [← hx]; exact Int.emod_lt_of_pos _ (by omega)
    have y1 : 0 ≤ b % 65537 := Int.emod_nonneg _ (by omega)
    have y2 : b % 65537 < 65537 := Int.emod_lt_of_pos _ (by omega)
    have p2 := bPow' (a := x + b % 65537 + 31 * (c + 1)) (b := 5) (by omega) (by omega) (by omega) (by omega)
    refine ⟨(x + b % 65537 + 31 * (c + 1)) ^ 5 % 2305843009213693907 / 1024 % m, S.set j (.lst [.int 0, .int b, .int (c + 1)]), ?_, Int.emod_nonneg _ (by omega), Int.emod_lt_of_pos _ pm, 0, b, c + 1, e2, by omega, hb, hb2, by omega, by omega⟩
    simp [asL_ap, fBinL_ap, fLst_ap, fFl_ap, fl_tup, fl_lst, all_mapT, ln_tup, ln_lst, ln_fz, tu_lst, tu_tup, it_tup, it_lst, it_fz, sq_tup, sq_lst, bindT_v, lockF, lockS, wipeF, run_ap, outO_rt, outO_nx, outO_ite, evC, evE, evB, evEs, evPs, evT, evTs, evI, evF, frame0, asP, asQ, mbind_ap, bindO_ok, bindO_ite, ite_ap, mret_ap, mopt_some, lift0_ap, liftO_ok, take_val, peek_val, peek_own, peek_lck, take_own, mval_int, mval_str, mval_bl, mval_non, mval_tup, mval_lst, mval_fz, mresL_v, mvals, cLt, cLe, cGt, cGe, cEqI, cNeI, cEqB, cIs, cIsNot, isNon, tBo, tIn, tNo, tTu, tLi, xT, xL, xF, omap_some, f__law_take, b__law_take, q0, atD, ixD, cg, q1, m1, m2, bAdd, p1, d1, d2, d3, d4, em, p2, hx] 
theorem e_room (n : Nat) (j N : Nat) (m q : Int) (S : Store) (hp : Pot j N S) (hN : N ≤ 9000000) (h1 : 1 ≤ m) (h2 : m ≤ 1000) (h3 : 1 ≤ q) (h4 : q ≤ 1000) :
    ∃ v S', (callF Pg (n + 2)).f "_law_room" [.ref j, .int m, .int q] [] [] S = .ok v S' ∧ Beh m v ∧ Pot j (N + 2) S' := by
  rw [F_eq find__law_room rfl rfl]
  obtain ⟨v, S1, e1, v1, v2, p1⟩ := e_take n j N q S hp (by omega) h3 (by omega)
  by_cases h0 : v = 0
  · subst h0
    exact ⟨.non, S1, by simp [asL_ap, fBinL_ap, fLst_ap, fFl_ap, fl_tup, fl_lst, all_mapT, ln_tup, ln_lst, ln_fz, tu_lst, tu_tup, it_tup, it_lst, it_fz, sq_tup, sq_lst, bindT_v, lockF, lockS, wipeF, run_ap, outO_rt, outO_nx, outO_ite, evC, evE, evB, evEs, evPs, evT, evTs, evI, evF, frame0, asP, asQ, mbind_ap, bindO_ok, bindO_ite, ite_ap, mret_ap, mopt_some, lift0_ap, liftO_ok, take_val, peek_val, peek_own, peek_lck, take_own, mval_int, mval_str, mval_bl, mval_non, mval_tup, mval_lst, mval_fz, mresL_v, mvals, cLt, cLe, cGt, cGe, cEqI, cNeI, cEqB, cIs, cIsNot, isNon, tBo, tIn, tNo, tTu, tLi, xT, xL, xF, omap_some, f__law_room, b__law_room, e1], .inl rfl, p1.mono (by omega)⟩
  · obtain ⟨w, S2, e2, w1, w2, p2⟩ := e_take n j (N + 1) m S1 p1 (by omega) h1 (by omega)
    exact ⟨.int w, S2, by simp [asL_ap, fBinL_ap, fLst_ap, fFl_ap, fl_tup, fl_lst, all_mapT, ln_tup, ln_lst, ln_fz, tu_lst, tu_tup, it_tup, it_lst, it_fz, sq_tup, sq_lst, bindT_v, lockF, lockS, wipeF, run_ap, outO_rt, outO_nx, outO_ite, evC, evE, evB, evEs, evPs, evT, evTs, evI, evF, frame0, asP, asQ, mbind_ap, bindO_ok, bindO_ite, ite_ap, mret_ap, mopt_some, lift0_ap, liftO_ok, take_val, peek_val, peek_own, peek_lck, take_own, mval_int, mval_str, mval_bl, mval_non, mval_tup, mval_lst, mval_fz, mresL_v, mvals, cLt, cLe, cGt, cGe, cEqI, cNeI, cEqB, cIs, cIsNot, isNon, tBo, tIn, tNo, tTu, tLi, xT, xL, xF, omap_some, f__law_room, b__law_room, e1, e2, h0], .inr ⟨w, rfl, w1, w2⟩, p2⟩
theorem e_price (n : Nat) (j N : Nat) (w g t : Int) (S : Store) (hp : Pot j N S) (hN : N ≤ 9000000) (h1 : t = 99) :
    ∃ v S', (callF Pg (n + 2)).f "_law_price" [.ref j, .int w, .int g, .int t] [] [] S = .ok v S' ∧ Price (g = w) v ∧ Pot j (N + 2) S' := by
  subst h1
  rw [F_eq find__law_price rfl rfl]
  by_cases h : w = g
  · subst h
    exact ⟨.int 0, S, by simp [asL_ap, fBinL_ap, fLst_ap, fFl_ap, fl_tup, fl_lst, all_mapT, ln_tup, ln_lst, ln_fz, tu_lst, tu_tup, it_tup, it_lst, it_fz, sq_tup, sq_lst, bindT_v, lockF, lockS, wipeF, run_ap, outO_rt, outO_nx, outO_ite, evC, evE, evB, evEs, evPs, evT, evTs, evI, evF, frame0, asP, asQ, mbind_ap, bindO_ok, bindO_ite, ite_ap, mret_ap, mopt_some, lift0_ap, liftO_ok, take_val, peek_val, peek_own, peek_lck, take_own, mval_int, mval_str, mval_bl, mval_non, mval_tup, mval_lst, mval_fz, mresL_v, mvals, cLt, cLe, cGt, cGe, cEqI, cNeI, cEqB, cIs, cIsNot, isNon, tBo, tIn, tNo, tTu, tLi, xT, xL, xF, omap_some, f__law_price, b__law_price], .inl ⟨rfl, rfl⟩, hp.mono (by omega)⟩
  · obtain ⟨v, S1, e1, v1, v2, p1⟩ := e_take n j N 5 S hp (by omega) (by omega) (by omega)
    by_cases h0 : v = 0
    · subst h0
      exact ⟨.non, S1, by simp [asL_ap, fBinL_ap, fLst_ap, fFl_ap, fl_tup, fl_lst, all_mapT, ln_tup, ln_lst, ln_fz, tu_lst, tu_tup, it_tup, it_lst, it_fz, sq_tup, sq_lst, bindT_v, lockF, lockS, wipeF, run_ap, outO_rt, outO_nx, outO_ite, evC, evE, evB, evEs, evPs, evT, evTs, evI, evF, frame0, asP, asQ, mbind_ap, bindO_ok, bindO_ite, ite_ap, mret_ap, mopt_some, lift0_ap, liftO_ok, take_val, peek_val, peek_own, peek_lck, take_own, mval_int, mval_str, mval_bl, mval_non, mval_tup, mval_lst, mval_fz, mresL_v, mvals, cLt, cLe, cGt, cGe, cEqI, cNeI, cEqB, cIs, cIsNot, isNon, tBo, tIn, tNo, tTu, tLi, xT, xL, xF, omap_some, f__law_price, b__law_price, e1, h], .inr ⟨fun e => h e.symm, .inl rfl⟩, p1.mono (by omega)⟩
    · obtain ⟨x, S2, e2, w1, w2, p2⟩ := e_take n j (N + 1) 99 S1 p1 (by omega) (by omega) (by omega)
      exact ⟨.int (1 + x), S2, by simp [asL_ap, fBinL_ap, fLst_ap, fFl_ap, fl_tup, fl_lst, all_mapT, ln_tup, ln_lst, ln_fz, tu_lst, tu_tup, it_tup, it_lst, it_fz, sq_tup, sq_lst, bindT_v, lockF, lockS, wipeF, run_ap, outO_rt, outO_nx, outO_ite, evC, evE, evB, evEs, evPs, evT, evTs, evI, evF, frame0, asP, asQ, mbind_ap, bindO_ok, bindO_ite, ite_ap, mret_ap, mopt_some, lift0_ap, liftO_ok, take_val, peek_val, peek_own, peek_lck, take_own, mval_int, mval_str, mval_bl, mval_non, mval_tup, mval_lst, mval_fz, mresL_v, mvals, cLt, cLe, cGt, cGe, cEqI, cNeI, cEqB, cIs, cIsNot, isNon, tBo, tIn, tNo, tTu, tLi, xT, xL, xF, omap_some, f__law_price, b__law_price, e1, e2, h0, h, bAdd], .inr ⟨fun e => h e.symm, .inr ⟨_, rfl, by omega, by omega⟩⟩, p2⟩
theorem ok0 : okLen 0 = true := rfl
theorem ok1 : okLen 1 = true := rfl
theorem ok2 : okLen 2 = true := rfl
theorem ok3 : okLen 3 = true := rfl
/-- the turns of a range -/
def R (k : Int) : List D := MP.intsFrom 0 k.toNat
theorem ints_len : ∀ (n : Nat) (a : Int), (MP.intsFrom a n).length = n
  | 0, _ => rfl
  | n + 1, a => by
    show (MP.intsFrom (a + 1) n).length + 1 = n + 1
    rw [ints_len n]
theorem ints_get : ∀ (n : Nat) (a : Int) (i : Nat) (d : D), (MP.intsFrom a n)[i]? = some d → d = .int (a + i) ∧ i < n
  | 0, _, i, d, h => by simp [asL_ap, fBinL_ap, fLst_ap, fFl_ap, fl_tup, fl_lst, all_mapT, ln_tup, ln_lst, ln_fz, tu_lst, tu_tup, it_tup, it_lst, it_fz, sq_tup, sq_lst, bindT_v, lockF, lockS, wipeF, run_ap, outO_rt, outO_nx, outO_ite, evC, evE, evB, evEs, evPs, evT, evTs, evI, evF, frame0, asP, asQ, mbind_ap, bindO_ok, bindO_ite, ite_ap, mret_ap, mopt_some, lift0_ap, liftO_ok, take_val, peek_val, peek_own, peek_lck, take_own, mval_int, mval_str, mval_bl, mval_non, mval_tup, mval_lst, mval_fz, mresL_v, mvals, cLt, cLe, cGt, cGe, cEqI, cNeI, cEqB, cIs, cIsNot, isNon, tBo, tIn, tNo, tTu, tLi, xT, xL, xF, omap_some, MP.intsFrom] at h
  | n + 1, a, 0, d, h => by
    have e : some (D.int a) = some d := h
    cases e
    exact ⟨by simp [asL_ap, fBinL_ap, fLst_ap, fFl_ap, fl_tup, fl_lst, all_mapT, ln_tup, ln_lst, ln_fz, tu_lst, tu_tup, it_tup, it_lst, it_fz, sq_tup, sq_lst, bindT_v, lockF, lockS, wipeF, run_ap, outO_rt, outO_nx, outO_ite, evC, evE, evB, evEs, evPs, evT, evTs, evI, evF, frame0, asP, asQ, mbind_ap, bindO_ok, bindO_ite, ite_ap, mret_ap, mopt_some, lift0_ap, liftO_ok, take_val, peek_val, peek_own, peek_lck, take_own, mval_int, mval_str, mval_bl, mval_non, mval_tup, mval_lst, mval_fz, mresL_v, mvals, cLt, cLe, cGt, cGe, cEqI, cNeI, cEqB, cIs, cIsNot, isNon, tBo, tIn, tNo, tTu, tLi, xT, xL, xF, omap_some], by omega⟩
  | n + 1, a, i + 1, d, h => by
    have h2 : (MP.intsFrom (a + 1) n)[i]? = some d := by simpa [asL_ap, fBinL_ap, fLst_ap, fFl_ap, fl_tup, fl_lst, all_mapT, ln_tup, ln_lst, ln_fz, tu_lst, tu_tup, it_tup, it_lst, it_fz, sq_tup, sq_lst, bindT_v, lockF, lockS, wipeF, run_ap, outO_rt, outO_nx, outO_ite, evC, evE, evB, evEs, evPs, evT, evTs, evI, evF, frame0, asP, asQ, mbind_ap, bindO_ok, bindO_ite, ite_ap, mret_ap, mopt_some, lift0_ap, liftO_ok, take_val, peek_val, peek_own, peek_lck, take_own, mval_int, mval_str, mval_bl, mval_non, mval_tup, mval_lst, mval_fz, mresL_v, mvals, cLt, cLe, cGt, cGe, cEqI, cNeI, cEqB, cIs, cIsNot, isNon, tBo, tIn, tNo, tTu, tLi, xT, xL, xF, omap_some, MP.intsFrom] using h
    obtain ⟨rfl, hl⟩ := ints_get n (a + 1) i d h2
    exact ⟨by congr 1; omega, by omega⟩
theorem R_len {k : Int} : (R k).length = k.toNat := ints_len _ _
theorem R_ok {k : Int} (h : 0 ≤ k) (h2 : k ≤ 100000) : rngD 0 k = some (R k) := by
  unfold rngD
  rw [if_pos (by simp [asL_ap, fBinL_ap, fLst_ap, fFl_ap, fl_tup, fl_lst, all_mapT, ln_tup, ln_lst, ln_fz, tu_lst, tu_tup, it_tup, it_lst, it_fz, sq_tup, sq_lst, bindT_v, lockF, lockS, wipeF, run_ap, outO_rt, outO_nx, outO_ite, evC, evE, evB, evEs, evPs, evT, evTs, evI, evF, frame0, asP, asQ, mbind_ap, bindO_ok, bindO_ite, ite_ap, mret_ap, mopt_some, lift0_ap, liftO_ok, take_val, peek_val, peek_own, peek_lck, take_own, mval_int, mval_str, mval_bl, mval_non, mval_tup, mval_lst, mval_fz, mresL_v, mvals, cLt, cLe, cGt, cGe, cEqI, cNeI, cEqB, cIs, cIsNot, isNon, tBo, tIn, tNo, tTu, tLi, xT, xL, xF, omap_some]; omega), R]
  simp [asL_ap, fBinL_ap, fLst_ap, fFl_ap, fl_tup, fl_lst, all_mapT, ln_tup, ln_lst, ln_fz, tu_lst, tu_tup, it_tup, it_lst, it_fz, sq_tup, sq_lst, bindT_v, lockF, lockS, wipeF, run_ap, outO_rt, outO_nx, outO_ite, evC, evE, evB, evEs, evPs, evT, evTs, evI, evF, frame0, asP, asQ, mbind_ap, bindO_ok, bindO_ite, ite_ap, mret_ap, mopt_some, lift0_ap, liftO_ok, take_val, peek_val, peek_own, peek_lck, take_own, mval_int, mval_str, mval_bl, mval_non, mval_tup, mval_lst, mval_fz, mresL_v, mvals, cLt, cLe, cGt, cGe, cEqI, cNeI, cEqB, cIs, cIsNot, isNon, tBo, tIn, tNo, tTu, tLi, xT, xL, xF, omap_some]
theorem R_get {k : Int} {i : Nat} {d : D} (h : (R k)[i]? = some d) : d = .int i ∧ (i : Int) < k := by
  obtain ⟨rfl, hl⟩ := ints_get _ _ _ _ h
  exact ⟨by congr 1; omega, by omega⟩
theorem e_prices (n : Nat) (j N : Nat) (k : Int) (S : Store) (hp : Pot j N S) (hN : N ≤ 8000000) (h1 : 1 ≤ k) (h2 : k ≤ 9) :
    ∃ v S', (callF Pg (n + 3)).f "_law_prices" [.ref j, .int k, .int 99] [] [] S = .ok v S' ∧ (v = .non ∨ PriceT k v) ∧ Pot j (N + 200) S' := by
  rw [F_eq find__law_prices rfl rfl]
  obtain ⟨v, S1, e1, v1, v2, p1⟩ := e_take (n + 1) j N 3 S hp (by omega) (by omega) (by omega)
  by_cases h0 : v = 0
  · subst h0
    exact ⟨.non, S1, by simp [asL_ap, fBinL_ap, fLst_ap, fFl_ap, fl_tup, fl_lst, all_mapT, ln_tup, ln_lst, ln_fz, tu_lst, tu_tup, it_tup, it_lst, it_fz, sq_tup, sq_lst, bindT_v, lockF, lockS, wipeF, run_ap, outO_rt, outO_nx, outO_ite, evC, evE, evB, evEs, evPs, evT, evTs, evI, evF, frame0, asP, asQ, mbind_ap, bindO_ok, bindO_ite, ite_ap, mret_ap, mopt_some, lift0_ap, liftO_ok, take_val, peek_val, peek_own, peek_lck, take_own, mval_int, mval_str, mval_bl, mval_non, mval_tup, mval_lst, mval_fz, mresL_v, mvals, cLt, cLe, cGt, cGe, cEqI, cNeI, cEqB, cIs, cIsNot, isNon, tBo, tIn, tNo, tTu, tLi, xT, xL, xF, omap_some, f__law_prices, b__law_prices, e1], .inl rfl, p1.mono (by omega)⟩
  · have rk := R_ok (k := k) (by omega) (by omega)
    have key := lc_inv (cl := callF Pg (n + 2)) (t := .v 4) (own := [4]) (it := .rng1 (.var 1)) (e := .bl .tuple (.cons (.lc c__law_prices_0) .nil)) (ρ := [.val (.ref j), .val (.int k), .val (.int 99), .none, .none]) (S := S1) (l := R k)
      (fun i S => Pot j (N + 1 + 20 * i) S) (fun w x => ∃ l : List D, x = .tup l ∧ (l.length : Int) = k ∧ ∀ (g : Nat) x, l[g]? = some x → Price (g = w) x) (by simp [asL_ap, fBinL_ap, fLst_ap, fFl_ap, fl_tup, fl_lst, all_mapT, ln_tup, ln_lst, ln_fz, tu_lst, tu_tup, it_tup, it_lst, it_fz, sq_tup, sq_lst, bindT_v, lockF, lockS, wipeF, run_ap, outO_rt, outO_nx, outO_ite, evC, evE, evB, evEs, evPs, evT, evTs, evI, evF, frame0, asP, asQ, mbind_ap, bindO_ok, bindO_ite, ite_ap, mret_ap, mopt_some, lift0_ap, liftO_ok, take_val, peek_val, peek_own, peek_lck, take_own, mval_int, mval_str, mval_bl, mval_non, mval_tup, mval_lst, mval_fz, mresL_v, mvals, cLt, cLe, cGt, cGe, cEqI, cNeI, cEqB, cIs, cIsNot, isNon, tBo, tIn, tNo, tTu, tLi, xT, xL, xF, omap_some, rk]) p1 ?_ (by rw [R_len]; omega)
    · obtain ⟨rs, S2, e2, l2, q2, p2⟩ := key
      rw [R_len] at l2 p2
      exact ⟨.tup rs, S2, by simp [asL_ap, fBinL_ap, fLst_ap, fFl_ap, fl_tup, fl_lst, all_mapT, ln_tup, ln_lst, ln_fz, tu_lst, tu_tup, it_tup, it_lst, it_fz, sq_tup, sq_lst, bindT_v, lockF, lockS, wipeF, run_ap, outO_rt, outO_nx, outO_ite, evC, evE, evB, evEs, evPs, evT, evTs, evI, evF, frame0, asP, asQ, mbind_ap, bindO_ok, bindO_ite, ite_ap, mret_ap, mopt_some, lift0_ap, liftO_ok, take_val, peek_val, peek_own, peek_lck, take_own, mval_int, mval_str, mval_bl, mval_non, mval_tup, mval_lst, mval_fz, mresL_v, mvals, cLt, cLe, cGt, cGe, cEqI, cNeI, cEqB, cIs, cIsNot, isNon, tBo, tIn, tNo, tTu, tLi, xT, xL, xF, omap_some, f__law_prices, b__law_prices, e1, h0, c__law_prices_1, e2], .inr ⟨rs, rfl, by omega, q2⟩, p2.mono (by omega)⟩
    · intro i d S hd hp
      obtain ⟨rfl, hi⟩ := R_get hd
      have key := lc_inv (cl := callF Pg (n + 2)) (t := .v 3) (own := [3]) (it := .rng1 (.var 1)) (e := .call "_law_price" (.cons (.var 0) (.cons (.var 4) (.cons (.var 3) (.cons (.var 2) .nil)))) [] .nil) (ρ := [.val (.ref j), .val (.int k), .val (.int 99), .none, .val (.int i)]) (S := S) (l := R k)
        (fun g S => Pot j (N + 1 + 20 * i + 2 * g) S) (fun g x => Price (g = i) x) (by simp [asL_ap, fBinL_ap, fLst_ap, fFl_ap, fl_tup, fl_lst, all_mapT, ln_tup, ln_lst, ln_fz, tu_lst, tu_tup, it_tup, it_lst, it_fz, sq_tup, sq_lst, bindT_v, lockF, lockS, wipeF, run_ap, outO_rt, outO_nx, outO_ite, evC, evE, evB, evEs, evPs, evT, evTs, evI, evF, frame0, asP, asQ, mbind_ap, bindO_ok, bindO_ite, ite_ap, mret_ap, mopt_some, lift0_ap, liftO_ok, take_val, peek_val, peek_own, peek_lck, take_own, mval_int, mval_str, mval_bl, mval_non, mval_tup, mval_lst, mval_fz, mresL_v, mvals, cLt, cLe, cGt, cGe, cEqI, cNeI, cEqB, cIs, cIsNot, isNon, tBo, tIn, tNo, tTu, tLi, xT, xL, xF, omap_some, rk]) hp ?_ (by rw [R_len]; omega)
      · obtain ⟨rs, S2, e2, l2, q2, p2⟩ := key
        rw [R_len] at l2 p2
        exact ⟨.tup rs, [.val (.ref j), .val (.int k), .val (.int 99), .none, .val (.int i)], S2, by simp [asL_ap, fBinL_ap, fLst_ap, fFl_ap, fl_tup, fl_lst, all_mapT, ln_tup, ln_lst, ln_fz, tu_lst, tu_tup, it_tup, it_lst, it_fz, sq_tup, sq_lst, bindT_v, lockF, lockS, wipeF, run_ap, outO_rt, outO_nx, outO_ite, evC, evE, evB, evEs, evPs, evT, evTs, evI, evF, frame0, asP, asQ, mbind_ap, bindO_ok, bindO_ite, ite_ap, mret_ap, mopt_some, lift0_ap, liftO_ok, take_val, peek_val, peek_own, peek_lck, take_own, mval_int, mval_str, mval_bl, mval_non, mval_tup, mval_lst, mval_fz, mresL_v, mvals, cLt, cLe, cGt, cGe, cEqI, cNeI, cEqB, cIs, cIsNot, isNon, tBo, tIn, tNo, tTu, tLi, xT, xL, xF, omap_some, c__law_prices_0, e2], ⟨rs, rfl, by omega, q2⟩, p2.mono (by omega)⟩
      · intro g d S hd hp
        obtain ⟨rfl, hg⟩ := R_get hd
        obtain ⟨x, S2, e2, q2, p2⟩ := e_price n j _ i g 99 S hp (by omega) rfl
        refine ⟨x, [.val (.ref j), .val (.int k), .val (.int 99), .val (.int g), .val (.int i)], S2, by simp [asL_ap, fBinL_ap, fLst_ap, fFl_ap, fl_tup, fl_lst, all_mapT, ln_tup, ln_lst, ln_fz, tu_lst, tu_tup, it_tup, it_lst, it_fz, sq_tup, sq_lst, bindT_v, lockF, lockS, wipeF, run_ap, outO_rt, outO_nx, outO_ite, evC, evE, evB, evEs, evPs, evT, evTs, evI, evF, frame0, asP, asQ, mbind_ap, bindO_ok, bindO_ite, ite_ap, mret_ap, mopt_some, lift0_ap, liftO_ok, take_val, peek_val, peek_own, peek_lck, take_own, mval_int, mval_str, mval_bl, mval_non, mval_tup, mval_lst, mval_fz, mresL_v, mvals, cLt, cLe, cGt, cGe, cEqI, cNeI, cEqB, cIs, cIsNot, isNon, tBo, tIn, tNo, tTu, tLi, xT, xL, xF, omap_some, e2], ?_, p2.mono (by omega)⟩
        have e : ((g : Int) = (i : Int)) = (g = i) := propext ⟨fun h => by omega, fun h => by omega⟩
        rwa [e] at q2
theorem e_run (n : Nat) (j N : Nat) (s k m : Int) (S : Store) (hp : Pot j N S) (hN : N ≤ 8000000) (h1 : 1 ≤ s) (h2 : s ≤ 9) (h3 : 1 ≤ k) (h4 : k ≤ 9) (h5 : 0 ≤ m) (h6 : m ≤ 300) :
    ∃ l S', (callF Pg (n + 2)).f "_law_run" [.ref j, .int s, .int k, .int m] [] [] S = .ok (.tup l) S' ∧ (l.length ≤ 300 ∧ ∀ x ∈ l, Cell s k x) ∧ Pot j (N + 600) S' := by
  rw [F_eq find__law_run rfl rfl]
  have rk := R_ok (k := m) (by omega) (by omega)
  have key := lc_inv (cl := callF Pg (n + 1)) (t := .v 4) (own := [4]) (it := .rng1 (.var 3)) (e := .tup (.cons (.call "_law_take" (.cons (.var 0) (.cons (.var 1) .nil)) [] .nil) (.cons (.call "_law_take" (.cons (.var 0) (.cons (.var 2) .nil)) [] .nil) .nil))) (ρ := [.val (.ref j), .val (.int s), .val (.int k), .val (.int m), .none]) (S := S) (l := R m)
      (fun i S => Pot j (N + 2 * i) S) (fun w x => Cell s k x) (by simp [asL_ap, fBinL_ap, fLst_ap, fFl_ap, fl_tup, fl_lst, all_mapT, ln_tup, ln_lst, ln_fz, tu_lst, tu_tup, it_tup, it_lst, it_fz, sq_tup, sq_lst, bindT_v, lockF, lockS, wipeF, run_ap, outO_rt, outO_nx, outO_ite, evC, evE, evB, evEs, evPs, evT, evTs, evI, evF, frame0, asP, asQ, mbind_ap, bindO_ok, bindO_ite, ite_ap, mret_ap, mopt_some, lift0_ap, liftO_ok, take_val, peek_val, peek_own, peek_lck, take_own, mval_int, mval_str, mval_bl, mval_non, mval_tup, mval_lst, mval_fz, mresL_v, mvals, cLt, cLe, cGt, cGe, cEqI, cNeI, cEqB, cIs, cIsNot, isNon, tBo, tIn, tNo, tTu, tLi, xT, xL, xF, omap_some, rk]) hp ?_ (by rw [R_len]; omega)
  · obtain ⟨rs, S2, e2, l2, q2, p2⟩ := key
    rw [R_len] at l2 p2
    exact ⟨rs, S2, by simp [asL_ap, fBinL_ap, fLst_ap, fFl_ap, fl_tup, fl_lst, all_mapT, ln_tup, ln_lst, ln_fz, tu_lst, tu_tup, it_tup, it_lst, it_fz, sq_tup, sq_lst, bindT_v, lockF, lockS, wipeF, run_ap, outO_rt, outO_nx, outO_ite, evC, evE, evB, evEs, evPs, evT, evTs, evI, evF, frame0, asP, asQ, mbind_ap, bindO_ok, bindO_ite, ite_ap, mret_ap, mopt_some, lift0_ap, liftO_ok, take_val, peek_val, peek_own, peek_lck, take_own, mval_int, mval_str, mval_bl, mval_non, mval_tup, mval_lst, mval_fz, mresL_v, mvals, cLt, cLe, cGt, cGe, cEqI, cNeI, cEqB, cIs, cIsNot, isNon, tBo, tIn, tNo, tTu, tLi, xT, xL, xF, omap_some, f__law_run, b__law_run, c__law_run_0, e2], ⟨by omega, fun x hx => by
      obtain ⟨i, hi⟩ := List.getElem?_of_mem hx
      exact q2 i x hi⟩, p2.mono (by omega)⟩
  · intro i d S hd hp
    obtain ⟨rfl, hi⟩ := R_get hd
    obtain ⟨v, S1, e1, v1, v2, p1⟩ := e_take n j _ s S hp (by omega) (by omega) (by omega)
    obtain ⟨w, S2, e2, w1, w2, p2⟩ := e_take n j _ k S1 p1 (by omega) (by omega) (by omega)
    exact ⟨.tup [.int v, .int w], [.val (.ref j), .val (.int s), .val (.int k), .val (.int m), .val (.int i)], S2, by simp [asL_ap, fBinL_ap, fLst_ap, fFl_ap, fl_tup, fl_lst, all_mapT, ln_tup, ln_lst, ln_fz, tu_lst, tu_tup, it_tup, it_lst, it_fz, sq_tup, sq_lst, bindT_v, lockF, lockS, wipeF, run_ap, outO_rt, outO_nx, outO_ite, evC, evE, evB, evEs, evPs, evT, evTs, evI, evF, frame0, asP, asQ, mbind_ap, bindO_ok, bindO_ite, ite_ap, mret_ap, mopt_some, lift0_ap, liftO_ok, take_val, peek_val, peek_own, peek_lck, take_own, mval_int, mval_str, mval_bl, mval_non, mval_tup, mval_lst, mval_fz, mresL_v, mvals, cLt, cLe, cGt, cGe, cEqI, cNeI, cEqB, cIs, cIsNot, isNon, tBo, tIn, tNo, tTu, tLi, xT, xL, xF, omap_some, e1, e2, ok2], ⟨v, w, rfl, v1, v2, w1, w2⟩, p2.mono (by omega)⟩
end K86

namespace K86
open PySem PySem.Spec MP L2 TL
theorem e_gsaying (n : Nat) (j N : Nat) (s k m q : Int) (S : Store) (hp : Pot j N S) (hN : N ≤ 1000000) (h1 : 1 ≤ s) (h2 : s ≤ 9) (h3 : 1 ≤ k) (h4 : k ≤ 9) (h5 : 1 ≤ m) (h6 : m ≤ 100) (h7 : 1 ≤ q) (h8 : q ≤ 9) :
    ∃ v S', (callF Pg (n + 3)).f "_law_saying" [.ref j, .int s, .int k, .int m, .int q] [] [] S = .ok v S' ∧ Saying v ∧ Pot j (N + 20000) S' := by
  rw [F_eq find__law_saying rfl rfl]
  have rm := R_ok (k := m) (by omega) (by omega)
  have rs := R_ok (k := s) (by omega) (by omega)
  have rk := R_ok (k := k) (by omega) (by omega)
  have key := for_inv (t := .v 6) (b := evC (callF Pg (n + 2)) Pg.sub b__law_saying_2) (l := R m) (ρ := [.val (.ref j), .val (.int s), .val (.int k), .val (.int m), .val (.int q), .own (.lst []), .none, .none, .none]) (S := S)
    (P := fun i ρ S' => ∃ acc a, ρ = [.val (.ref j), .val (.int s), .val (.int k), .val (.int m), .val (.int q), .own (.lst acc), a, .none, .none] ∧ acc.length = i ∧ (∀ r ∈ acc, Row s (Row k (Beh m)) r) ∧ Pot j (N + 200 * i) S') ⟨[], _, rfl, rfl, by simp [asL_ap, fBinL_ap, fLst_ap, fFl_ap, fl_tup, fl_lst, all_mapT, ln_tup, ln_lst, ln_fz, tu_lst, tu_tup, it_tup, it_lst, it_fz, sq_tup, sq_lst, bindT_v, lockF, lockS, wipeF, run_ap, outO_rt, outO_nx, outO_ite, evC, evE, evB, evEs, evPs, evT, evTs, evI, evF, frame0, asP, asQ, mbind_ap, bindO_ok, bindO_ite, ite_ap, mret_ap, mopt_some, lift0_ap, liftO_ok, take_val, peek_val, peek_own, peek_lck, take_own, mval_int, mval_str, mval_bl, mval_non, mval_tup, mval_lst, mval_fz, mresL_v, mvals, cLt, cLe, cGt, cGe, cEqI, cNeI, cEqB, cIs, cIsNot, isNon, tBo, tIn, tNo, tTu, tLi, xT, xL, xF, omap_some, ok0, ok2, ok3], hp⟩ ?_
  · obtain ⟨ρ', S', e, acc, a, rfl, hl, hr, hp'⟩ := key
    rw [R_len] at hl hp'
    refine ⟨.tup [.int s, .int k, .tup acc], S', ?_, ⟨s, k, acc, rfl, h1, h2, h3, h4, by omega, by omega, fun r hr' => ?_⟩, hp'.mono (by omega)⟩
    · simp [asL_ap, fBinL_ap, fLst_ap, fFl_ap, fl_tup, fl_lst, all_mapT, ln_tup, ln_lst, ln_fz, tu_lst, tu_tup, it_tup, it_lst, it_fz, sq_tup, sq_lst, bindT_v, lockF, lockS, wipeF, run_ap, outO_rt, outO_nx, outO_ite, evC, evE, evB, evEs, evPs, evT, evTs, evI, evF, frame0, asP, asQ, mbind_ap, bindO_ok, bindO_ite, ite_ap, mret_ap, mopt_some, lift0_ap, liftO_ok, take_val, peek_val, peek_own, peek_lck, take_own, mval_int, mval_str, mval_bl, mval_non, mval_tup, mval_lst, mval_fz, mresL_v, mvals, cLt, cLe, cGt, cGe, cEqI, cNeI, cEqB, cIs, cIsNot, isNon, tBo, tIn, tNo, tTu, tLi, xT, xL, xF, omap_some, ok0, ok2, ok3, f__law_saying, b__law_saying, rm, e, mval_own]
    · have e : ((acc.length : Nat) : Int) = m := by omega
      rw [e]
      exact hr r hr'
  · rintro i d ρ S hd ⟨acc, a, rfl, hl, hr, hp⟩
    obtain ⟨rfl, hi⟩ := R_get hd
    have key := lc_inv (cl := callF Pg (n + 2)) (t := .v 8) (own := [8]) (it := .rng1 (.var 1)) (e := .bl .tuple (.cons (.lc c__law_saying_0) .nil)) (ρ := [.val (.ref j), .val (.int s), .val (.int k), .val (.int m), .val (.int q), .own (.lst acc), .val (.int i), .none, .none]) (S := S) (l := R s)
      (fun g S => Pot j (N + 200 * i + 20 * g) S) (fun w x => Row k (Beh m) x) (by simp [asL_ap, fBinL_ap, fLst_ap, fFl_ap, fl_tup, fl_lst, all_mapT, ln_tup, ln_lst, ln_fz, tu_lst, tu_tup, it_tup, it_lst, it_fz, sq_tup, sq_lst, bindT_v, lockF, lockS, wipeF, run_ap, outO_rt, outO_nx, outO_ite, evC, evE, evB, evEs, evPs, evT, evTs, evI, evF, frame0, asP, asQ, mbind_ap, bindO_ok, bindO_ite, ite_ap, mret_ap, mopt_some, lift0_ap, liftO_ok, take_val, peek_val, peek_own, peek_lck, take_own, mval_int, mval_str, mval_bl, mval_non, mval_tup, mval_lst, mval_fz, mresL_v, mvals, cLt, cLe, cGt, cGe, cEqI, cNeI, cEqB, cIs, cIsNot, isNon, tBo, tIn, tNo, tTu, tLi, xT, xL, xF, omap_some, ok0, ok2, ok3, rs]) hp ?_ (by rw [R_len]; omega)
    · obtain ⟨rs, S2, e2, l2, q2, p2⟩ := key
      rw [R_len] at l2 p2
      refine ⟨[.val (.ref j), .val (.int s), .val (.int k), .val (.int m), .val (.int q), .own (.lst (acc ++ [.tup rs])), .val (.int i), .none, .none], S2, .nx, ?_, .inl rfl, acc ++ [.tup rs], _, rfl, by simp [asL_ap, fBinL_ap, fLst_ap, fFl_ap, fl_tup, fl_lst, all_mapT, ln_tup, ln_lst, ln_fz, tu_lst, tu_tup, it_tup, it_lst, it_fz, sq_tup, sq_lst, bindT_v, lockF, lockS, wipeF, run_ap, outO_rt, outO_nx, outO_ite, evC, evE, evB, evEs, evPs, evT, evTs, evI, evF, frame0, asP, asQ, mbind_ap, bindO_ok, bindO_ite, ite_ap, mret_ap, mopt_some, lift0_ap, liftO_ok, take_val, peek_val, peek_own, peek_lck, take_own, mval_int, mval_str, mval_bl, mval_non, mval_tup, mval_lst, mval_fz, mresL_v, mvals, cLt, cLe, cGt, cGe, cEqI, cNeI, cEqB, cIs, cIsNot, isNon, tBo, tIn, tNo, tTu, tLi, xT, xL, xF, omap_some, ok0, ok2, ok3, hl], ?_, p2.mono (by omega)⟩
      · have ca := addTo_ok (l := acc) (l' := [D.tup rs]) (by simp [asL_ap, fBinL_ap, fLst_ap, fFl_ap, fl_tup, fl_lst, all_mapT, ln_tup, ln_lst, ln_fz, tu_lst, tu_tup, it_tup, it_lst, it_fz, sq_tup, sq_lst, bindT_v, lockF, lockS, wipeF, run_ap, outO_rt, outO_nx, outO_ite, evC, evE, evB, evEs, evPs, evT, evTs, evI, evF, frame0, asP, asQ, mbind_ap, bindO_ok, bindO_ite, ite_ap, mret_ap, mopt_some, lift0_ap, liftO_ok, take_val, peek_val, peek_own, peek_lck, take_own, mval_int, mval_str, mval_bl, mval_non, mval_tup, mval_lst, mval_fz, mresL_v, mvals, cLt, cLe, cGt, cGe, cEqI, cNeI, cEqB, cIs, cIsNot, isNon, tBo, tIn, tNo, tTu, tLi, xT, xL, xF, omap_some, ok0, ok2, ok3]; omega)
        have cg := fun (ρ : Fr) (S : Store) (h : ρ[5]? = some (.own (.lst acc))) => chg_own (S := S) h ca
        simp [asL_ap, fBinL_ap, fLst_ap, fFl_ap, fl_tup, fl_lst, all_mapT, ln_tup, ln_lst, ln_fz, tu_lst, tu_tup, it_tup, it_lst, it_fz, sq_tup, sq_lst, bindT_v, lockF, lockS, wipeF, run_ap, outO_rt, outO_nx, outO_ite, evC, evE, evB, evEs, evPs, evT, evTs, evI, evF, frame0, asP, asQ, mbind_ap, bindO_ok, bindO_ite, ite_ap, mret_ap, mopt_some, lift0_ap, liftO_ok, take_val, peek_val, peek_own, peek_lck, take_own, mval_int, mval_str, mval_bl, mval_non, mval_tup, mval_lst, mval_fz, mresL_v, mvals, cLt, cLe, cGt, cGe, cEqI, cNeI, cEqB, cIs, cIsNot, isNon, tBo, tIn, tNo, tTu, tLi, xT, xL, xF, omap_some, ok0, ok2, ok3, b__law_saying_2, c__law_saying_1, e2, cg, mval_own]
      · intro r hr'
        rcases List.mem_append.mp hr' with hr' | hr'
        · exact hr r hr'
        · rw [List.mem_singleton.mp hr']
          exact ⟨rs, rfl, by omega, fun x hx => by
            obtain ⟨g, hg⟩ := List.getElem?_of_mem hx
            exact q2 g x hg⟩
    · intro g d S hd hp
      obtain ⟨rfl, hg⟩ := R_get hd
      have key := lc_inv (cl := callF Pg (n + 2)) (t := .v 7) (own := [7]) (it := .rng1 (.var 2)) (e := .call "_law_room" (.cons (.var 0) (.cons (.var 3) (.cons (.var 4) .nil))) [] .nil) (ρ := [.val (.ref j), .val (.int s), .val (.int k), .val (.int m), .val (.int q), .lck (.lst acc), .val (.int i), .none, .val (.int g)]) (S := S) (l := R k)
        (fun w S => Pot j (N + 200 * i + 20 * g + 2 * w) S) (fun w x => Beh m x) (by simp [asL_ap, fBinL_ap, fLst_ap, fFl_ap, fl_tup, fl_lst, all_mapT, ln_tup, ln_lst, ln_fz, tu_lst, tu_tup, it_tup, it_lst, it_fz, sq_tup, sq_lst, bindT_v, lockF, lockS, wipeF, run_ap, outO_rt, outO_nx, outO_ite, evC, evE, evB, evEs, evPs, evT, evTs, evI, evF, frame0, asP, asQ, mbind_ap, bindO_ok, bindO_ite, ite_ap, mret_ap, mopt_some, lift0_ap, liftO_ok, take_val, peek_val, peek_own, peek_lck, take_own, mval_int, mval_str, mval_bl, mval_non, mval_tup, mval_lst, mval_fz, mresL_v, mvals, cLt, cLe, cGt, cGe, cEqI, cNeI, cEqB, cIs, cIsNot, isNon, tBo, tIn, tNo, tTu, tLi, xT, xL, xF, omap_some, ok0, ok2, ok3, rk]) hp ?_ (by rw [R_len]; omega)
      · obtain ⟨rs, S2, e2, l2, q2, p2⟩ := key
        rw [R_len] at l2 p2
        exact ⟨.tup rs, [.val (.ref j), .val (.int s), .val (.int k), .val (.int m), .val (.int q), .lck (.lst acc), .val (.int i), .none, .val (.int g)], S2, by simp [asL_ap, fBinL_ap, fLst_ap, fFl_ap, fl_tup, fl_lst, all_mapT, ln_tup, ln_lst, ln_fz, tu_lst, tu_tup, it_tup, it_lst, it_fz, sq_tup, sq_lst, bindT_v, lockF, lockS, wipeF, run_ap, outO_rt, outO_nx, outO_ite, evC, evE, evB, evEs, evPs, evT, evTs, evI, evF, frame0, asP, asQ, mbind_ap, bindO_ok, bindO_ite, ite_ap, mret_ap, mopt_some, lift0_ap, liftO_ok, take_val, peek_val, peek_own, peek_lck, take_own, mval_int, mval_str, mval_bl, mval_non, mval_tup, mval_lst, mval_fz, mresL_v, mvals, cLt, cLe, cGt, cGe, cEqI, cNeI, cEqB, cIs, cIsNot, isNon, tBo, tIn, tNo, tTu, tLi, xT, xL, xF, omap_some, ok0, ok2, ok3, c__law_saying_0, e2], ⟨rs, rfl, by omega, fun x hx => by
            obtain ⟨g, hg⟩ := List.getElem?_of_mem hx
            exact q2 g x hg⟩, p2.mono (by omega)⟩
      · intro w d S hd hp
        obtain ⟨rfl, hw⟩ := R_get hd
        obtain ⟨x, S2, e2, q2, p2⟩ := e_room n j _ m q S hp (by omega) h5 (by omega) h7 (by omega)
        exact ⟨x, [.val (.ref j), .val (.int s), .val (.int k), .val (.int m), .val (.int q), .lck (.lst acc), .val (.int i), .val (.int w), .val (.int g)], S2, by simp [asL_ap, fBinL_ap, fLst_ap, fFl_ap, fl_tup, fl_lst, all_mapT, ln_tup, ln_lst, ln_fz, tu_lst, tu_tup, it_tup, it_lst, it_fz, sq_tup, sq_lst, bindT_v, lockF, lockS, wipeF, run_ap, outO_rt, outO_nx, outO_ite, evC, evE, evB, evEs, evPs, evT, evTs, evI, evF, frame0, asP, asQ, mbind_ap, bindO_ok, bindO_ite, ite_ap, mret_ap, mopt_some, lift0_ap, liftO_ok, take_val, peek_val, peek_own, peek_lck, take_own, mval_int, mval_str, mval_bl, mval_non, mval_tup, mval_lst, mval_fz, mresL_v, mvals, cLt, cLe, cGt, cGe, cEqI, cNeI, cEqB, cIs, cIsNot, isNon, tBo, tIn, tNo, tTu, tLi, xT, xL, xF, omap_some, ok0, ok2, ok3, e2], q2, p2.mono (by omega)⟩
theorem e_gwatcher (n : Nat) (j N : Nat) (s k m q : Int) (S : Store) (hp : Pot j N S) (hN : N ≤ 1000000) (h1 : 1 ≤ s) (h2 : s ≤ 9) (h3 : 1 ≤ k) (h4 : k ≤ 9) (h5 : 1 ≤ m) (h6 : m ≤ 100) (h7 : 1 ≤ q) (h8 : q ≤ 9) :
    ∃ v S', (callF Pg (n + 2)).f "_law_watcher" [.ref j, .int s, .int k, .int m, .int q] [] [] S = .ok v S' ∧ Watcher v ∧ Pot j (N + 40000) S' := by
  rw [F_eq find__law_watcher rfl rfl]
  have rm := R_ok (k := m) (by omega) (by omega)
  have rs := R_ok (k := s) (by omega) (by omega)
  have rk := R_ok (k := k) (by omega) (by omega)
  have key := for_inv (t := .v 6) (b := evC (callF Pg (n + 1)) Pg.sub b__law_watcher_2) (l := R m) (ρ := [.val (.ref j), .val (.int s), .val (.int k), .val (.int m), .val (.int q), .own (.lst []), .none, .none, .none, .none, .none, .none]) (S := S)
    (P := fun i ρ S' => ∃ acc a b c d e f, ρ = [.val (.ref j), .val (.int s), .val (.int k), .val (.int m), .val (.int q), .own (.lst acc), a, b, c, d, e, f] ∧ acc.length = i ∧ (∀ r ∈ acc, Row s (Row k (Cell k m)) r) ∧ Pot j (N + 400 * i) S') ⟨[], _, _, _, _, _, _, rfl, rfl, by simp [asL_ap, fBinL_ap, fLst_ap, fFl_ap, fl_tup, fl_lst, all_mapT, ln_tup, ln_lst, ln_fz, tu_lst, tu_tup, it_tup, it_lst, it_fz, sq_tup, sq_lst, bindT_v, lockF, lockS, wipeF, run_ap, outO_rt, outO_nx, outO_ite, evC, evE, evB, evEs, evPs, evT, evTs, evI, evF, frame0, asP, asQ, mbind_ap, bindO_ok, bindO_ite, ite_ap, mret_ap, mopt_some, lift0_ap, liftO_ok, take_val, peek_val, peek_own, peek_lck, take_own, mval_int, mval_str, mval_bl, mval_non, mval_tup, mval_lst, mval_fz, mresL_v, mvals, cLt, cLe, cGt, cGe, cEqI, cNeI, cEqB, cIs, cIsNot, isNon, tBo, tIn, tNo, tTu, tLi, xT, xL, xF, omap_some, ok0, ok2, ok3], hp⟩ ?_
  · obtain ⟨ρ', S', e, acc, a, b, c, d, e1, f, rfl, hl, hr, hp'⟩ := key
    rw [R_len] at hl hp'
    refine ⟨.tup [.int s, .int k, .tup acc], S', ?_, ⟨s, k, acc, rfl, h1, h2, h3, h4, by omega, by omega, fun r hr' => ?_⟩, hp'.mono (by omega)⟩
    · simp [asL_ap, fBinL_ap, fLst_ap, fFl_ap, fl_tup, fl_lst, all_mapT, ln_tup, ln_lst, ln_fz, tu_lst, tu_tup, it_tup, it_lst, it_fz, sq_tup, sq_lst, bindT_v, lockF, lockS, wipeF, run_ap, outO_rt, outO_nx, outO_ite, evC, evE, evB, evEs, evPs, evT, evTs, evI, evF, frame0, asP, asQ, mbind_ap, bindO_ok, bindO_ite, ite_ap, mret_ap, mopt_some, lift0_ap, liftO_ok, take_val, peek_val, peek_own, peek_lck, take_own, mval_int, mval_str, mval_bl, mval_non, mval_tup, mval_lst, mval_fz, mresL_v, mvals, cLt, cLe, cGt, cGe, cEqI, cNeI, cEqB, cIs, cIsNot, isNon, tBo, tIn, tNo, tTu, tLi, xT, xL, xF, omap_some, ok0, ok2, ok3, f__law_watcher, b__law_watcher, rm, e, mval_own]
    · have e : ((acc.length : Nat) : Int) = m := by omega
      rw [e]
      exact hr r hr'
  · rintro i d ρ S hd ⟨acc, a, b, c, d, e, f, rfl, hl, hr, hp⟩
    obtain ⟨rfl, hi⟩ := R_get hd
    have key := for_inv (t := .v 8) (b := evC (callF Pg (n + 1)) Pg.sub b__law_watcher_1) (l := R s) (ρ := [.val (.ref j), .val (.int s), .val (.int k), .val (.int m), .val (.int q), .own (.lst acc), .val (.int i), .own (.lst []), c, d, e, f]) (S := S)
      (P := fun g ρ S' => ∃ row c d e f, ρ = [.val (.ref j), .val (.int s), .val (.int k), .val (.int m), .val (.int q), .own (.lst acc), .val (.int i), .own (.lst row), c, d, e, f] ∧ row.length = g ∧ (∀ r ∈ row, Row k (Cell k m) r) ∧ Pot j (N + 400 * i + 40 * g) S') ⟨[], _, _, _, _, rfl, rfl, by simp [asL_ap, fBinL_ap, fLst_ap, fFl_ap, fl_tup, fl_lst, all_mapT, ln_tup, ln_lst, ln_fz, tu_lst, tu_tup, it_tup, it_lst, it_fz, sq_tup, sq_lst, bindT_v, lockF, lockS, wipeF, run_ap, outO_rt, outO_nx, outO_ite, evC, evE, evB, evEs, evPs, evT, evTs, evI, evF, frame0, asP, asQ, mbind_ap, bindO_ok, bindO_ite, ite_ap, mret_ap, mopt_some, lift0_ap, liftO_ok, take_val, peek_val, peek_own, peek_lck, take_own, mval_int, mval_str, mval_bl, mval_non, mval_tup, mval_lst, mval_fz, mresL_v, mvals, cLt, cLe, cGt, cGe, cEqI, cNeI, cEqB, cIs, cIsNot, isNon, tBo, tIn, tNo, tTu, tLi, xT, xL, xF, omap_some, ok0, ok2, ok3], hp⟩ ?_
    · obtain ⟨ρ', S', e, row, c2, d2, e1, f2, rfl, hl2, hr2, hp'⟩ := key
      rw [R_len] at hl2 hp'
      have ca := addTo_ok (l := acc) (l' := [D.tup row]) (by simp [asL_ap, fBinL_ap, fLst_ap, fFl_ap, fl_tup, fl_lst, all_mapT, ln_tup, ln_lst, ln_fz, tu_lst, tu_tup, it_tup, it_lst, it_fz, sq_tup, sq_lst, bindT_v, lockF, lockS, wipeF, run_ap, outO_rt, outO_nx, outO_ite, evC, evE, evB, evEs, evPs, evT, evTs, evI, evF, frame0, asP, asQ, mbind_ap, bindO_ok, bindO_ite, ite_ap, mret_ap, mopt_some, lift0_ap, liftO_ok, take_val, peek_val, peek_own, peek_lck, take_own, mval_int, mval_str, mval_bl, mval_non, mval_tup, mval_lst, mval_fz, mresL_v, mvals, cLt, cLe, cGt, cGe, cEqI, cNeI, cEqB, cIs, cIsNot, isNon, tBo, tIn, tNo, tTu, tLi, xT, xL, xF, omap_some, ok0, ok2, ok3]; omega)
      have cg := fun (ρ : Fr) (S : Store) (h : ρ[5]? = some (.own (.lst acc))) => chg_own (S := S) h ca
      refine ⟨[.val (.ref j), .val (.int s), .val (.int k), .val (.int m), .val (.int q), .own (.lst (acc ++ [.tup row])), .val (.int i), .own (.lst row), c2, d2, e1, f2], S', .nx, ?_, .inl rfl, acc ++ [.tup row], _, _, _, _, _, _, rfl, by simp [asL_ap, fBinL_ap, fLst_ap, fFl_ap, fl_tup, fl_lst, all_mapT, ln_tup, ln_lst, ln_fz, tu_lst, tu_tup, it_tup, it_lst, it_fz, sq_tup, sq_lst, bindT_v, lockF, lockS, wipeF, run_ap, outO_rt, outO_nx, outO_ite, evC, evE, evB, evEs, evPs, evT, evTs, evI, evF, frame0, asP, asQ, mbind_ap, bindO_ok, bindO_ite, ite_ap, mret_ap, mopt_some, lift0_ap, liftO_ok, take_val, peek_val, peek_own, peek_lck, take_own, mval_int, mval_str, mval_bl, mval_non, mval_tup, mval_lst, mval_fz, mresL_v, mvals, cLt, cLe, cGt, cGe, cEqI, cNeI, cEqB, cIs, cIsNot, isNon, tBo, tIn, tNo, tTu, tLi, xT, xL, xF, omap_some, ok0, ok2, ok3, hl], ?_, hp'.mono (by omega)⟩
      · simp [asL_ap, fBinL_ap, fLst_ap, fFl_ap, fl_tup, fl_lst, all_mapT, ln_tup, ln_lst, ln_fz, tu_lst, tu_tup, it_tup, it_lst, it_fz, sq_tup, sq_lst, bindT_v, lockF, lockS, wipeF, run_ap, outO_rt, outO_nx, outO_ite, evC, evE, evB, evEs, evPs, evT, evTs, evI, evF, frame0, asP, asQ, mbind_ap, bindO_ok, bindO_ite, ite_ap, mret_ap, mopt_some, lift0_ap, liftO_ok, take_val, peek_val, peek_own, peek_lck, take_own, mval_int, mval_str, mval_bl, mval_non, mval_tup, mval_lst, mval_fz, mresL_v, mvals, cLt, cLe, cGt, cGe, cEqI, cNeI, cEqB, cIs, cIsNot, isNon, tBo, tIn, tNo, tTu, tLi, xT, xL, xF, omap_some, ok0, ok2, ok3, b__law_watcher_2, rs, e, cg, mval_own]
      · intro r hr'
        rcases List.mem_append.mp hr' with hr' | hr'
        · exact hr r hr'
        · rw [List.mem_singleton.mp hr']
          exact ⟨row, rfl, by omega, hr2⟩
    · rintro g x ρ S hd ⟨row, c, d, e, f, rfl, hl2, hr2, hp⟩
      obtain ⟨rfl, hg⟩ := R_get hd
      have key := for_inv (t := .v 10) (b := evC (callF Pg (n + 1)) Pg.sub b__law_watcher_0) (l := R k) (ρ := [.val (.ref j), .val (.int s), .val (.int k), .val (.int m), .val (.int q), .own (.lst acc), .val (.int i), .own (.lst row), .val (.int g), .own (.lst []), e, f]) (S := S)
        (P := fun w ρ S' => ∃ cells e f, ρ = [.val (.ref j), .val (.int s), .val (.int k), .val (.int m), .val (.int q), .own (.lst acc), .val (.int i), .own (.lst row), .val (.int g), .own (.lst cells), e, f] ∧ cells.length = w ∧ (∀ r ∈ cells, Cell k m r) ∧ Pot j (N + 400 * i + 40 * g + 4 * w) S') ⟨[], _, _, rfl, rfl, by simp [asL_ap, fBinL_ap, fLst_ap, fFl_ap, fl_tup, fl_lst, all_mapT, ln_tup, ln_lst, ln_fz, tu_lst, tu_tup, it_tup, it_lst, it_fz, sq_tup, sq_lst, bindT_v, lockF, lockS, wipeF, run_ap, outO_rt, outO_nx, outO_ite, evC, evE, evB, evEs, evPs, evT, evTs, evI, evF, frame0, asP, asQ, mbind_ap, bindO_ok, bindO_ite, ite_ap, mret_ap, mopt_some, lift0_ap, liftO_ok, take_val, peek_val, peek_own, peek_lck, take_own, mval_int, mval_str, mval_bl, mval_non, mval_tup, mval_lst, mval_fz, mresL_v, mvals, cLt, cLe, cGt, cGe, cEqI, cNeI, cEqB, cIs, cIsNot, isNon, tBo, tIn, tNo, tTu, tLi, xT, xL, xF, omap_some, ok0, ok2, ok3], hp⟩ ?_
      · obtain ⟨ρ', S', e, cells, e1, f2, rfl, hl3, hr3, hp'⟩ := key
        rw [R_len] at hl3 hp'
        have ca := addTo_ok (l := row) (l' := [D.tup cells]) (by simp [asL_ap, fBinL_ap, fLst_ap, fFl_ap, fl_tup, fl_lst, all_mapT, ln_tup, ln_lst, ln_fz, tu_lst, tu_tup, it_tup, it_lst, it_fz, sq_tup, sq_lst, bindT_v, lockF, lockS, wipeF, run_ap, outO_rt, outO_nx, outO_ite, evC, evE, evB, evEs, evPs, evT, evTs, evI, evF, frame0, asP, asQ, mbind_ap, bindO_ok, bindO_ite, ite_ap, mret_ap, mopt_some, lift0_ap, liftO_ok, take_val, peek_val, peek_own, peek_lck, take_own, mval_int, mval_str, mval_bl, mval_non, mval_tup, mval_lst, mval_fz, mresL_v, mvals, cLt, cLe, cGt, cGe, cEqI, cNeI, cEqB, cIs, cIsNot, isNon, tBo, tIn, tNo, tTu, tLi, xT, xL, xF, omap_some, ok0, ok2, ok3]; omega)
        have cg := fun (ρ : Fr) (S : Store) (h : ρ[7]? = some (.own (.lst row))) => chg_own (S := S) h ca
        refine ⟨[.val (.ref j), .val (.int s), .val (.int k), .val (.int m), .val (.int q), .own (.lst acc), .val (.int i), .own (.lst (row ++ [.tup cells])), .val (.int g), .own (.lst cells), e1, f2], S', .nx, ?_, .inl rfl, row ++ [.tup cells], _, _, _, _, rfl, by simp [asL_ap, fBinL_ap, fLst_ap, fFl_ap, fl_tup, fl_lst, all_mapT, ln_tup, ln_lst, ln_fz, tu_lst, tu_tup, it_tup, it_lst, it_fz, sq_tup, sq_lst, bindT_v, lockF, lockS, wipeF, run_ap, outO_rt, outO_nx, outO_ite, evC, evE, evB, evEs, evPs, evT, evTs, evI, evF, frame0, asP, asQ, mbind_ap, bindO_ok, bindO_ite, ite_ap, mret_ap, mopt_some, lift0_ap, liftO_ok, take_val, peek_val, peek_own, peek_lck, take_own, mval_int, mval_str, mval_bl, mval_non, mval_tup, mval_lst, mval_fz, mresL_v, mvals, cLt, cLe, cGt, cGe, cEqI, cNeI, cEqB, cIs, cIsNot, isNon, tBo, tIn, tNo, tTu, tLi, xT, xL, xF, omap_some, ok0, ok2, ok3, hl2], ?_, hp'.mono (by omega)⟩
        · simp [asL_ap, fBinL_ap, fLst_ap, fFl_ap, fl_tup, fl_lst, all_mapT, ln_tup, ln_lst, ln_fz, tu_lst, tu_tup, it_tup, it_lst, it_fz, sq_tup, sq_lst, bindT_v, lockF, lockS, wipeF, run_ap, outO_rt, outO_nx, outO_ite, evC, evE, evB, evEs, evPs, evT, evTs, evI, evF, frame0, asP, asQ, mbind_ap, bindO_ok, bindO_ite, ite_ap, mret_ap, mopt_some, lift0_ap, liftO_ok, take_val, peek_val, peek_own, peek_lck, take_own, mval_int, mval_str, mval_bl, mval_non, mval_tup, mval_lst, mval_fz, mresL_v, mvals, cLt, cLe, cGt, cGe, cEqI, cNeI, cEqB, cIs, cIsNot, isNon, tBo, tIn, tNo, tTu, tLi, xT, xL, xF, omap_some, ok0, ok2, ok3, b__law_watcher_1, rk, e, cg, mval_own]
        · intro r hr'
          rcases List.mem_append.mp hr' with hr' | hr'
          · exact hr2 r hr'
          · rw [List.mem_singleton.mp hr']
            exact ⟨cells, rfl, by omega, hr3⟩
      · rintro w x ρ S hd ⟨cells, e, f, rfl, hl3, hr3, hp⟩
        obtain ⟨rfl, hw⟩ := R_get hd
        obtain ⟨v, S1, e1, v1, v2, p1⟩ := e_take n j _ q S hp (by omega) h7 (by omega)
        by_cases h0 : v = 0
        · subst h0
          obtain ⟨y, S2, e2, y1, y2, p2⟩ := e_take n j _ k S1 p1 (by omega) h3 (by omega)
          obtain ⟨z, S3, e3, z1, z2, p3⟩ := e_take n j _ m S2 p2 (by omega) h5 (by omega)
          have ca := addTo_ok (l := cells) (l' := [D.tup [.int y, .int z]]) (by simp [asL_ap, fBinL_ap, fLst_ap, fFl_ap, fl_tup, fl_lst, all_mapT, ln_tup, ln_lst, ln_fz, tu_lst, tu_tup, it_tup, it_lst, it_fz, sq_tup, sq_lst, bindT_v, lockF, lockS, wipeF, run_ap, outO_rt, outO_nx, outO_ite, evC, evE, evB, evEs, evPs, evT, evTs, evI, evF, frame0, asP, asQ, mbind_ap, bindO_ok, bindO_ite, ite_ap, mret_ap, mopt_some, lift0_ap, liftO_ok, take_val, peek_val, peek_own, peek_lck, take_own, mval_int, mval_str, mval_bl, mval_non, mval_tup, mval_lst, mval_fz, mresL_v, mvals, cLt, cLe, cGt, cGe, cEqI, cNeI, cEqB, cIs, cIsNot, isNon, tBo, tIn, tNo, tTu, tLi, xT, xL, xF, omap_some, ok0, ok2, ok3]; omega)
          have cg := fun (ρ : Fr) (S : Store) (h : ρ[9]? = some (.own (.lst cells))) => chg_own (S := S) h ca
          refine ⟨[.val (.ref j), .val (.int s), .val (.int k), .val (.int m), .val (.int q), .own (.lst acc), .val (.int i), .own (.lst row), .val (.int g), .own (.lst (cells ++ [D.tup [.int y, .int z]])), .val (.int w), .val (.int y)], S3, .nx, ?_, .inl rfl, _, _, _, rfl, by simp [asL_ap, fBinL_ap, fLst_ap, fFl_ap, fl_tup, fl_lst, all_mapT, ln_tup, ln_lst, ln_fz, tu_lst, tu_tup, it_tup, it_lst, it_fz, sq_tup, sq_lst, bindT_v, lockF, lockS, wipeF, run_ap, outO_rt, outO_nx, outO_ite, evC, evE, evB, evEs, evPs, evT, evTs, evI, evF, frame0, asP, asQ, mbind_ap, bindO_ok, bindO_ite, ite_ap, mret_ap, mopt_some, lift0_ap, liftO_ok, take_val, peek_val, peek_own, peek_lck, take_own, mval_int, mval_str, mval_bl, mval_non, mval_tup, mval_lst, mval_fz, mresL_v, mvals, cLt, cLe, cGt, cGe, cEqI, cNeI, cEqB, cIs, cIsNot, isNon, tBo, tIn, tNo, tTu, tLi, xT, xL, xF, omap_some, ok0, ok2, ok3, hl3], ?_, p3.mono (by omega)⟩
          · simp [asL_ap, fBinL_ap, fLst_ap, fFl_ap, fl_tup, fl_lst, all_mapT, ln_tup, ln_lst, ln_fz, tu_lst, tu_tup, it_tup, it_lst, it_fz, sq_tup, sq_lst, bindT_v, lockF, lockS, wipeF, run_ap, outO_rt, outO_nx, outO_ite, evC, evE, evB, evEs, evPs, evT, evTs, evI, evF, frame0, asP, asQ, mbind_ap, bindO_ok, bindO_ite, ite_ap, mret_ap, mopt_some, lift0_ap, liftO_ok, take_val, peek_val, peek_own, peek_lck, take_own, mval_int, mval_str, mval_bl, mval_non, mval_tup, mval_lst, mval_fz, mresL_v, mvals, cLt, cLe, cGt, cGe, cEqI, cNeI, cEqB, cIs, cIsNot, isNon, tBo, tIn, tNo, tTu, tLi, xT, xL, xF, omap_some, ok0, ok2, ok3, b__law_watcher_0, e1, e2, e3, cg, mval_own]
          · intro r hr'
            rcases List.mem_append.mp hr' with hr' | hr'
            · exact hr3 r hr'
            · rw [List.mem_singleton.mp hr']
              exact ⟨y, z, rfl, y1, y2, z1, z2⟩
        · obtain ⟨z, S3, e3, z1, z2, p3⟩ := e_take n j _ m S1 p1 (by omega) h5 (by omega)
          have ca := addTo_ok (l := cells) (l' := [D.tup [.int w, .int z]]) (by simp [asL_ap, fBinL_ap, fLst_ap, fFl_ap, fl_tup, fl_lst, all_mapT, ln_tup, ln_lst, ln_fz, tu_lst, tu_tup, it_tup, it_lst, it_fz, sq_tup, sq_lst, bindT_v, lockF, lockS, wipeF, run_ap, outO_rt, outO_nx, outO_ite, evC, evE, evB, evEs, evPs, evT, evTs, evI, evF, frame0, asP, asQ, mbind_ap, bindO_ok, bindO_ite, ite_ap, mret_ap, mopt_some, lift0_ap, liftO_ok, take_val, peek_val, peek_own, peek_lck, take_own, mval_int, mval_str, mval_bl, mval_non, mval_tup, mval_lst, mval_fz, mresL_v, mvals, cLt, cLe, cGt, cGe, cEqI, cNeI, cEqB, cIs, cIsNot, isNon, tBo, tIn, tNo, tTu, tLi, xT, xL, xF, omap_some, ok0, ok2, ok3]; omega)
          have cg := fun (ρ : Fr) (S : Store) (h : ρ[9]? = some (.own (.lst cells))) => chg_own (S := S) h ca
          refine ⟨[.val (.ref j), .val (.int s), .val (.int k), .val (.int m), .val (.int q), .own (.lst acc), .val (.int i), .own (.lst row), .val (.int g), .own (.lst (cells ++ [D.tup [.int w, .int z]])), .val (.int w), .val (.int w)], S3, .nx, ?_, .inl rfl, _, _, _, rfl, by simp [asL_ap, fBinL_ap, fLst_ap, fFl_ap, fl_tup, fl_lst, all_mapT, ln_tup, ln_lst, ln_fz, tu_lst, tu_tup, it_tup, it_lst, it_fz, sq_tup, sq_lst, bindT_v, lockF, lockS, wipeF, run_ap, outO_rt, outO_nx, outO_ite, evC, evE, evB, evEs, evPs, evT, evTs, evI, evF, frame0, asP, asQ, mbind_ap, bindO_ok, bindO_ite, ite_ap, mret_ap, mopt_some, lift0_ap, liftO_ok, take_val, peek_val, peek_own, peek_lck, take_own, mval_int, mval_str, mval_bl, mval_non, mval_tup, mval_lst, mval_fz, mresL_v, mvals, cLt, cLe, cGt, cGe, cEqI, cNeI, cEqB, cIs, cIsNot, isNon, tBo, tIn, tNo, tTu, tLi, xT, xL, xF, omap_some, ok0, ok2, ok3, hl3], ?_, p3.mono (by omega)⟩
          · simp [asL_ap, fBinL_ap, fLst_ap, fFl_ap, fl_tup, fl_lst, all_mapT, ln_tup, ln_lst, ln_fz, tu_lst, tu_tup, it_tup, it_lst, it_fz, sq_tup, sq_lst, bindT_v, lockF, lockS, wipeF, run_ap, outO_rt, outO_nx, outO_ite, evC, evE, evB, evEs, evPs, evT, evTs, evI, evF, frame0, asP, asQ, mbind_ap, bindO_ok, bindO_ite, ite_ap, mret_ap, mopt_some, lift0_ap, liftO_ok, take_val, peek_val, peek_own, peek_lck, take_own, mval_int, mval_str, mval_bl, mval_non, mval_tup, mval_lst, mval_fz, mresL_v, mvals, cLt, cLe, cGt, cGe, cEqI, cNeI, cEqB, cIs, cIsNot, isNon, tBo, tIn, tNo, tTu, tLi, xT, xL, xF, omap_some, ok0, ok2, ok3, b__law_watcher_0, e1, h0, e3, cg, mval_own]
          · intro r hr'
            rcases List.mem_append.mp hr' with hr' | hr'
            · exact hr3 r hr'
            · rw [List.mem_singleton.mp hr']
              exact ⟨w, z, rfl, by omega, hw, z1, z2⟩
theorem e_gmachine (n : Nat) (j N : Nat) (s k m : Int) (S : Store) (hp : Pot j N S) (hN : N ≤ 1000000) (h1 : 1 ≤ s) (h2 : s ≤ 9) (h3 : 1 ≤ k) (h4 : k ≤ 9) (h5 : 1 ≤ m) (h6 : m ≤ 100) :
    ∃ v S', (callF Pg (n + 2)).f "_law_machine" [.ref j, .int s, .int k, .int m] [] [] S = .ok v S' ∧ Machine v ∧ Pot j (N + 2000) S' := by
  rw [F_eq find__law_machine rfl rfl]
  have rm := R_ok (k := m) (by omega) (by omega)
  have rs := R_ok (k := s) (by omega) (by omega)
  have key := for_inv (t := .v 5) (b := evC (callF Pg (n + 1)) Pg.sub b__law_machine_1) (l := R m) (ρ := [.val (.ref j), .val (.int s), .val (.int k), .val (.int m), .own (.lst []), .none, .none]) (S := S)
    (P := fun i ρ S' => ∃ acc a, ρ = [.val (.ref j), .val (.int s), .val (.int k), .val (.int m), .own (.lst acc), a, .none] ∧ acc.length = i ∧ (∀ r ∈ acc, Row s (Cell k m) r) ∧ Pot j (N + 20 * i) S') ⟨[], _, rfl, rfl, by simp [asL_ap, fBinL_ap, fLst_ap, fFl_ap, fl_tup, fl_lst, all_mapT, ln_tup, ln_lst, ln_fz, tu_lst, tu_tup, it_tup, it_lst, it_fz, sq_tup, sq_lst, bindT_v, lockF, lockS, wipeF, run_ap, outO_rt, outO_nx, outO_ite, evC, evE, evB, evEs, evPs, evT, evTs, evI, evF, frame0, asP, asQ, mbind_ap, bindO_ok, bindO_ite, ite_ap, mret_ap, mopt_some, lift0_ap, liftO_ok, take_val, peek_val, peek_own, peek_lck, take_own, mval_int, mval_str, mval_bl, mval_non, mval_tup, mval_lst, mval_fz, mresL_v, mvals, cLt, cLe, cGt, cGe, cEqI, cNeI, cEqB, cIs, cIsNot, isNon, tBo, tIn, tNo, tTu, tLi, xT, xL, xF, omap_some, ok0, ok2, ok3], hp⟩ ?_
  · obtain ⟨ρ', S', e, acc, a, rfl, hl, hr, hp'⟩ := key
    rw [R_len] at hl hp'
    refine ⟨.tup [.int s, .int k, .tup acc], S', ?_, ⟨s, k, acc, rfl, h1, h2, h3, h4, by omega, by omega, fun r hr' => ?_⟩, hp'.mono (by omega)⟩
    · simp [asL_ap, fBinL_ap, fLst_ap, fFl_ap, fl_tup, fl_lst, all_mapT, ln_tup, ln_lst, ln_fz, tu_lst, tu_tup, it_tup, it_lst, it_fz, sq_tup, sq_lst, bindT_v, lockF, lockS, wipeF, run_ap, outO_rt, outO_nx, outO_ite, evC, evE, evB, evEs, evPs, evT, evTs, evI, evF, frame0, asP, asQ, mbind_ap, bindO_ok, bindO_ite, ite_ap, mret_ap, mopt_some, lift0_ap, liftO_ok, take_val, peek_val, peek_own, peek_lck, take_own, mval_int, mval_str, mval_bl, mval_non, mval_tup, mval_lst, mval_fz, mresL_v, mvals, cLt, cLe, cGt, cGe, cEqI, cNeI, cEqB, cIs, cIsNot, isNon, tBo, tIn, tNo, tTu, tLi, xT, xL, xF, omap_some, ok0, ok2, ok3, f__law_machine, b__law_machine, rm, e, mval_own]
    · have e : ((acc.length : Nat) : Int) = m := by omega
      rw [e]
      exact hr r hr'
  · rintro i d ρ S hd ⟨acc, a, rfl, hl, hr, hp⟩
    obtain ⟨rfl, hi⟩ := R_get hd
    have key := lc_inv (cl := callF Pg (n + 1)) (t := .v 6) (own := [6]) (it := .rng1 (.var 1)) (e := .tup (.cons (.call "_law_take" (.cons (.var 0) (.cons (.var 2) .nil)) [] .nil) (.cons (.call "_law_take" (.cons (.var 0) (.cons (.var 3) .nil)) [] .nil) .nil))) (ρ := [.val (.ref j), .val (.int s), .val (.int k), .val (.int m), .own (.lst acc), .val (.int i), .none]) (S := S) (l := R s)
      (fun g S => Pot j (N + 20 * i + 2 * g) S) (fun w x => Cell k m x) (by simp [asL_ap, fBinL_ap, fLst_ap, fFl_ap, fl_tup, fl_lst, all_mapT, ln_tup, ln_lst, ln_fz, tu_lst, tu_tup, it_tup, it_lst, it_fz, sq_tup, sq_lst, bindT_v, lockF, lockS, wipeF, run_ap, outO_rt, outO_nx, outO_ite, evC, evE, evB, evEs, evPs, evT, evTs, evI, evF, frame0, asP, asQ, mbind_ap, bindO_ok, bindO_ite, ite_ap, mret_ap, mopt_some, lift0_ap, liftO_ok, take_val, peek_val, peek_own, peek_lck, take_own, mval_int, mval_str, mval_bl, mval_non, mval_tup, mval_lst, mval_fz, mresL_v, mvals, cLt, cLe, cGt, cGe, cEqI, cNeI, cEqB, cIs, cIsNot, isNon, tBo, tIn, tNo, tTu, tLi, xT, xL, xF, omap_some, ok0, ok2, ok3, rs]) hp ?_ (by rw [R_len]; omega)
    · obtain ⟨rs, S2, e2, l2, q2, p2⟩ := key
      rw [R_len] at l2 p2
      refine ⟨[.val (.ref j), .val (.int s), .val (.int k), .val (.int m), .own (.lst (acc ++ [.tup rs])), .val (.int i), .none], S2, .nx, ?_, .inl rfl, acc ++ [.tup rs], _, rfl, by simp [asL_ap, fBinL_ap, fLst_ap, fFl_ap, fl_tup, fl_lst, all_mapT, ln_tup, ln_lst, ln_fz, tu_lst, tu_tup, it_tup, it_lst, it_fz, sq_tup, sq_lst, bindT_v, lockF, lockS, wipeF, run_ap, outO_rt, outO_nx, outO_ite, evC, evE, evB, evEs, evPs, evT, evTs, evI, evF, frame0, asP, asQ, mbind_ap, bindO_ok, bindO_ite, ite_ap, mret_ap, mopt_some, lift0_ap, liftO_ok, take_val, peek_val, peek_own, peek_lck, take_own, mval_int, mval_str, mval_bl, mval_non, mval_tup, mval_lst, mval_fz, mresL_v, mvals, cLt, cLe, cGt, cGe, cEqI, cNeI, cEqB, cIs, cIsNot, isNon, tBo, tIn, tNo, tTu, tLi, xT, xL, xF, omap_some, ok0, ok2, ok3, hl], ?_, p2.mono (by omega)⟩
      · have ca := addTo_ok (l := acc) (l' := [D.tup rs]) (by simp [asL_ap, fBinL_ap, fLst_ap, fFl_ap, fl_tup, fl_lst, all_mapT, ln_tup, ln_lst, ln_fz, tu_lst, tu_tup, it_tup, it_lst, it_fz, sq_tup, sq_lst, bindT_v, lockF, lockS, wipeF, run_ap, outO_rt, outO_nx, outO_ite, evC, evE, evB, evEs, evPs, evT, evTs, evI, evF, frame0, asP, asQ, mbind_ap, bindO_ok, bindO_ite, ite_ap, mret_ap, mopt_some, lift0_ap, liftO_ok, take_val, peek_val, peek_own, peek_lck, take_own, mval_int, mval_str, mval_bl, mval_non, mval_tup, mval_lst, mval_fz, mresL_v, mvals, cLt, cLe, cGt, cGe, cEqI, cNeI, cEqB, cIs, cIsNot, isNon, tBo, tIn, tNo, tTu, tLi, xT, xL, xF, omap_some, ok0, ok2, ok3]; omega)
        have cg := fun (ρ : Fr) (S : Store) (h : ρ[4]? = some (.own (.lst acc))) => chg_own (S := S) h ca
        simp [asL_ap, fBinL_ap, fLst_ap, fFl_ap, fl_tup, fl_lst, all_mapT, ln_tup, ln_lst, ln_fz, tu_lst, tu_tup, it_tup, it_lst, it_fz, sq_tup, sq_lst, bindT_v, lockF, lockS, wipeF, run_ap, outO_rt, outO_nx, outO_ite, evC, evE, evB, evEs, evPs, evT, evTs, evI, evF, frame0, asP, asQ, mbind_ap, bindO_ok, bindO_ite, ite_ap, mret_ap, mopt_some, lift0_ap, liftO_ok, take_val, peek_val, peek_own, peek_lck, take_own, mval_int, mval_str, mval_bl, mval_non, mval_tup, mval_lst, mval_fz, mresL_v, mvals, cLt, cLe, cGt, cGe, cEqI, cNeI, cEqB, cIs, cIsNot, isNon, tBo, tIn, tNo, tTu, tLi, xT, xL, xF, omap_some, ok0, ok2, ok3, b__law_machine_1, c__law_machine_0, e2, cg, mval_own]
      · intro r hr'
        rcases List.mem_append.mp hr' with hr' | hr'
        · exact hr r hr'
        · rw [List.mem_singleton.mp hr']
          exact ⟨rs, rfl, by omega, fun x hx => by
            obtain ⟨g, hg⟩ := List.getElem?_of_mem hx
            exact q2 g x hg⟩
    · intro g d S hd hp
      obtain ⟨rfl, hg⟩ := R_get hd
      obtain ⟨v, S1, e1, v1, v2, p1⟩ := e_take n j _ k S hp (by omega) (by omega) (by omega)
      obtain ⟨w, S2, e2, w1, w2, p2⟩ := e_take n j _ m S1 p1 (by omega) (by omega) (by omega)
      exact ⟨.tup [.int v, .int w], [.val (.ref j), .val (.int s), .val (.int k), .val (.int m), .lck (.lst acc), .val (.int i), .val (.int g)], S2, by simp [asL_ap, fBinL_ap, fLst_ap, fFl_ap, fl_tup, fl_lst, all_mapT, ln_tup, ln_lst, ln_fz, tu_lst, tu_tup, it_tup, it_lst, it_fz, sq_tup, sq_lst, bindT_v, lockF, lockS, wipeF, run_ap, outO_rt, outO_nx, outO_ite, evC, evE, evB, evEs, evPs, evT, evTs, evI, evF, frame0, asP, asQ, mbind_ap, bindO_ok, bindO_ite, ite_ap, mret_ap, mopt_some, lift0_ap, liftO_ok, take_val, peek_val, peek_own, peek_lck, take_own, mval_int, mval_str, mval_bl, mval_non, mval_tup, mval_lst, mval_fz, mresL_v, mvals, cLt, cLe, cGt, cGe, cEqI, cNeI, cEqB, cIs, cIsNot, isNon, tBo, tIn, tNo, tTu, tLi, xT, xL, xF, omap_some, ok0, ok2, ok3, e1, e2], ⟨v, w, rfl, v1, v2, w1, w2⟩, p2.mono (by omega)⟩
end K86

namespace K86
open PySem PySem.Spec MP L2 TL
theorem iB {b : Bool} : opBl .int [.bl b] = some (.int (if b then 1 else 0)) := rfl
theorem oI {l : List D} {i : Int} : opIdx (.lst l) (.int i) = atD l i := rfl
theorem oF {l : List D} {i : Int} : opIdx (.fz l) (.int i) = atD l i := rfl
theorem aB {i : Int} : opBl .abs [.int i] = some (.int (if i < 0 then -i else i)) := rfl
theorem e_sizes (n : Nat) (j N : Nat) (S : Store) (hp : Pot j N S) (hN : N ≤ 1000000) :
    ∃ s k m S', (callF Pg (n + 2)).f "_law_sizes" [.ref j] [] [] S = .ok (.tup [.int s, .int k, .int m]) S' ∧ 1 ≤ s ∧ s ≤ 9 ∧ 1 ≤ k ∧ k ≤ 9 ∧ 1 ≤ m ∧ m ≤ 100 ∧ Pot j (N + 4) S' := by
  rw [F_eq find__law_sizes rfl rfl]
  obtain ⟨v, S1, e1, v1, v2, p1⟩ := e_take n j N 8 S hp (by omega) (by omega) (by omega)
  by_cases h0 : v = 0
  · subst h0
    obtain ⟨x, S2, e2, x1, x2, p2⟩ := e_take n j _ 2 S1 p1 (by omega) (by omega) (by omega)
    obtain ⟨y, S3, e3, y1, y2, p3⟩ := e_take n j _ 2 S2 p2 (by omega) (by omega) (by omega)
    obtain ⟨z, S4, e4, z1, z2, p4⟩ := e_take n j _ 100 S3 p3 (by omega) (by omega) (by omega)
    exact ⟨1 + x, 1 + y, 1 + z, S4, by simp [asL_ap, fBinL_ap, fLst_ap, fFl_ap, fl_tup, fl_lst, all_mapT, ln_tup, ln_lst, ln_fz, tu_lst, tu_tup, it_tup, it_lst, it_fz, sq_tup, sq_lst, bindT_v, lockF, lockS, wipeF, run_ap, outO_rt, outO_nx, outO_ite, evC, evE, evB, evEs, evPs, evT, evTs, evI, evF, frame0, asP, asQ, mbind_ap, bindO_ok, bindO_ite, ite_ap, mret_ap, mopt_some, lift0_ap, liftO_ok, take_val, peek_val, peek_own, peek_lck, take_own, mval_int, mval_str, mval_bl, mval_non, mval_tup, mval_lst, mval_fz, mresL_v, mvals, cLt, cLe, cGt, cGe, cEqI, cNeI, cEqB, cIs, cIsNot, isNon, tBo, tIn, tNo, tTu, tLi, xT, xL, xF, omap_some, ok0, ok2, ok3, f__law_sizes, b__law_sizes, e1, e2, e3, e4, bAdd], by omega, by omega, by omega, by omega, by omega, by omega, p4⟩
  · obtain ⟨x, S2, e2, x1, x2, p2⟩ := e_take n j _ 9 S1 p1 (by omega) (by omega) (by omega)
    obtain ⟨y, S3, e3, y1, y2, p3⟩ := e_take n j _ 9 S2 p2 (by omega) (by omega) (by omega)
    obtain ⟨z, S4, e4, z1, z2, p4⟩ := e_take n j _ 5 S3 p3 (by omega) (by omega) (by omega)
    exact ⟨1 + x, 1 + y, 1 + z, S4, by simp [asL_ap, fBinL_ap, fLst_ap, fFl_ap, fl_tup, fl_lst, all_mapT, ln_tup, ln_lst, ln_fz, tu_lst, tu_tup, it_tup, it_lst, it_fz, sq_tup, sq_lst, bindT_v, lockF, lockS, wipeF, run_ap, outO_rt, outO_nx, outO_ite, evC, evE, evB, evEs, evPs, evT, evTs, evI, evF, frame0, asP, asQ, mbind_ap, bindO_ok, bindO_ite, ite_ap, mret_ap, mopt_some, lift0_ap, liftO_ok, take_val, peek_val, peek_own, peek_lck, take_own, mval_int, mval_str, mval_bl, mval_non, mval_tup, mval_lst, mval_fz, mresL_v, mvals, cLt, cLe, cGt, cGe, cEqI, cNeI, cEqB, cIs, cIsNot, isNon, tBo, tIn, tNo, tTu, tLi, xT, xL, xF, omap_some, ok0, ok2, ok3, f__law_sizes, b__law_sizes, e1, h0, e2, e3, e4, bAdd], by omega, by omega, by omega, by omega, by omega, by omega, p4⟩
/-- what is drawn -/
def Thing (kind : Nat) (d : D) : Prop := match kind with
  | 0 => Saying d
  | 1 => Watcher d
  | 2 => Machine d
  | 3 => d = .non ∨ ∃ k : Int, 1 ≤ k ∧ k ≤ 9 ∧ PriceT k d
  | _ => ∃ l : List D, d = .tup l ∧ l.length ≤ 500 ∧ ∀ x ∈ l, Cell 9 9 x
theorem Cell.mono' {s k : Int} {x : D} (h : Cell s k x) (h2 : s ≤ 9) (h4 : k ≤ 9) : Cell 9 9 x := by
  obtain ⟨a, b, rfl, h⟩ := h
  exact ⟨a, b, rfl, by omega, by omega, by omega, by omega⟩
theorem e_thing (n : Nat) (j N kind : Nat) (S : Store) (hp : Pot j N S) (hN : N ≤ 900000) (hk : kind < 5) :
    ∃ v S', (callF Pg (n + 4)).f "_law_thing" [.ref j, .int kind] [] [] S = .ok v S' ∧ Thing kind v ∧ Pot j (N + 50000) S' := by
  rw [F_eq find__law_thing rfl rfl]
  obtain ⟨s, k, m, S1, e1, h1, h2, h3, h4, h5, h6, p1⟩ := e_sizes (n + 1) j N S hp (by omega)
  rcases (show kind = 0 ∨ kind = 1 ∨ kind = 2 ∨ kind = 3 ∨ kind = 4 by omega) with rfl | rfl | rfl | rfl | rfl
  · obtain ⟨x, S2, e2, x1, x2, p2⟩ := e_take (n + 2) j _ 4 S1 p1 (by omega) (by omega) (by omega)
    obtain ⟨v, S3, e3, t, p3⟩ := e_gsaying n j _ s k m (1 + x) S2 p2 (by omega) h1 h2 h3 h4 h5 h6 (by omega) (by omega)
    exact ⟨v, S3, by simp [asL_ap, fBinL_ap, fLst_ap, fFl_ap, fl_tup, fl_lst, all_mapT, ln_tup, ln_lst, ln_fz, tu_lst, tu_tup, it_tup, it_lst, it_fz, sq_tup, sq_lst, bindT_v, lockF, lockS, wipeF, run_ap, outO_rt, outO_nx, outO_ite, evC, evE, evB, evEs, evPs, evT, evTs, evI, evF, frame0, asP, asQ, mbind_ap, bindO_ok, bindO_ite, ite_ap, mret_ap, mopt_some, lift0_ap, liftO_ok, take_val, peek_val, peek_own, peek_lck, take_own, mval_int, mval_str, mval_bl, mval_non, mval_tup, mval_lst, mval_fz, mresL_v, mvals, cLt, cLe, cGt, cGe, cEqI, cNeI, cEqB, cIs, cIsNot, isNon, tBo, tIn, tNo, tTu, tLi, xT, xL, xF, omap_some, ok0, ok2, ok3, f__law_thing, b__law_thing, e1, e2, e3, bAdd, bindT, bindTs], t, p3.mono (by omega)⟩
  · obtain ⟨v, S3, e3, t, p3⟩ := e_gwatcher (n + 1) j _ s k m 1 S1 p1 (by omega) h1 h2 h3 h4 h5 h6 (by omega) (by omega)
    exact ⟨v, S3, by simp [asL_ap, fBinL_ap, fLst_ap, fFl_ap, fl_tup, fl_lst, all_mapT, ln_tup, ln_lst, ln_fz, tu_lst, tu_tup, it_tup, it_lst, it_fz, sq_tup, sq_lst, bindT_v, lockF, lockS, wipeF, run_ap, outO_rt, outO_nx, outO_ite, evC, evE, evB, evEs, evPs, evT, evTs, evI, evF, frame0, asP, asQ, mbind_ap, bindO_ok, bindO_ite, ite_ap, mret_ap, mopt_some, lift0_ap, liftO_ok, take_val, peek_val, peek_own, peek_lck, take_own, mval_int, mval_str, mval_bl, mval_non, mval_tup, mval_lst, mval_fz, mresL_v, mvals, cLt, cLe, cGt, cGe, cEqI, cNeI, cEqB, cIs, cIsNot, isNon, tBo, tIn, tNo, tTu, tLi, xT, xL, xF, omap_some, ok0, ok2, ok3, f__law_thing, b__law_thing, e1, e3, bindT, bindTs], t, p3.mono (by omega)⟩
  · obtain ⟨v, S3, e3, t, p3⟩ := e_gmachine (n + 1) j _ s k m S1 p1 (by omega) h1 h2 h3 h4 h5 h6
    exact ⟨v, S3, by simp [asL_ap, fBinL_ap, fLst_ap, fFl_ap, fl_tup, fl_lst, all_mapT, ln_tup, ln_lst, ln_fz, tu_lst, tu_tup, it_tup, it_lst, it_fz, sq_tup, sq_lst, bindT_v, lockF, lockS, wipeF, run_ap, outO_rt, outO_nx, outO_ite, evC, evE, evB, evEs, evPs, evT, evTs, evI, evF, frame0, asP, asQ, mbind_ap, bindO_ok, bindO_ite, ite_ap, mret_ap, mopt_some, lift0_ap, liftO_ok, take_val, peek_val, peek_own, peek_lck, take_own, mval_int, mval_str, mval_bl, mval_non, mval_tup, mval_lst, mval_fz, mresL_v, mvals, cLt, cLe, cGt, cGe, cEqI, cNeI, cEqB, cIs, cIsNot, isNon, tBo, tIn, tNo, tTu, tLi, xT, xL, xF, omap_some, ok0, ok2, ok3, f__law_thing, b__law_thing, e1, e3, bindT, bindTs], t, p3.mono (by omega)⟩
  · obtain ⟨v, S3, e3, t, p3⟩ := e_prices n j _ k S1 p1 (by omega) h3 h4
    exact ⟨v, S3, by simp [asL_ap, fBinL_ap, fLst_ap, fFl_ap, fl_tup, fl_lst, all_mapT, ln_tup, ln_lst, ln_fz, tu_lst, tu_tup, it_tup, it_lst, it_fz, sq_tup, sq_lst, bindT_v, lockF, lockS, wipeF, run_ap, outO_rt, outO_nx, outO_ite, evC, evE, evB, evEs, evPs, evT, evTs, evI, evF, frame0, asP, asQ, mbind_ap, bindO_ok, bindO_ite, ite_ap, mret_ap, mopt_some, lift0_ap, liftO_ok, take_val, peek_val, peek_own, peek_lck, take_own, mval_int, mval_str, mval_bl, mval_non, mval_tup, mval_lst, mval_fz, mresL_v, mvals, cLt, cLe, cGt, cGe, cEqI, cNeI, cEqB, cIs, cIsNot, isNon, tBo, tIn, tNo, tTu, tLi, xT, xL, xF, omap_some, ok0, ok2, ok3, f__law_thing, b__law_thing, e1, e3, bindT, bindTs], t.imp_right fun t => ⟨k, h3, h4, t⟩, p3.mono (by omega)⟩
  · obtain ⟨x, S2, e2, x1, x2, p2⟩ := e_take (n + 2) j _ 30 S1 p1 (by omega) (by omega) (by omega)
    obtain ⟨y, S3, e3, y1, y2, p3⟩ := e_take (n + 2) j _ 300 S2 p2 (by omega) (by omega) (by omega)
    obtain ⟨z, S4, e4, z1, z2, p4⟩ := e_take (n + 2) j _ 8 S3 p3 (by omega) (by omega) (by omega)
    by_cases h0 : z = 0
    · subst h0
      obtain ⟨l, S5, e5, ⟨l1, l2⟩, p5⟩ := e_run (n + 1) j _ s k y S4 p4 (by omega) h1 h2 h3 h4 (by omega) (by omega)
      exact ⟨.tup l, S5, by simp [asL_ap, fBinL_ap, fLst_ap, fFl_ap, fl_tup, fl_lst, all_mapT, ln_tup, ln_lst, ln_fz, tu_lst, tu_tup, it_tup, it_lst, it_fz, sq_tup, sq_lst, bindT_v, lockF, lockS, wipeF, run_ap, outO_rt, outO_nx, outO_ite, evC, evE, evB, evEs, evPs, evT, evTs, evI, evF, frame0, asP, asQ, mbind_ap, bindO_ok, bindO_ite, ite_ap, mret_ap, mopt_some, lift0_ap, liftO_ok, take_val, peek_val, peek_own, peek_lck, take_own, mval_int, mval_str, mval_bl, mval_non, mval_tup, mval_lst, mval_fz, mresL_v, mvals, cLt, cLe, cGt, cGe, cEqI, cNeI, cEqB, cIs, cIsNot, isNon, tBo, tIn, tNo, tTu, tLi, xT, xL, xF, omap_some, ok0, ok2, ok3, f__law_thing, b__law_thing, e1, e2, e3, e4, e5, bindT, bindTs, atD, ixD, iB, oI], ⟨l, rfl, by omega, fun x hx => (l2 x hx).mono' h2 h4⟩, p5.mono (by omega)⟩
    · obtain ⟨l, S5, e5, ⟨l1, l2⟩, p5⟩ := e_run (n + 1) j _ s k x S4 p4 (by omega) h1 h2 h3 h4 (by omega) (by omega)
      exact ⟨.tup l, S5, by simp [asL_ap, fBinL_ap, fLst_ap, fFl_ap, fl_tup, fl_lst, all_mapT, ln_tup, ln_lst, ln_fz, tu_lst, tu_tup, it_tup, it_lst, it_fz, sq_tup, sq_lst, bindT_v, lockF, lockS, wipeF, run_ap, outO_rt, outO_nx, outO_ite, evC, evE, evB, evEs, evPs, evT, evTs, evI, evF, frame0, asP, asQ, mbind_ap, bindO_ok, bindO_ite, ite_ap, mret_ap, mopt_some, lift0_ap, liftO_ok, take_val, peek_val, peek_own, peek_lck, take_own, mval_int, mval_str, mval_bl, mval_non, mval_tup, mval_lst, mval_fz, mresL_v, mvals, cLt, cLe, cGt, cGe, cEqI, cNeI, cEqB, cIs, cIsNot, isNon, tBo, tIn, tNo, tTu, tLi, xT, xL, xF, omap_some, ok0, ok2, ok3, f__law_thing, b__law_thing, e1, e2, e3, e4, e5, h0, bindT, bindTs, atD, ixD, iB, oI], ⟨l, rfl, by omega, fun x hx => (l2 x hx).mono' h2 h4⟩, p5.mono (by omega)⟩
def b_pot : C := (.seq (.ret (.new (.cons (.bin .Mult (.var 2) (.bl .int (.cons (.cmp .GtE (.var 2) (.bin .Pow (.cst (.int 10)) (.cst (.int 18)))) .nil))) (.cons (.bin .Mod (.bin .Pow (.bin .Add (.bin .Add (.bin .Mod (.var 2) (.cst (.int 2147483629))) (.bin .Mult (.cst (.int 7919)) (.var 1))) (.cst (.int 1))) (.cst (.int 5))) (.cst (.int 2305843009213693951))) (.cons (.cst (.int 0)) .nil))))) .skip)
theorem b_pot_eq : b__law_pot = (.seq (.set (.v 2) (.cst (.int 0))) (.seq (.ite (.cmp .Lt (.var 1) (.bl .len (.cons (.var 0) .nil))) (.seq (.set (.v 2) (.bin .Mod (.bl .abs (.cons (.idx (.var 0) (.var 1)) .nil)) (.bin .Pow (.bin .Pow (.cst (.int 10)) (.cst (.int 60))) (.cst (.int 10))))) .skip) .skip) b_pot)) := rfl
theorem pot_aux (L M T : Int) (p0 : opBin .Pow (.int 10) (.int 60) = some (.int L)) (p1 : opBin .Pow (.int L) (.int 10) = some (.int M)) (p2 : opBin .Pow (.int 10) (.int 18) = some (.int T)) (M0 : 0 < M) (ML : ∀ x : Int, 0 ≤ x → x < M → x.natAbs.log2 ≤ 2048) (n : Nat) (ns : List Int) (k : Nat) (S : Store) (hk : k ≤ 3) :
    ∃ S', (callF Pg (n + 1)).f "_law_pot" [.fz (ns.map D.int), .int k] [] [] S = .ok (.ref S.length) S' ∧ Pot S.length 0 S' := by
  rw [F_eq find__law_pot rfl rfl]
  have m1 : opBin .Mult (.int 7919) (.int k) = some (.int (7919 * k)) := bMul' (by omega) (by omega) (by omega) (by omega)
  have md := fun (x : Int) => bMod (a := x) (b := 2147483629) (by omega)
  have md2 := fun (x : Int) => bMod (a := x) (b := 2305843009213693951) (by omega)
  have core : ∀ x : Int, opBin .Pow (.int (x % 2147483629 + 7919 * k + 1)) (.int 5) = some (.int ((x % 2147483629 + 7919 * k + 1) ^ 5)) := fun x => by
    have := Int.emod_nonneg x (b := 2147483629) (by omega)
    have := Int.emod_lt_of_pos x (b := 2147483629) (by omega)
    exact bPow' (by omega) (by omega) (by omega) (by omega)
  have fin : ∀ x a : Int, 0 ≤ a → Pot S.length 0 (S ++ [.lst [.int a, .int ((x % 2147483629 + 7919 * k + 1) ^ 5 % 2305843009213693951), .int 0]]) := fun x a ha =>
    ⟨a, (x % 2147483629 + 7919 * k + 1) ^ 5 % 2305843009213693951, 0, by simp [asL_ap, fBinL_ap, fLst_ap, fFl_ap, fl_tup, fl_lst, all_mapT, ln_tup, ln_lst, ln_fz, tu_lst, tu_tup, it_tup, it_lst, it_fz, sq_tup, sq_lst, bindT_v, lockF, lockS, wipeF, run_ap, outO_rt, outO_nx, outO_ite, evC, evE, evB, evEs, evPs, evT, evTs, evI, evF, frame0, asP, asQ, mbind_ap, bindO_ok, bindO_ite, ite_ap, mret_ap, mopt_some, lift0_ap, liftO_ok, take_val, peek_val, peek_own, peek_lck, take_own, mval_int, mval_str, mval_bl, mval_non, mval_tup, mval_lst, mval_fz, mresL_v, mvals, cLt, cLe, cGt, cGe, cEqI, cNeI, cEqB, cIs, cIsNot, isNon, tBo, tIn, tNo, tTu, tLi, xT, xL, xF, omap_some, ok0, ok2, ok3], ha, Int.emod_nonneg _ (by omega), Int.emod_lt_of_pos _ (by omega), by omega, by omega⟩
  have mM := fun (x : Int) => bMod (a := x) M0
  have mu : ∀ x : Int, 0 ≤ x → x < M → opBin .Mult (.int x) (.int (if T ≤ x then 1 else 0)) = some (.int (x * (if T ≤ x then 1 else 0))) := fun x h1 h2 => by
    have := ML x h1 h2
    have : (if T ≤ x then (1 : Int) else 0).natAbs.log2 ≤ 1 := by split <;> decide
    exact bMul (by omega)
  have mu2 : ∀ x : Int, 0 ≤ x → 0 ≤ x * (if T ≤ x then 1 else 0) := fun x h => by split <;> omega
  have tl : ∀ (y : D) (x : Int), 0 ≤ x → x < M → ∃ ρ' S', evC (callF Pg n) Pg.sub b_pot [.val y, .val (.int k), .val (.int x)] S = .ok (.rt (.ref S.length)) ρ' S' ∧ Pot S.length 0 S' := fun y x w1 w2 =>
    ⟨[.val y, .val (.int k), .val (.int x)], S ++ [.lst [.int (x * if T ≤ x then 1 else 0), .int ((x % 2147483629 + 7919 * k + 1) ^ 5 % 2305843009213693951), .int 0]], by simp [asL_ap, fBinL_ap, fLst_ap, fFl_ap, fl_tup, fl_lst, all_mapT, ln_tup, ln_lst, ln_fz, tu_lst, tu_tup, it_tup, it_lst, it_fz, sq_tup, sq_lst, bindT_v, lockF, lockS, wipeF, run_ap, outO_rt, outO_nx, outO_ite, evC, evE, evB, evEs, evPs, evT, evTs, evI, evF, frame0, asP, asQ, mbind_ap, bindO_ok, bindO_ite, ite_ap, mret_ap, mopt_some, lift0_ap, liftO_ok, take_val, peek_val, peek_own, peek_lck, take_own, mval_int, mval_str, mval_bl, mval_non, mval_tup, mval_lst, mval_fz, mresL_v, mvals, cLt, cLe, cGt, cGe, cEqI, cNeI, cEqB, cIs, cIsNot, isNon, tBo, tIn, tNo, tTu, tLi, xT, xL, xF, omap_some, ok0, ok2, ok3, b_pot, p2, mu _ w1 w2, m1, md, md2, core, iB, bAdd], fin x _ (mu2 _ w1)⟩
  by_cases h : k < ns.length
  · have hx : ∃ x, ns[k]? = some x := ⟨ns[k], List.getElem?_eq_getElem h⟩
    obtain ⟨x, hx⟩ := hx
    have at' : atD (ns.map D.int) k = some (.int x) := by
      unfold atD ixD
      simp [asL_ap, fBinL_ap, fLst_ap, fFl_ap, fl_tup, fl_lst, all_mapT, ln_tup, ln_lst, ln_fz, tu_lst, tu_tup, it_tup, it_lst, it_fz, sq_tup, sq_lst, bindT_v, lockF, lockS, wipeF, run_ap, outO_rt, outO_nx, outO_ite, evC, evE, evB, evEs, evPs, evT, evTs, evI, evF, frame0, asP, asQ, mbind_ap, bindO_ok, bindO_ite, ite_ap, mret_ap, mopt_some, lift0_ap, liftO_ok, take_val, peek_val, peek_own, peek_lck, take_own, mval_int, mval_str, mval_bl, mval_non, mval_tup, mval_lst, mval_fz, mresL_v, mvals, cLt, cLe, cGt, cGe, cEqI, cNeI, cEqB, cIs, cIsNot, isNon, tBo, tIn, tNo, tTu, tLi, xT, xL, xF, omap_some, ok0, ok2, ok3, h, (List.getElem?_eq_some_iff.mp hx).2]
    have w1 := Int.emod_nonneg (if x < 0 then -x else x) (b := M) (by omega)
    have w2 := Int.emod_lt_of_pos (if x < 0 then -x else x) M0
    generalize hw : (if x < 0 then -x else x) = w at *
    have a1 : opBl .abs [.int x] = some (.int w) := by rw [aB, hw]
    obtain ⟨ρ', S', e, p⟩ := tl (.fz (ns.map D.int)) (w % M) w1 w2
    exact ⟨S', by simp [asL_ap, fBinL_ap, fLst_ap, fFl_ap, fl_tup, fl_lst, all_mapT, ln_tup, ln_lst, ln_fz, tu_lst, tu_tup, it_tup, it_lst, it_fz, sq_tup, sq_lst, bindT_v, lockF, lockS, wipeF, run_ap, outO_rt, outO_nx, outO_ite, evC, evE, evB, evEs, evPs, evT, evTs, evI, evF, frame0, asP, asQ, mbind_ap, bindO_ok, bindO_ite, ite_ap, mret_ap, mopt_some, lift0_ap, liftO_ok, take_val, peek_val, peek_own, peek_lck, take_own, mval_int, mval_str, mval_bl, mval_non, mval_tup, mval_lst, mval_fz, mresL_v, mvals, cLt, cLe, cGt, cGe, cEqI, cNeI, cEqB, cIs, cIsNot, isNon, tBo, tIn, tNo, tTu, tLi, xT, xL, xF, omap_some, ok0, ok2, ok3, f__law_pot, b_pot_eq, h, at', a1, oF, p0, p1, mM, e], p⟩
  · obtain ⟨ρ', S', e, p⟩ := tl (.fz (ns.map D.int)) 0 (by omega) M0
    exact ⟨S', by simp [asL_ap, fBinL_ap, fLst_ap, fFl_ap, fl_tup, fl_lst, all_mapT, ln_tup, ln_lst, ln_fz, tu_lst, tu_tup, it_tup, it_lst, it_fz, sq_tup, sq_lst, bindT_v, lockF, lockS, wipeF, run_ap, outO_rt, outO_nx, outO_ite, evC, evE, evB, evEs, evPs, evT, evTs, evI, evF, frame0, asP, asQ, mbind_ap, bindO_ok, bindO_ite, ite_ap, mret_ap, mopt_some, lift0_ap, liftO_ok, take_val, peek_val, peek_own, peek_lck, take_own, mval_int, mval_str, mval_bl, mval_non, mval_tup, mval_lst, mval_fz, mresL_v, mvals, cLt, cLe, cGt, cGe, cEqI, cNeI, cEqB, cIs, cIsNot, isNon, tBo, tIn, tNo, tTu, tLi, xT, xL, xF, omap_some, ok0, ok2, ok3, f__law_pot, b_pot_eq, h, e], p⟩
theorem e_pot (n : Nat) (ns : List Int) (k : Nat) (S : Store) (hk : k ≤ 3) :
    ∃ S', (callF Pg (n + 1)).f "_law_pot" [.fz (ns.map D.int), .int k] [] [] S = .ok (.ref S.length) S' ∧ Pot S.length 0 S' :=
  pot_aux (10 ^ 60) (10 ^ 600) (10 ^ 18) (by kernel_rfl) (by kernel_rfl) (by kernel_rfl) (by decide +kernel) (fun x h1 h2 => log_le h1 (Int.lt_trans h2 (by decide +kernel))) n ns k S hk
end K86

namespace K86
open PySem PySem.Spec MP L2 TL
theorem same_up : ∀ {k : Nat} {d : D}, Same k d → Same (k + 1) d
  | 0, d, h => by rw [Same]; exact .inl h
  | k + 1, d, h => by
    rw [Same] at h
    rw [Same]
    rcases h with h | ⟨l, e, hl, hr⟩
    · exact .inl h
    · exact .inr ⟨l, e, hl, fun x hx => same_up (hr x hx)⟩
theorem same_int {i : Int} : ∀ {k : Nat}, Same k (.int i)
  | 0 => by rw [Same]; exact .inr (.inl ⟨i, rfl⟩)
  | k + 1 => same_up same_int
theorem same_non : ∀ {k : Nat}, Same k .non
  | 0 => by rw [Same]; exact .inl rfl
  | k + 1 => same_up same_non
theorem same_str {x : Str} (h : PyData.strOk x = true) : ∀ {k : Nat}, Same k (.str x)
  | 0 => by rw [Same]; exact .inr (.inr ⟨x, rfl, h⟩)
  | k + 1 => same_up (same_str h)
theorem same_tup {k : Nat} {l : List D} (hl : l.length ≤ 10000) (h : ∀ x ∈ l, Same k x) : Same (k + 1) (.tup l) := by
  rw [Same]
  exact .inr ⟨l, rfl, hl, h⟩
theorem same_row {k : Nat} {m : Int} {P : D → Prop} {d : D} (h : Row m P d) (hm : m ≤ 10000) (hp : ∀ x, P x → Same k x) : Same (k + 1) d := by
  obtain ⟨l, rfl, hl, hr⟩ := h
  exact same_tup (by omega) fun x hx => hp x (hr x hx)
theorem same_beh {k : Nat} {m : Int} {d : D} (h : Beh m d) : Same k d := by
  rcases h with rfl | ⟨i, rfl, _⟩
  · exact same_non
  · exact same_int
theorem same_cell {k : Nat} {a b : Int} {d : D} (h : Cell a b d) : Same (k + 1) d := by
  obtain ⟨i, j, rfl, _⟩ := h
  refine same_tup (by simp [asL_ap, fBinL_ap, fLst_ap, fFl_ap, fl_tup, fl_lst, all_mapT, ln_tup, ln_lst, ln_fz, tu_lst, tu_tup, it_tup, it_lst, it_fz, sq_tup, sq_lst, bindT_v, lockF, lockS, wipeF, run_ap, outO_rt, outO_nx, outO_ite, evC, evE, evB, evEs, evPs, evT, evTs, evI, evF, frame0, asP, asQ, mbind_ap, bindO_ok, bindO_ite, ite_ap, mret_ap, mopt_some, lift0_ap, liftO_ok, take_val, peek_val, peek_own, peek_lck, take_own, mval_int, mval_str, mval_bl, mval_non, mval_tup, mval_lst, mval_fz, mresL_v, mvals, cLt, cLe, cGt, cGe, cEqI, cNeI, cEqB, cIs, cIsNot, isNon, tBo, tIn, tNo, tTu, tLi, xT, xL, xF, omap_some, ok0, ok2, ok3]) fun x hx => ?_
  simp only [List.mem_cons, List.not_mem_nil, or_false] at hx
  rcases hx with rfl | rfl <;> exact same_int
theorem same_table {k : Nat} {s m : Int} {rooms : List D} (hl : rooms.length ≤ 100) (h : ∀ r ∈ rooms, Same k r) : Same (k + 2) (.tup [.int s, .int m, .tup rooms]) := by
  refine same_tup (by simp [asL_ap, fBinL_ap, fLst_ap, fFl_ap, fl_tup, fl_lst, all_mapT, ln_tup, ln_lst, ln_fz, tu_lst, tu_tup, it_tup, it_lst, it_fz, sq_tup, sq_lst, bindT_v, lockF, lockS, wipeF, run_ap, outO_rt, outO_nx, outO_ite, evC, evE, evB, evEs, evPs, evT, evTs, evI, evF, frame0, asP, asQ, mbind_ap, bindO_ok, bindO_ite, ite_ap, mret_ap, mopt_some, lift0_ap, liftO_ok, take_val, peek_val, peek_own, peek_lck, take_own, mval_int, mval_str, mval_bl, mval_non, mval_tup, mval_lst, mval_fz, mresL_v, mvals, cLt, cLe, cGt, cGe, cEqI, cNeI, cEqB, cIs, cIsNot, isNon, tBo, tIn, tNo, tTu, tLi, xT, xL, xF, omap_some, ok0, ok2, ok3]) fun x hx => ?_
  simp only [List.mem_cons, List.not_mem_nil, or_false] at hx
  rcases hx with rfl | rfl | rfl
  · exact same_int
  · exact same_int
  · exact same_tup (by omega) h
theorem wd_beh {m : Int} {x : D} (hm : m ≤ 100) (h : Beh m x) : Wd x := by
  rcases h with rfl | ⟨i, rfl, h1, h2⟩
  · exact .inl (.inl rfl)
  · exact .inl (.inr ⟨i, rfl, h1, by omega⟩)
theorem wd_cell {a b : Int} {x : D} (h1 : a ≤ 100) (h2 : b ≤ 100) (h : Cell a b x) : Wd x := .inr (h.mono (by omega) (by omega))
theorem pl_sws {r : D} (h : ∀ x ∈ (its r).flatMap its, Wd x) : ∀ w ∈ sws r, Pl w := fun w hw => by
  unfold sws at hw
  obtain ⟨x, hx, rfl⟩ := List.mem_map.mp hw
  exact pl_W (h x hx)
theorem pl_mws {r : D} (h : ∀ x ∈ its r, Wd x) : ∀ w ∈ mws r, Pl w := fun w hw => by
  unfold mws at hw
  obtain ⟨x, hx, rfl⟩ := List.mem_map.mp hw
  exact pl_W (h x hx)
theorem pl_tpage {s k : Int} {ws : D → List Str} {rooms : List D} (h1 : 0 ≤ s) (h2 : s < 100) (h3 : 0 ≤ k) (h4 : k < 100) (h : ∀ r ∈ rooms, ∀ w ∈ ws r, Pl w) : Pl (page (tpage s k ws rooms)) :=
  pl_page fun r hr => by
    unfold tpage at hr
    rcases List.mem_cons.mp hr with rfl | hr
    · intro w hw
      simp only [List.mem_cons, List.not_mem_nil, or_false] at hw
      rcases hw with rfl | rfl
      · exact pl_num h1 h2
      · exact pl_num h3 h4
    · obtain ⟨d, hd, rfl⟩ := List.mem_map.mp hr
      exact h d hd
theorem flat_P {s k : Int} {P : D → Prop} {r : D} (h : Row s (Row k P) r) : ∀ x ∈ (its r).flatMap its, P x := fun x hx => by
  obtain ⟨l, rfl, hl, hr⟩ := h
  obtain ⟨y, hy, hx⟩ := List.mem_flatMap.mp hx
  obtain ⟨l2, rfl, _, hp⟩ := hr y hy
  exact hp x hx
/-- what the law asks of a thing -/
def Asks (n kind : Nat) (d : D) : Prop := ∃ x : Str, PyData.strOk x = true ∧ ∀ S, (callF Pg (n + 9)).f "_law_written" [.int kind, d] [] [] S = .ok (.str x) S ∧ (callF Pg (n + 9)).f "_law_shown" [.int kind, d] [] [] S = .ok (.str x) S ∧ (callF Pg (n + 9)).f "_law_read" [.int kind, .str x] [] [] S = .ok d S
theorem asks0 (n : Nat) (d : D) (h : Saying d) : Asks n 0 d ∧ Same 5 d := by
  have t := fun S => e_saying_text (n + 2) d S h
  have r := fun S => e_read_saying (n + 3) d S h
  obtain ⟨s, k, rooms, rfl, h1, h2, h3, h4, h5, h6, h7⟩ := h
  have w := fun S => e_law_written01 (n + 6) (.tup [.int s, .int k, .tup rooms]) 0 s k rooms S (by omega) (by omega) h2 (by omega) h4 h6 h7 (fun x hx => wd_beh (by omega) hx)
  have e : textOf 0 (.tup [.int s, .int k, .tup rooms]) = tpage s k sws rooms := rfl
  rw [e] at t r
  refine ⟨⟨page (tpage s k sws rooms), pl_ok (pl_tpage (by omega) (by omega) (by omega) (by omega) fun r hr => pl_sws fun x hx => wd_beh (by omega) (flat_P (h7 r hr) x hx)), fun S => ⟨w S, ?_, ?_⟩⟩, same_table h6 fun r hr => same_row (h7 r hr) (by omega) fun x hx => same_row hx (by omega) fun y hy => same_beh hy⟩
  · rw [F_eq find__law_shown rfl rfl]
    simp [asL_ap, fBinL_ap, fLst_ap, fFl_ap, fl_tup, fl_lst, all_mapT, ln_tup, ln_lst, ln_fz, tu_lst, tu_tup, it_tup, it_lst, it_fz, sq_tup, sq_lst, bindT_v, lockF, lockS, wipeF, run_ap, outO_rt, outO_nx, outO_ite, evC, evE, evB, evEs, evPs, evT, evTs, evI, evF, frame0, asP, asQ, mbind_ap, bindO_ok, bindO_ite, ite_ap, mret_ap, mopt_some, lift0_ap, liftO_ok, take_val, peek_val, peek_own, peek_lck, take_own, mval_int, mval_str, mval_bl, mval_non, mval_tup, mval_lst, mval_fz, mresL_v, mvals, cLt, cLe, cGt, cGe, cEqI, cNeI, cEqB, cIs, cIsNot, isNon, tBo, tIn, tNo, tTu, tLi, xT, xL, xF, omap_some, ok0, ok2, ok3, f__law_shown, b__law_shown, t]
  · rw [F_eq find__law_read rfl rfl]
    simp [asL_ap, fBinL_ap, fLst_ap, fFl_ap, fl_tup, fl_lst, all_mapT, ln_tup, ln_lst, ln_fz, tu_lst, tu_tup, it_tup, it_lst, it_fz, sq_tup, sq_lst, bindT_v, lockF, lockS, wipeF, run_ap, outO_rt, outO_nx, outO_ite, evC, evE, evB, evEs, evPs, evT, evTs, evI, evF, frame0, asP, asQ, mbind_ap, bindO_ok, bindO_ite, ite_ap, mret_ap, mopt_some, lift0_ap, liftO_ok, take_val, peek_val, peek_own, peek_lck, take_own, mval_int, mval_str, mval_bl, mval_non, mval_tup, mval_lst, mval_fz, mresL_v, mvals, cLt, cLe, cGt, cGe, cEqI, cNeI, cEqB, cIs, cIsNot, isNon, tBo, tIn, tNo, tTu, tLi, xT, xL, xF, omap_some, ok0, ok2, ok3, f__law_read, b__law_read, r]
theorem asks1 (n : Nat) (d : D) (h : Watcher d) : Asks n 1 d ∧ Same 5 d := by
  have t := fun S => e_watcher_text (n + 1) d S h
  have r := fun S => e_read_watcher (n + 2) d S h
  obtain ⟨s, k, rooms, rfl, h1, h2, h3, h4, h5, h6, h7⟩ := h
  have w := fun S => e_law_written01 (n + 6) (.tup [.int s, .int k, .tup rooms]) 1 s k rooms S (by omega) (by omega) h2 (by omega) h4 h6 h7 (fun x hx => wd_cell (by omega) (by omega) hx)
  have e : textOf 1 (.tup [.int s, .int k, .tup rooms]) = tpage s k sws rooms := rfl
  rw [e] at t r
  refine ⟨⟨page (tpage s k sws rooms), pl_ok (pl_tpage (by omega) (by omega) (by omega) (by omega) fun r hr => pl_sws fun x hx => wd_cell (by omega) (by omega) (flat_P (h7 r hr) x hx)), fun S => ⟨w S, ?_, ?_⟩⟩, same_table h6 fun r hr => same_row (h7 r hr) (by omega) fun x hx => same_row hx (by omega) fun y hy => same_cell (k := 0) hy⟩
  · rw [F_eq find__law_shown rfl rfl]
    simp [asL_ap, fBinL_ap, fLst_ap, fFl_ap, fl_tup, fl_lst, all_mapT, ln_tup, ln_lst, ln_fz, tu_lst, tu_tup, it_tup, it_lst, it_fz, sq_tup, sq_lst, bindT_v, lockF, lockS, wipeF, run_ap, outO_rt, outO_nx, outO_ite, evC, evE, evB, evEs, evPs, evT, evTs, evI, evF, frame0, asP, asQ, mbind_ap, bindO_ok, bindO_ite, ite_ap, mret_ap, mopt_some, lift0_ap, liftO_ok, take_val, peek_val, peek_own, peek_lck, take_own, mval_int, mval_str, mval_bl, mval_non, mval_tup, mval_lst, mval_fz, mresL_v, mvals, cLt, cLe, cGt, cGe, cEqI, cNeI, cEqB, cIs, cIsNot, isNon, tBo, tIn, tNo, tTu, tLi, xT, xL, xF, omap_some, ok0, ok2, ok3, f__law_shown, b__law_shown, t]
  · rw [F_eq find__law_read rfl rfl]
    simp [asL_ap, fBinL_ap, fLst_ap, fFl_ap, fl_tup, fl_lst, all_mapT, ln_tup, ln_lst, ln_fz, tu_lst, tu_tup, it_tup, it_lst, it_fz, sq_tup, sq_lst, bindT_v, lockF, lockS, wipeF, run_ap, outO_rt, outO_nx, outO_ite, evC, evE, evB, evEs, evPs, evT, evTs, evI, evF, frame0, asP, asQ, mbind_ap, bindO_ok, bindO_ite, ite_ap, mret_ap, mopt_some, lift0_ap, liftO_ok, take_val, peek_val, peek_own, peek_lck, take_own, mval_int, mval_str, mval_bl, mval_non, mval_tup, mval_lst, mval_fz, mresL_v, mvals, cLt, cLe, cGt, cGe, cEqI, cNeI, cEqB, cIs, cIsNot, isNon, tBo, tIn, tNo, tTu, tLi, xT, xL, xF, omap_some, ok0, ok2, ok3, f__law_read, b__law_read, r]
theorem asks2 (n : Nat) (d : D) (h : Machine d) : Asks n 2 d ∧ Same 5 d := by
  have t := fun S => e_machine_text (n + 2) d S h
  have r := fun S => e_read_machine (n + 3) d S h
  obtain ⟨s, k, rooms, rfl, h1, h2, h3, h4, h5, h6, h7⟩ := h
  have w := fun S => e_law_written2 (n + 6) s k rooms S (by omega) h2 (by omega) h4 h6 h7 (fun x hx => wd_cell (by omega) (by omega) hx)
  have e : textOf 2 (.tup [.int s, .int k, .tup rooms]) = tpage s k mws rooms := rfl
  rw [e] at t r
  refine ⟨⟨page (tpage s k mws rooms), pl_ok (pl_tpage (by omega) (by omega) (by omega) (by omega) fun r hr => pl_mws fun x hx => ?_), fun S => ⟨w S, ?_, ?_⟩⟩, same_table h6 fun r hr => same_row (h7 r hr) (by omega) fun x hx => same_cell (k := 1) hx⟩
  · obtain ⟨l, rfl, _, hp⟩ := h7 r hr
    exact wd_cell (by omega) (by omega) (hp x hx)
  · rw [F_eq find__law_shown rfl rfl]
    simp [asL_ap, fBinL_ap, fLst_ap, fFl_ap, fl_tup, fl_lst, all_mapT, ln_tup, ln_lst, ln_fz, tu_lst, tu_tup, it_tup, it_lst, it_fz, sq_tup, sq_lst, bindT_v, lockF, lockS, wipeF, run_ap, outO_rt, outO_nx, outO_ite, evC, evE, evB, evEs, evPs, evT, evTs, evI, evF, frame0, asP, asQ, mbind_ap, bindO_ok, bindO_ite, ite_ap, mret_ap, mopt_some, lift0_ap, liftO_ok, take_val, peek_val, peek_own, peek_lck, take_own, mval_int, mval_str, mval_bl, mval_non, mval_tup, mval_lst, mval_fz, mresL_v, mvals, cLt, cLe, cGt, cGe, cEqI, cNeI, cEqB, cIs, cIsNot, isNon, tBo, tIn, tNo, tTu, tLi, xT, xL, xF, omap_some, ok0, ok2, ok3, f__law_shown, b__law_shown, t]
  · rw [F_eq find__law_read rfl rfl]
    simp [asL_ap, fBinL_ap, fLst_ap, fFl_ap, fl_tup, fl_lst, all_mapT, ln_tup, ln_lst, ln_fz, tu_lst, tu_tup, it_tup, it_lst, it_fz, sq_tup, sq_lst, bindT_v, lockF, lockS, wipeF, run_ap, outO_rt, outO_nx, outO_ite, evC, evE, evB, evEs, evPs, evT, evTs, evI, evF, frame0, asP, asQ, mbind_ap, bindO_ok, bindO_ite, ite_ap, mret_ap, mopt_some, lift0_ap, liftO_ok, take_val, peek_val, peek_own, peek_lck, take_own, mval_int, mval_str, mval_bl, mval_non, mval_tup, mval_lst, mval_fz, mresL_v, mvals, cLt, cLe, cGt, cGe, cEqI, cNeI, cEqB, cIs, cIsNot, isNon, tBo, tIn, tNo, tTu, tLi, xT, xL, xF, omap_some, ok0, ok2, ok3, f__law_read, b__law_read, r]
theorem asks3n (n : Nat) : Asks n 3 .non ∧ Same 5 .non := by
  refine ⟨⟨"even", ev_ok, fun S => ⟨e_law_written3n (n + 8) S, ?_, ?_⟩⟩, same_non⟩
  · rw [F_eq find__law_shown rfl rfl]
    have t := fun S => (show (callF Pg (n + 8)).f "prices_text" [.non] [] [] S = .ok (.str "even") S by
      rw [F_eq find_prices_text rfl rfl]
      simp [asL_ap, fBinL_ap, fLst_ap, fFl_ap, fl_tup, fl_lst, all_mapT, ln_tup, ln_lst, ln_fz, tu_lst, tu_tup, it_tup, it_lst, it_fz, sq_tup, sq_lst, bindT_v, lockF, lockS, wipeF, run_ap, outO_rt, outO_nx, outO_ite, evC, evE, evB, evEs, evPs, evT, evTs, evI, evF, frame0, asP, asQ, mbind_ap, bindO_ok, bindO_ite, ite_ap, mret_ap, mopt_some, lift0_ap, liftO_ok, take_val, peek_val, peek_own, peek_lck, take_own, mval_int, mval_str, mval_bl, mval_non, mval_tup, mval_lst, mval_fz, mresL_v, mvals, cLt, cLe, cGt, cGe, cEqI, cNeI, cEqB, cIs, cIsNot, isNon, tBo, tIn, tNo, tTu, tLi, xT, xL, xF, omap_some, ok0, ok2, ok3, f_prices_text, b_prices_text])
    simp [asL_ap, fBinL_ap, fLst_ap, fFl_ap, fl_tup, fl_lst, all_mapT, ln_tup, ln_lst, ln_fz, tu_lst, tu_tup, it_tup, it_lst, it_fz, sq_tup, sq_lst, bindT_v, lockF, lockS, wipeF, run_ap, outO_rt, outO_nx, outO_ite, evC, evE, evB, evEs, evPs, evT, evTs, evI, evF, frame0, asP, asQ, mbind_ap, bindO_ok, bindO_ite, ite_ap, mret_ap, mopt_some, lift0_ap, liftO_ok, take_val, peek_val, peek_own, peek_lck, take_own, mval_int, mval_str, mval_bl, mval_non, mval_tup, mval_lst, mval_fz, mresL_v, mvals, cLt, cLe, cGt, cGe, cEqI, cNeI, cEqB, cIs, cIsNot, isNon, tBo, tIn, tNo, tTu, tLi, xT, xL, xF, omap_some, ok0, ok2, ok3, f__law_shown, b__law_shown, t]
  · rw [F_eq find__law_read rfl rfl]
    have r := fun S => e_read_even (n + 7) S
    simp [asL_ap, fBinL_ap, fLst_ap, fFl_ap, fl_tup, fl_lst, all_mapT, ln_tup, ln_lst, ln_fz, tu_lst, tu_tup, it_tup, it_lst, it_fz, sq_tup, sq_lst, bindT_v, lockF, lockS, wipeF, run_ap, outO_rt, outO_nx, outO_ite, evC, evE, evB, evEs, evPs, evT, evTs, evI, evF, frame0, asP, asQ, mbind_ap, bindO_ok, bindO_ite, ite_ap, mret_ap, mopt_some, lift0_ap, liftO_ok, take_val, peek_val, peek_own, peek_lck, take_own, mval_int, mval_str, mval_bl, mval_non, mval_tup, mval_lst, mval_fz, mresL_v, mvals, cLt, cLe, cGt, cGe, cEqI, cNeI, cEqB, cIs, cIsNot, isNon, tBo, tIn, tNo, tTu, tLi, xT, xL, xF, omap_some, ok0, ok2, ok3, f__law_read, b__law_read, r]
theorem asks3 (n : Nat) (d : D) (k : Int) (h1 : 1 ≤ k) (h2 : k ≤ 9) (h : PriceT k d) : Asks n 3 d ∧ Same 5 d := by
  have t := fun S => e_prices_text (n + 4) d k S h1 h2 h
  have r := fun S => e_read_prices (n + 4) d k S h1 h2 h
  have hr := h.rows
  have w := fun S => e_law_written3 (n + 6) k d S hr h2 fun x hx => wd_beh (by omega) hx
  refine ⟨⟨page (ptext d), pl_ok (pl_page fun r hrm => ?_), fun S => ⟨w S, ?_, ?_⟩⟩, same_row hr (by omega) fun x hx => same_row hx (by omega) fun y hy => same_beh hy⟩
  · obtain ⟨l, rfl, _, hp⟩ := hr
    unfold ptext at hrm
    obtain ⟨y, hy, rfl⟩ := List.mem_map.mp hrm
    obtain ⟨l2, rfl, _, hp2⟩ := hp y hy
    exact pl_mws fun x hx => wd_beh (by omega) (hp2 x hx)
  · rw [F_eq find__law_shown rfl rfl]
    simp [asL_ap, fBinL_ap, fLst_ap, fFl_ap, fl_tup, fl_lst, all_mapT, ln_tup, ln_lst, ln_fz, tu_lst, tu_tup, it_tup, it_lst, it_fz, sq_tup, sq_lst, bindT_v, lockF, lockS, wipeF, run_ap, outO_rt, outO_nx, outO_ite, evC, evE, evB, evEs, evPs, evT, evTs, evI, evF, frame0, asP, asQ, mbind_ap, bindO_ok, bindO_ite, ite_ap, mret_ap, mopt_some, lift0_ap, liftO_ok, take_val, peek_val, peek_own, peek_lck, take_own, mval_int, mval_str, mval_bl, mval_non, mval_tup, mval_lst, mval_fz, mresL_v, mvals, cLt, cLe, cGt, cGe, cEqI, cNeI, cEqB, cIs, cIsNot, isNon, tBo, tIn, tNo, tTu, tLi, xT, xL, xF, omap_some, ok0, ok2, ok3, f__law_shown, b__law_shown, t]
  · rw [F_eq find__law_read rfl rfl]
    simp [asL_ap, fBinL_ap, fLst_ap, fFl_ap, fl_tup, fl_lst, all_mapT, ln_tup, ln_lst, ln_fz, tu_lst, tu_tup, it_tup, it_lst, it_fz, sq_tup, sq_lst, bindT_v, lockF, lockS, wipeF, run_ap, outO_rt, outO_nx, outO_ite, evC, evE, evB, evEs, evPs, evT, evTs, evI, evF, frame0, asP, asQ, mbind_ap, bindO_ok, bindO_ite, ite_ap, mret_ap, mopt_some, lift0_ap, liftO_ok, take_val, peek_val, peek_own, peek_lck, take_own, mval_int, mval_str, mval_bl, mval_non, mval_tup, mval_lst, mval_fz, mresL_v, mvals, cLt, cLe, cGt, cGe, cEqI, cNeI, cEqB, cIs, cIsNot, isNon, tBo, tIn, tNo, tTu, tLi, xT, xL, xF, omap_some, ok0, ok2, ok3, f__law_read, b__law_read, r]
theorem asks4 (n : Nat) (l : List D) (hl : l.length ≤ 500) (h : ∀ x ∈ l, Cell 9 9 x) : Asks n 4 (.tup l) ∧ Same 5 (.tup l) := by
  have t := fun S => e_run_text (n + 4) l S h hl
  have r := fun S => e_read_run (n + 4) l S h hl
  have w := fun S => e_law_written4 (n + 6) l S (fun x hx => wd_cell (by omega) (by omega) (h x hx)) hl
  refine ⟨⟨if l = [] then "-" else line (mws (.tup l)), ?_, fun S => ⟨w S, ?_, ?_⟩⟩, same_tup (by omega) fun x hx => same_cell (k := 3) (h x hx)⟩
  · split
    · exact da_ok
    · exact pl_ok (pl_line (pl_mws fun x hx => wd_cell (by omega) (by omega) (h x hx)))
  · rw [F_eq find__law_shown rfl rfl]
    simp [asL_ap, fBinL_ap, fLst_ap, fFl_ap, fl_tup, fl_lst, all_mapT, ln_tup, ln_lst, ln_fz, tu_lst, tu_tup, it_tup, it_lst, it_fz, sq_tup, sq_lst, bindT_v, lockF, lockS, wipeF, run_ap, outO_rt, outO_nx, outO_ite, evC, evE, evB, evEs, evPs, evT, evTs, evI, evF, frame0, asP, asQ, mbind_ap, bindO_ok, bindO_ite, ite_ap, mret_ap, mopt_some, lift0_ap, liftO_ok, take_val, peek_val, peek_own, peek_lck, take_own, mval_int, mval_str, mval_bl, mval_non, mval_tup, mval_lst, mval_fz, mresL_v, mvals, cLt, cLe, cGt, cGe, cEqI, cNeI, cEqB, cIs, cIsNot, isNon, tBo, tIn, tNo, tTu, tLi, xT, xL, xF, omap_some, ok0, ok2, ok3, f__law_shown, b__law_shown, t]
  · rw [F_eq find__law_read rfl rfl]
    simp [asL_ap, fBinL_ap, fLst_ap, fFl_ap, fl_tup, fl_lst, all_mapT, ln_tup, ln_lst, ln_fz, tu_lst, tu_tup, it_tup, it_lst, it_fz, sq_tup, sq_lst, bindT_v, lockF, lockS, wipeF, run_ap, outO_rt, outO_nx, outO_ite, evC, evE, evB, evEs, evPs, evT, evTs, evI, evF, frame0, asP, asQ, mbind_ap, bindO_ok, bindO_ite, ite_ap, mret_ap, mopt_some, lift0_ap, liftO_ok, take_val, peek_val, peek_own, peek_lck, take_own, mval_int, mval_str, mval_bl, mval_non, mval_tup, mval_lst, mval_fz, mresL_v, mvals, cLt, cLe, cGt, cGe, cEqI, cNeI, cEqB, cIs, cIsNot, isNon, tBo, tIn, tNo, tTu, tLi, xT, xL, xF, omap_some, ok0, ok2, ok3, f__law_read, b__law_read, r]
theorem asks (n kind : Nat) (d : D) (hk : kind < 5) (h : Thing kind d) : Asks n kind d ∧ Same 5 d := by
  rcases (show kind = 0 ∨ kind = 1 ∨ kind = 2 ∨ kind = 3 ∨ kind = 4 by omega) with rfl | rfl | rfl | rfl | rfl
  · exact asks0 n d h
  · exact asks1 n d h
  · exact asks2 n d h
  · rcases h with rfl | ⟨k, h1, h2, h3⟩
    · exact asks3n n
    · exact asks3 n d k h1 h2 h3
  · obtain ⟨l, rfl, hl, hr⟩ := h
    exact asks4 n l hl hr
end K86

namespace K86
open PySem PySem.Spec MP L2 TL
theorem e_turns (y a : D) (j kind : Nat) (hk : kind < 5) (d : D) (x : Str) (b : Slot) (S : Store) (hx : PyData.strOk x = true) (hd : Same 5 d)
    (sh : ∀ S, (callF Pg 40).f "_law_shown" [.int kind, d] [] [] S = .ok (.str x) S) (rd : ∀ S, (callF Pg 40).f "_law_read" [.int kind, .str x] [] [] S = .ok d S) :
    ∃ b', forM (.v 6) (evC (callF Pg 40) Pg.sub b_law_1) (R 2) [.val y, .val a, .val (.ref j), .val (.int kind), .val d, .val (.str x), b, .none, .none, .none] S = .ok .nx [.val y, .val a, .val (.ref j), .val (.int kind), .val d, .val (.str x), b', .none, .none, .none] S := by
  have s1 := fun S => e_same0 39 (.str x) S (same_str hx)
  have s2 := fun S => e_same 5 34 d S hd
  have key := for_inv (t := .v 6) (b := evC (callF Pg 40) Pg.sub b_law_1) (l := R 2) (ρ := [.val y, .val a, .val (.ref j), .val (.int kind), .val d, .val (.str x), b, .none, .none, .none]) (S := S)
    (P := fun _ ρ S' => S' = S ∧ ∃ b', ρ = [.val y, .val a, .val (.ref j), .val (.int kind), .val d, .val (.str x), b', .none, .none, .none]) ⟨rfl, _, rfl⟩ ?_
  · obtain ⟨ρ', S', e, rfl, b', rfl⟩ := key
    exact ⟨b', e⟩
  · rintro i z ρ S' hz ⟨rfl, b', rfl⟩
    refine ⟨[.val y, .val a, .val (.ref j), .val (.int kind), .val d, .val (.str x), .val z, .none, .none, .none], S', .nx, ?_, .inl rfl, rfl, _, rfl⟩
    simp [asL_ap, fBinL_ap, fLst_ap, fFl_ap, fl_tup, fl_lst, all_mapT, ln_tup, ln_lst, ln_fz, tu_lst, tu_tup, it_tup, it_lst, it_fz, sq_tup, sq_lst, bindT_v, lockF, lockS, wipeF, run_ap, outO_rt, outO_nx, outO_ite, evC, evE, evB, evEs, evPs, evT, evTs, evI, evF, frame0, asP, asQ, mbind_ap, bindO_ok, bindO_ite, ite_ap, mret_ap, mopt_some, lift0_ap, liftO_ok, take_val, peek_val, peek_own, peek_lck, take_own, mval_int, mval_str, mval_bl, mval_non, mval_tup, mval_lst, mval_fz, mresL_v, mvals, cLt, cLe, cGt, cGe, cEqI, cNeI, cEqB, cIs, cIsNot, isNon, tBo, tIn, tNo, tTu, tLi, xT, xL, xF, omap_some, ok0, ok2, ok3, b_law_1, sh, rd, s1, s2]
theorem e_kinds (y a : D) (j : Nat) (b c d e : Slot) (S : Store) (hp : Pot j 0 S) :
    ∃ b' c' d' e' S', forM (.v 3) (evC (callF Pg 40) Pg.sub b_law_2) (R 5) [.val y, .val a, .val (.ref j), b, c, d, e, .none, .none, .none] S = .ok .nx [.val y, .val a, .val (.ref j), b', c', d', e', .none, .none, .none] S' := by
  have key := for_inv (t := .v 3) (b := evC (callF Pg 40) Pg.sub b_law_2) (l := R 5) (ρ := [.val y, .val a, .val (.ref j), b, c, d, e, .none, .none, .none]) (S := S)
    (P := fun i ρ S' => (∃ b c d e, ρ = [.val y, .val a, .val (.ref j), b, c, d, e, .none, .none, .none]) ∧ Pot j (50000 * i) S') ⟨⟨_, _, _, _, rfl⟩, hp⟩ ?_
  · obtain ⟨ρ', S', e, ⟨b, c, d, e2, rfl⟩, _⟩ := key
    exact ⟨b, c, d, e2, S', e⟩
  · rintro i z ρ S' hz ⟨⟨b, c, d, e, rfl⟩, hp⟩
    obtain ⟨rfl, hi⟩ := R_get hz
    obtain ⟨v, S2, e2, t, p2⟩ := e_thing 36 j _ i S' hp (by omega) (by omega)
    obtain ⟨⟨x, hx, ax⟩, sm⟩ := asks 31 i v (by omega) t
    have wr := fun S => (ax S).1
    obtain ⟨f, et⟩ := e_turns y a j i (by omega) v x e S2 hx sm (fun S => (ax S).2.1) (fun S => (ax S).2.2)
    refine ⟨[.val y, .val a, .val (.ref j), .val (.int i), .val v, .val (.str x), f, .none, .none, .none], S2, .nx, ?_, .inl rfl, ⟨_, _, _, _, rfl⟩, p2.mono (by omega)⟩
    have r2 := R_ok (k := 2) (by omega) (by omega)
    simp [asL_ap, fBinL_ap, fLst_ap, fFl_ap, fl_tup, fl_lst, all_mapT, ln_tup, ln_lst, ln_fz, tu_lst, tu_tup, it_tup, it_lst, it_fz, sq_tup, sq_lst, bindT_v, lockF, lockS, wipeF, run_ap, outO_rt, outO_nx, outO_ite, evC, evE, evB, evEs, evPs, evT, evTs, evI, evF, frame0, asP, asQ, mbind_ap, bindO_ok, bindO_ite, ite_ap, mret_ap, mopt_some, lift0_ap, liftO_ok, take_val, peek_val, peek_own, peek_lck, take_own, mval_int, mval_str, mval_bl, mval_non, mval_tup, mval_lst, mval_fz, mresL_v, mvals, cLt, cLe, cGt, cGe, cEqI, cNeI, cEqB, cIs, cIsNot, isNon, tBo, tIn, tNo, tTu, tLi, xT, xL, xF, omap_some, ok0, ok2, ok3, b_law_2, e2, wr, et, r2]
theorem e_rounds (ns : List Int) (m : Int) (h1 : 1 ≤ m) (h2 : m ≤ 4) (S : Store) :
    ∃ a b c d e f S', forM (.v 1) (evC (callF Pg 40) Pg.sub b_law_3) (R m) [.val (.fz (ns.map D.int)), .none, .none, .none, .none, .none, .none, .none, .none, .none] S = .ok .nx [.val (.fz (ns.map D.int)), a, b, c, d, e, f, .none, .none, .none] S' := by
  have key := for_inv (t := .v 1) (b := evC (callF Pg 40) Pg.sub b_law_3) (l := R m) (ρ := [.val (.fz (ns.map D.int)), .none, .none, .none, .none, .none, .none, .none, .none, .none]) (S := S)
    (P := fun i ρ S' => ∃ a b c d e f, ρ = [.val (.fz (ns.map D.int)), a, b, c, d, e, f, .none, .none, .none]) ⟨_, _, _, _, _, _, rfl⟩ ?_
  · obtain ⟨ρ', S', e, a, b, c, d, e2, f, rfl⟩ := key
    exact ⟨a, b, c, d, e2, f, S', e⟩
  · rintro i z ρ S' hz ⟨a, b, c, d, e, f, rfl⟩
    obtain ⟨rfl, hi⟩ := R_get hz
    obtain ⟨S2, e2, p2⟩ := e_pot 39 ns i S' (by omega)
    obtain ⟨b2, c2, d2, e3, S3, ek⟩ := e_kinds (.fz (ns.map D.int)) (.int i) S'.length c d e f S2 p2
    refine ⟨[.val (.fz (ns.map D.int)), .val (.int i), .val (.ref S'.length), b2, c2, d2, e3, .none, .none, .none], S3, .nx, ?_, .inl rfl, _, _, _, _, _, _, rfl⟩
    have r5 := R_ok (k := 5) (by omega) (by omega)
    simp [asL_ap, fBinL_ap, fLst_ap, fFl_ap, fl_tup, fl_lst, all_mapT, ln_tup, ln_lst, ln_fz, tu_lst, tu_tup, it_tup, it_lst, it_fz, sq_tup, sq_lst, bindT_v, lockF, lockS, wipeF, run_ap, outO_rt, outO_nx, outO_ite, evC, evE, evB, evEs, evPs, evT, evTs, evI, evF, frame0, asP, asQ, mbind_ap, bindO_ok, bindO_ite, ite_ap, mret_ap, mopt_some, lift0_ap, liftO_ok, take_val, peek_val, peek_own, peek_lck, take_own, mval_int, mval_str, mval_bl, mval_non, mval_tup, mval_lst, mval_fz, mresL_v, mvals, cLt, cLe, cGt, cGe, cEqI, cNeI, cEqB, cIs, cIsNot, isNon, tBo, tIn, tNo, tTu, tLi, xT, xL, xF, omap_some, ok0, ok2, ok3, b_law_3, e2, ek, r5]
theorem hrun (ns : List Int) : ∃ S, runFn (callF Pg 40) Pg.sub f_law [.fz (ns.map D.int)] [] = .ok (.bl true) S := by
  have hm : ∃ m : Int, 1 ≤ m ∧ m ≤ 4 ∧ (∀ k : Int, k = (ns.length : Int) → opBl .min2 [.int 4, .int k] = some (.int (if k < 4 then k else 4)) ∧ opBl .max2 [.int 1, .int (if k < 4 then k else 4)] = some (.int m)) := by
    refine ⟨if (if (ns.length : Int) < 4 then (ns.length : Int) else 4) > 1 then (if (ns.length : Int) < 4 then (ns.length : Int) else 4) else 1, by split <;> omega, by split <;> split <;> omega, fun k hk => by subst hk; exact ⟨rfl, rfl⟩⟩
  obtain ⟨m, m1, m2, mm⟩ := hm
  obtain ⟨mm1, mm2⟩ := mm _ rfl
  obtain ⟨a, b, c, d, e, f, S', er⟩ := e_rounds ns m m1 m2 []
  have rm := R_ok (k := m) (by omega) (by omega)
  have r5 := R_ok (k := 500) (by omega) (by omega)
  have b1 := fun (x : Int) => bMod (a := x) (b := 9) (by omega)
  have b2 := fun (x : Int) => bMod (a := x) (b := 7) (by omega)
  have key := lc_inv (cl := callF Pg 40) (t := .v 8) (own := [8]) (it := .rng1 (.cst (.int 500))) (e := .tup (.cons (.bin .Mod (.var 8) (.cst (.int 9))) (.cons (.bin .Mod (.bin .Mult (.var 8) (.cst (.int 5))) (.cst (.int 7))) .nil))) (ρ := [.val (.fz (ns.map D.int)), a, b, c, d, e, f, .none, .none, .none]) (S := S') (l := R 500)
    (fun _ S => S = S') (fun _ x => Cell 9 9 x) (by simp [asL_ap, fBinL_ap, fLst_ap, fFl_ap, fl_tup, fl_lst, all_mapT, ln_tup, ln_lst, ln_fz, tu_lst, tu_tup, it_tup, it_lst, it_fz, sq_tup, sq_lst, bindT_v, lockF, lockS, wipeF, run_ap, outO_rt, outO_nx, outO_ite, evC, evE, evB, evEs, evPs, evT, evTs, evI, evF, frame0, asP, asQ, mbind_ap, bindO_ok, bindO_ite, ite_ap, mret_ap, mopt_some, lift0_ap, liftO_ok, take_val, peek_val, peek_own, peek_lck, take_own, mval_int, mval_str, mval_bl, mval_non, mval_tup, mval_lst, mval_fz, mresL_v, mvals, cLt, cLe, cGt, cGe, cEqI, cNeI, cEqB, cIs, cIsNot, isNon, tBo, tIn, tNo, tTu, tLi, xT, xL, xF, omap_some, ok0, ok2, ok3, r5]) rfl ?_ (by rw [R_len]; omega)
  · obtain ⟨l, S2, ec, l2, q2, rfl⟩ := key
    rw [R_len] at l2
    have hc : ∀ x ∈ l, Cell 9 9 x := fun x hx => by
      obtain ⟨g, hg⟩ := List.getElem?_of_mem hx
      exact q2 g x hg
    obtain ⟨⟨x, hx, ax⟩, sm⟩ := asks4 31 l (by omega) hc
    have wr := fun S => (ax S).1
    have t := fun S => e_run_text 36 l S hc (by omega)
    have r := fun S => e_read_run 36 l S hc (by omega)
    have w := fun S => e_law_written4 37 l S (fun x hx => wd_cell (by omega) (by omega) (hc x hx)) (by omega)
    have so : PyData.strOk (if l = [] then "-" else line (mws (.tup l))) = true := by
      split
      · exact da_ok
      · exact pl_ok (pl_line (pl_mws fun x hx => wd_cell (by omega) (by omega) (hc x hx)))
    generalize (if l = [] then "-" else line (mws (.tup l)) : Str) = u at *
    have s1 := fun S => e_same0 39 (.str u) S (same_str so)
    have s2 := fun S => e_same 5 34 (.tup l) S sm
    exact ⟨S2, by simp [asL_ap, fBinL_ap, fLst_ap, fFl_ap, fl_tup, fl_lst, all_mapT, ln_tup, ln_lst, ln_fz, tu_lst, tu_tup, it_tup, it_lst, it_fz, sq_tup, sq_lst, bindT_v, lockF, lockS, wipeF, run_ap, outO_rt, outO_nx, outO_ite, evC, evE, evB, evEs, evPs, evT, evTs, evI, evF, frame0, asP, asQ, mbind_ap, bindO_ok, bindO_ite, ite_ap, mret_ap, mopt_some, lift0_ap, liftO_ok, take_val, peek_val, peek_own, peek_lck, take_own, mval_int, mval_str, mval_bl, mval_non, mval_tup, mval_lst, mval_fz, mresL_v, mvals, cLt, cLe, cGt, cGe, cEqI, cNeI, cEqB, cIs, cIsNot, isNon, tBo, tIn, tNo, tTu, tLi, xT, xL, xF, omap_some, ok0, ok2, ok3, f_law, b_law, mm1, mm2, rm, er, c_law_0, ec, w, t, r, s1, s2]⟩
  · intro i z S hz hS
    obtain ⟨rfl, hi⟩ := R_get hz
    have m5 : opBin .Mult (.int i) (.int 5) = some (.int (i * 5)) := bMul' (by omega) (by omega) (by omega) (by omega)
    exact ⟨.tup [.int (i % 9), .int (i * 5 % 7)], [.val (.fz (ns.map D.int)), lockS a, lockS b, lockS c, lockS d, lockS e, lockS f, .none, .val (.int i), .none], S, by simp [asL_ap, fBinL_ap, fLst_ap, fFl_ap, fl_tup, fl_lst, all_mapT, ln_tup, ln_lst, ln_fz, tu_lst, tu_tup, it_tup, it_lst, it_fz, sq_tup, sq_lst, bindT_v, lockF, lockS, wipeF, run_ap, outO_rt, outO_nx, outO_ite, evC, evE, evB, evEs, evPs, evT, evTs, evI, evF, frame0, asP, asQ, mbind_ap, bindO_ok, bindO_ite, ite_ap, mret_ap, mopt_some, lift0_ap, liftO_ok, take_val, peek_val, peek_own, peek_lck, take_own, mval_int, mval_str, mval_bl, mval_non, mval_tup, mval_lst, mval_fz, mresL_v, mvals, cLt, cLe, cGt, cGe, cEqI, cNeI, cEqB, cIs, cIsNot, isNon, tBo, tIn, tNo, tTu, tLi, xT, xL, xF, omap_some, ok0, ok2, ok3, b1, b2, m5], ⟨_, _, rfl, by omega, by omega, by omega, by omega⟩, hS⟩
end K86

namespace K86
open PySem PySem.Spec PyProof.Rows L2 MP
theorem bf_is_whole : BindF d_is_whole 1 ["thing"] := fun _ _ _ _ _ _ us hl => match us, hl with | [_], _ => rfl
theorem bf_is_below : BindF d_is_below 2 ["thing", "most"] := fun _ _ _ _ _ _ us hl => match us, hl with | [_, _], _ => rfl
theorem bf_is_count : BindF d_is_count 1 ["thing"] := fun _ _ _ _ _ _ us hl => match us, hl with | [_], _ => rfl
theorem bf_is_row : BindF d_is_row 2 ["thing", "many"] := fun _ _ _ _ _ _ us hl => match us, hl with | [_, _], _ => rfl
theorem bf_is_room : BindF d_is_room 4 ["thing", "signs", "deeds", "many"] := fun _ _ _ _ _ _ us hl => match us, hl with | [_, _, _, _], _ => rfl
theorem bf_is_saying : BindF d_is_saying 1 ["thing"] := fun _ _ _ _ _ _ us hl => match us, hl with | [_], _ => rfl
theorem bf_are_steps : BindF d_are_steps 3 ["thing", "signs", "deeds"] := fun _ _ _ _ _ _ us hl => match us, hl with | [_, _, _], _ => rfl
theorem bf_need_saying : BindF d_need_saying 1 ["thing"] := fun _ _ _ _ _ _ us hl => match us, hl with | [_], _ => rfl
theorem bf_is_price : BindF d_is_price 2 ["thing", "own"] := fun _ _ _ _ _ _ us hl => match us, hl with | [_, _], _ => rfl
theorem bf_are_prices : BindF d_are_prices 2 ["deeds", "thing"] := fun _ _ _ _ _ _ us hl => match us, hl with | [_, _], _ => rfl
theorem bf_is_cell : BindF d_is_cell 3 ["thing", "deeds", "many"] := fun _ _ _ _ _ _ us hl => match us, hl with | [_, _, _], _ => rfl
theorem bf_is_state : BindF d_is_state 4 ["thing", "signs", "deeds", "many"] := fun _ _ _ _ _ _ us hl => match us, hl with | [_, _, _, _], _ => rfl
theorem bf_is_watcher : BindF d_is_watcher 1 ["thing"] := fun _ _ _ _ _ _ us hl => match us, hl with | [_], _ => rfl
theorem bf_need_watcher : BindF d_need_watcher 1 ["thing"] := fun _ _ _ _ _ _ us hl => match us, hl with | [_], _ => rfl
theorem bf_is_go : BindF d_is_go 3 ["thing", "deeds", "many"] := fun _ _ _ _ _ _ us hl => match us, hl with | [_, _, _], _ => rfl
theorem bf_is_machine : BindF d_is_machine 1 ["thing"] := fun _ _ _ _ _ _ us hl => match us, hl with | [_], _ => rfl
theorem bf_need_machine : BindF d_need_machine 1 ["thing"] := fun _ _ _ _ _ _ us hl => match us, hl with | [_], _ => rfl
theorem bf_part_text : BindF d_part_text 1 ["part"] := fun _ _ _ _ _ _ us hl => match us, hl with | [_], _ => rfl
theorem bf_pair_text : BindF d_pair_text 1 ["pair"] := fun _ _ _ _ _ _ us hl => match us, hl with | [_], _ => rfl
theorem bf_rows_text : BindF d_rows_text 1 ["rows"] := fun _ _ _ _ _ _ us hl => match us, hl with | [_], _ => rfl
theorem bf_table_text : BindF d_table_text 2 ["table", "words_of"] := fun _ _ _ _ _ _ us hl => match us, hl with | [_, _], _ => rfl
theorem bf_saying_words : BindF d_saying_words 1 ["room"] := fun _ _ _ _ _ _ us hl => match us, hl with | [_], _ => rfl
theorem bf_watcher_words : BindF d_watcher_words 1 ["state"] := fun _ _ _ _ _ _ us hl => match us, hl with | [_], _ => rfl
theorem bf_machine_words : BindF d_machine_words 1 ["room"] := fun _ _ _ _ _ _ us hl => match us, hl with | [_], _ => rfl
theorem bf_saying_text : BindF d_saying_text 1 ["saying"] := fun _ _ _ _ _ _ us hl => match us, hl with | [_], _ => rfl
theorem bf_watcher_text : BindF d_watcher_text 1 ["watcher"] := fun _ _ _ _ _ _ us hl => match us, hl with | [_], _ => rfl
theorem bf_machine_text : BindF d_machine_text 1 ["machine"] := fun _ _ _ _ _ _ us hl => match us, hl with | [_], _ => rfl
theorem bf_prices_text : BindF d_prices_text 1 ["prices"] := fun _ _ _ _ _ _ us hl => match us, hl with | [_], _ => rfl
theorem bf_run_text : BindF d_run_text 1 ["run"] := fun _ _ _ _ _ _ us hl => match us, hl with | [_], _ => rfl
theorem bf_number_in : BindF d_number_in 1 ["word"] := fun _ _ _ _ _ _ us hl => match us, hl with | [_], _ => rfl
theorem bf_part_in : BindF d_part_in 1 ["word"] := fun _ _ _ _ _ _ us hl => match us, hl with | [_], _ => rfl
theorem bf_pair_in : BindF d_pair_in 1 ["word"] := fun _ _ _ _ _ _ us hl => match us, hl with | [_], _ => rfl
theorem bf_rows_in : BindF d_rows_in 1 ["text"] := fun _ _ _ _ _ _ us hl => match us, hl with | [_], _ => rfl
theorem bf_parted : BindF d_parted 2 ["parts", "many"] := fun _ _ _ _ _ _ us hl => match us, hl with | [_, _], _ => rfl
theorem bf_table_in : BindF d_table_in 2 ["text", "part_of"] := fun _ _ _ _ _ _ us hl => match us, hl with | [_, _], _ => rfl
theorem bf_read_by_deeds : BindF d_read_by_deeds 2 ["text", "part_of"] := fun _ _ _ _ _ _ us hl => match us, hl with | [_, _], _ => rfl
theorem bf_read_saying : BindF d_read_saying 1 ["text"] := fun _ _ _ _ _ _ us hl => match us, hl with | [_], _ => rfl
theorem bf_read_watcher : BindF d_read_watcher 1 ["text"] := fun _ _ _ _ _ _ us hl => match us, hl with | [_], _ => rfl
theorem bf_read_machine : BindF d_read_machine 1 ["text"] := fun _ _ _ _ _ _ us hl => match us, hl with | [_], _ => rfl
theorem bf_read_prices : BindF d_read_prices 1 ["text"] := fun _ _ _ _ _ _ us hl => match us, hl with | [_], _ => rfl
theorem bf_read_run : BindF d_read_run 1 ["text"] := fun _ _ _ _ _ _ us hl => match us, hl with | [_], _ => rfl
theorem bf__law_pot : BindF d__law_pot 2 ["script", "k"] := fun _ _ _ _ _ _ us hl => match us, hl with | [_, _], _ => rfl
theorem bf__law_take : BindF d__law_take 2 ["pot", "many"] := fun _ _ _ _ _ _ us hl => match us, hl with | [_, _], _ => rfl
theorem bf__law_same : BindF d__law_same 2 ["found", "due"] := fun _ _ _ _ _ _ us hl => match us, hl with | [_, _], _ => rfl
theorem bf__law_room : BindF d__law_room 3 ["pot", "rooms", "rate"] := fun _ _ _ _ _ _ us hl => match us, hl with | [_, _, _], _ => rfl
theorem bf__law_saying : BindF d__law_saying 5 ["pot", "signs", "deeds", "rooms", "rate"] := fun _ _ _ _ _ _ us hl => match us, hl with | [_, _, _, _, _], _ => rfl
theorem bf__law_price : BindF d__law_price 4 ["pot", "wanted", "given", "top"] := fun _ _ _ _ _ _ us hl => match us, hl with | [_, _, _, _], _ => rfl
theorem bf__law_prices : BindF d__law_prices 3 ["pot", "deeds", "top"] := fun _ _ _ _ _ _ us hl => match us, hl with | [_, _, _], _ => rfl
theorem bf__law_run : BindF d__law_run 4 ["pot", "signs", "deeds", "many"] := fun _ _ _ _ _ _ us hl => match us, hl with | [_, _, _, _], _ => rfl
theorem bf__law_watcher : BindF d__law_watcher 5 ["pot", "signs", "deeds", "states", "rate"] := fun _ _ _ _ _ _ us hl => match us, hl with | [_, _, _, _, _], _ => rfl
theorem bf__law_machine : BindF d__law_machine 4 ["pot", "signs", "deeds", "rooms"] := fun _ _ _ _ _ _ us hl => match us, hl with | [_, _, _, _], _ => rfl
theorem bf__law_sizes : BindF d__law_sizes 1 ["pot"] := fun _ _ _ _ _ _ us hl => match us, hl with | [_], _ => rfl
theorem bf__law_thing : BindF d__law_thing 2 ["pot", "kind"] := fun _ _ _ _ _ _ us hl => match us, hl with | [_, _], _ => rfl
theorem bf__law_word : BindF d__law_word 1 ["part"] := fun _ _ _ _ _ _ us hl => match us, hl with | [_], _ => rfl
theorem bf__law_lines : BindF d__law_lines 1 ["rows"] := fun _ _ _ _ _ _ us hl => match us, hl with | [_], _ => rfl
theorem bf__law_flat : BindF d__law_flat 1 ["room"] := fun _ _ _ _ _ _ us hl => match us, hl with | [_], _ => rfl
theorem bf__law_written : BindF d__law_written 2 ["kind", "thing"] := fun _ _ _ _ _ _ us hl => match us, hl with | [_, _], _ => rfl
theorem bf__law_shown : BindF d__law_shown 2 ["kind", "thing"] := fun _ _ _ _ _ _ us hl => match us, hl with | [_, _], _ => rfl
theorem bf__law_read : BindF d__law_read 2 ["kind", "line"] := fun _ _ _ _ _ _ us hl => match us, hl with | [_, _], _ => rfl
theorem bf_law : BindF d_law 1 ["script"] := fun _ _ _ _ _ _ us hl => match us, hl with | [_], _ => rfl
theorem ba0 : BindAll fns0 dns0 := ⟨bf_is_whole, bf_is_below, bf_is_count, bf_is_row, bf_is_room, bf_is_saying, bf_are_steps, bf_need_saying, bf_is_price, bf_are_prices, bf_is_cell, bf_is_state, bf_is_watcher, bf_need_watcher, bf_is_go, bf_is_machine, bf_need_machine, bf_part_text, bf_pair_text, bf_rows_text, bf_table_text, bf_saying_words, bf_watcher_words, bf_machine_words, bf_saying_text, bf_watcher_text, bf_machine_text, bf_prices_text, bf_run_text, bf_number_in, trivial⟩
theorem ba1 : BindAll fns1 dns1 := ⟨bf_part_in, bf_pair_in, bf_rows_in, bf_parted, bf_table_in, bf_read_by_deeds, bf_read_saying, bf_read_watcher, bf_read_machine, bf_read_prices, bf_read_run, bf__law_pot, bf__law_take, bf__law_same, bf__law_room, bf__law_saying, bf__law_price, bf__law_prices, bf__law_run, bf__law_watcher, bf__law_machine, bf__law_sizes, bf__law_thing, bf__law_word, bf__law_lines, bf__law_flat, bf__law_written, bf__law_shown, bf__law_read, bf_law, trivial⟩
theorem ba : BindAll fns dns := (ba0.append ba1)
theorem hglo : (fns.map (·.name)).all (fun x => fa.any fun z => match z with | .glo y => decide (y = x) | _ => false) = true := by kernel_rfl
theorem htop : topB fa dns nn Z = true := by kernel_rfl
abbrev Rr : PySem.W.OpenRow := PySem.W.OpenLaw.row PySem.Challenge.rw_mildwarden_k86_texts_written
abbrev hk : PySem.W.Hook := hookM 4 fa dns nn
def ob (s : PySem.W.SharedT) : AlM := obsMG 4 fa dns nn (HandSHeadRun.getT s)
theorem ob_eq (s : PySem.W.SharedT) : ob s = hk.obs s.abs := obsMG_eq (HandSHeadRun.getT_eq s)
theorem run (w : World) : HandSHeadRun.RunEq Rr (PySem.W.view Rr.prog [79]) hk ob 4000 lo w := by
  intro os
  kernel_rfl
theorem hrun0 (n : Nat) : ∀ ns : List Int, ns.length ≤ 63 → (∀ z ∈ ns, Builtin.Int.intBits z ≤ 1048576) → ∃ S, runFn (callF Pg 40) Pg.sub f_law [.fz (ns.map D.int)] [] = .ok (.bl true) S := fun ns _ _ => hrun ns
end K86
open PySem PySem.W PySem.Calls PyProof.Rows
theorem PySem.Challenge.cw_mildwarden_k86_texts_written_holds : PySem.Challenge.rw_mildwarden_k86_texts_written.Holds := by
  w_on; o_law
  refine HandSHeadRun.head_any (r := OpenLaw.row PySem.Challenge.rw_mildwarden_k86_texts_written) (q := view (OpenLaw.row PySem.Challenge.rw_mildwarden_k86_texts_written).prog [79]) (H := K86.hk) (ob := K86.ob) (M := 4000) (loose := K86.lo) (d := HandSHeadRun.topDef (OpenLaw.row PySem.Challenge.rw_mildwarden_k86_texts_written).prog 79) (kwd := []) K86.ob_eq
    (by kernel_rfl) (fun s => by kernel_rfl) K86.run (by kernel_rfl) (by kernel_rfl) (by kernel_rfl) (by rfl) (by first | assumption | decide +kernel) (by decide +kernel) ⟨rfl, rfl, rfl, rfl, rfl, by decide +kernel⟩ ?hw ?hc
  case hw => w_witness2
  case hc =>
    refine LamX.walk_ofTsE (l := PySem.Challenge.rw_mildwarden_k86_texts_written) (n := 63) (k := 41) (x := "script") (CX := fun w => L2.CX (PySem.Challenge.rw_mildwarden_k86_texts_written).prog w) rfl (by decide) (by kernel_rfl) ⟨rfl, by decide, by decide⟩ ?F ?E
    · intro w mg fa h Y G hmg0
      obtain ⟨K, KX, c, cn⟩ := Y
      have hmg : mg ("law" : PySem.Str) = some (.ref fa) := by
        have e : (HandSHeadRun.topDef (OpenLaw.row PySem.Challenge.rw_mildwarden_k86_texts_written).prog 79).name = ("law" : PySem.Str) := by kernel_rfl
        rw [← e]
        exact hmg0
      have hd := MP.defs_of KX G c K86.ok_all K86.ba K86.hglo
      obtain ⟨f, fd, hl, hb⟩ := hd K86.f_law (by first | decide | simp [K86.fns, K86.fns0, K86.fns1])
      exact ⟨K, KX, MP.law_at (Pg := K86.Pg) (n := 40) (MP.topI_by KX G c cn K86.htop) (fun fn hfn => let ⟨f, fd, h, _⟩ := hd fn hfn; ⟨f, fd, h⟩) hl hmg rfl (fun s u => hb s [u] rfl) (K86.hrun0 0)⟩
    · intro w H s e s' hx
      obtain ⟨a, B, H', cls, d, _, _, _, _, _, _, _, hE⟩ := hx
      exact hE

