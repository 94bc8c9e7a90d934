import PyProof.Rows.All
import PySem.Challenge.RW_mildwarden_k75_late
import Wide.All
import OpenK.AllK
import Wide.FinOn
import HandS.ForMost
import HandS.ForExc
import HandS.Defaults
import HandS.CallSlots
import HandS.CallLocal
import HandS.Nested
import HandS.Wide
import HandS.TupAny
import HandS.TupMul
import HandS.Deep
import HandS.IsInst
import HandS.FStr
import HandS.TupLen
import HandS.SortInts
import HandS.More
import KE.DataMinMax
import KE.KTupSum
import HandS.Text
import HandS.Walk
import HandS.Zip
import HandS.NoneIn
import KE.GoesEnum
import KE.KUnpackStar
import HandS.ExcCtx
import HandS.HotCalls
import HandS.ExcIs
import PyProof.ReprRoads
import PyProof.Rows.TupDisplay
import HandS.Ends
import HandS.Exc
import HandS.EndTab
import HandS.HeadWalk
import HandS.Head0
import HandS.Head1
import HandS.Head2
import HandS.HeadEnd
import HandS.HeadHook1
import HandS.HeadHook2
import HandS.HeadHook4
import HandS.EndBits
import PyProof.StrLawsRepr
import PyProof.FitsInt
set_option Elab.async false
set_option linter.all false
set_option maxRecDepth 100000
set_option maxHeartbeats 0
namespace MP
open PySem PySem.Spec L2
/-- a value, told as a tree -/
inductive D where
  | non | bl (b : Bool) | int (i : Int) | str (s : Str) | tup (l : List D) | lst (l : List D) | dct (t : Bool) (ks vs : List D)
  | fz (l : List D) | ref (n : Nat) | fn (x : Str)
/-- a dict's key: an int or a text; a tuple of such -/
def keyK : D → Option Key
  | .int i => some (.inl i)
  | .str x => some (.inr x)
  | _ => none
def keysK : List D → Option (List Key)
  | [] => some []
  | d :: r => (keyK d).bind fun k => (keysK r).map (k :: ·)
def keyT : D → Option (List Key)
  | .tup l => keysK l
  | _ => none
def keysT : List D → Option (List (List Key))
  | [] => some []
  | d :: r => (keyT d).bind fun k => (keysT r).map (k :: ·)

structure Gp where
  P : Program
  w : World
  K : PySem.W.Frag
  mg : Str → Option Value
  base : Heap

def Sub (G H : Hp) : Prop := ∀ a o, G a = some o → H a = some o

theorem Rd.mono {G H : Hp} {a : Addr} {u : HO} (s : Sub G H) (q : Rd G a u) : Rd H a u := q.elim (fun z => .inl (s _ _ z)) fun ⟨o, z⟩ => .inr ⟨o, s _ _ z⟩
mutual
def rep (g : Gp) (μ : List Addr) (G : Hp) : D → V → Prop
  | .non, v => v = .non
  | .bl b, v => v = .bl b
  | .int i, v => v = .int i
  | .str s, v => v = .str s
  | .tup l, v => ∃ a vs, v = .ref a ∧ G a = some (.tup vs) ∧ reps g μ G l vs
  | .lst l, v => ∃ a vs, v = .ref a ∧ G a = some (.lst vs) ∧ reps g μ G l vs
  | .fz l, v => ∃ a vs, v = .ref a ∧ SqL g.K G a vs ∧ reps g μ G l vs
  | .ref n, v => ∃ a, v = .ref a ∧ μ[n]? = some a
  | .fn x, v => ∃ a, v = .ref a ∧ g.mg x = some (.ref a) ∧ PySem.W.keepIn g.K (.ref a) = true
  | .dct false ks vs, v => ∃ a kvs, v = .ref a ∧ Rd G a (.dK kvs) ∧ keysK ks = some (kvs.map (·.1)) ∧ reps g μ G vs (kvs.map (·.2))
  | .dct true ks vs, v => ∃ a kvs, v = .ref a ∧ Rd G a (.dT kvs) ∧ keysT ks = some (kvs.map (·.1)) ∧ reps g μ G vs (kvs.map (·.2))
def reps (g : Gp) (μ : List Addr) (G : Hp) : List D → List V → Prop
  | [], vs => vs = []
  | d :: ds, vs => ∃ v r, vs = v :: r ∧ rep g μ G d v ∧ reps g μ G ds r
end
theorem rep_tup {g : Gp} {μ G l v} : rep g μ G (.tup l) v ↔ ∃ a vs, v = .ref a ∧ G a = some (.tup vs) ∧ reps g μ G l vs := Iff.rfl
mutual
theorem rep_mono {g : Gp} {μ μ' : List Addr} {G G' : Hp} (hG : Sub G G') (hμ : ∀ (n : Nat) (a : Addr), μ[n]? = some a → μ'[n]? = some a) : ∀ (d : D) (v : V), rep g μ G d v → rep g μ' G' d v
  | .non, v, h => h
  | .bl b, v, h => h
  | .int i, v, h => h
  | .str s, v, h => h
  | .tup l, v, ⟨a, vs, e, q, r⟩ => ⟨a, vs, e, hG _ _ q, reps_mono hG hμ l vs r⟩
  | .lst l, v, ⟨a, vs, e, q, r⟩ => ⟨a, vs, e, hG _ _ q, reps_mono hG hμ l vs r⟩
  | .fz l, v, ⟨a, vs, e, q, r⟩ => ⟨a, vs, e, by
      rcases q with q | q
      · exact .inl (q.elim (fun z => .inl (hG _ _ z)) fun ⟨o, z⟩ => .inr ⟨o, hG _ _ z⟩)
      · exact .inr q, reps_mono hG hμ l vs r⟩
  | .ref n, v, ⟨a, e, q⟩ => ⟨a, e, hμ _ _ q⟩
  | .fn x, v, h => h
  | .dct false ks vs, v, ⟨a, kvs, e, q, k, r⟩ => ⟨a, kvs, e, Rd.mono hG q, k, reps_mono hG hμ vs _ r⟩
  | .dct true ks vs, v, ⟨a, kvs, e, q, k, r⟩ => ⟨a, kvs, e, Rd.mono hG q, k, reps_mono hG hμ vs _ r⟩
theorem reps_mono {g : Gp} {μ μ' : List Addr} {G G' : Hp} (hG : Sub G G') (hμ : ∀ (n : Nat) (a : Addr), μ[n]? = some a → μ'[n]? = some a) : ∀ (ds : List D) (vs : List V), reps g μ G ds vs → reps g μ' G' ds vs
  | [], vs, h => h
  | d :: ds, vs, ⟨v, r, e, h1, h2⟩ => ⟨v, r, e, rep_mono hG hμ d v h1, reps_mono hG hμ ds r h2⟩
end
end MP

namespace MP
open PySem PySem.Spec L2
/-- a thing that changes -/
inductive MO where
  | lst (l : List D) | dct (t : Bool) (ks vs : List D) | ins (C : Str) (fs : List (Str × D))
/-- fdef k: the frame's own inner def number k; clo k caps: an inner def handed in, with what it captured; exn c: the exception that is handled -/
inductive Slot where
  | none | val (d : D) | own (o : MO) | lck (o : MO) | fdef (k : Nat) | clo (k : Nat) (caps : List D) | exn (c : Str)
abbrev Fr := List Slot
abbrev Store := List MO
/-- an inner def's text: its words, the names that it captures -/
structure NfD where
  name : Str
  qual : Str
  params : Arguments
  body : List Stmt
  scope : Scope
  fr : List Str
def NfD.nf (d : NfD) (cells : List (Str × Addr)) (c : Addr) : NdefX.NF := ⟨d.name, d.qual, d.params, d.body, d.scope, cells, c⟩
def moD : MO → Option D
  | .lst l => some (.lst l)
  | .dct t ks vs => some (.dct t ks vs)
  | .ins _ _ => none
/-- what is known around a frame: tables of code objects, the inner defs' texts, the frame's cells, the exception that is handled -/
structure Tx where
  tabs : List NdefX.NTab
  nfs : List NfD
  cells : List (Str × Addr)
  exn : Option (Addr × Value)
/-- a cell, as it is known in a called def -/
def CellO (c : Addr) (o : Obj) : HO := .frz o (.ext fun h => ∃ u, h.get? c = some u)
/-- what v captured -/
structure CloOk (g : Gp) (nfs : List NfD) (μ : List Addr) (G : Hp) (k : Nat) (caps : List D) (f : Addr) : Prop where
  ex : ∃ d cl c', nfs[k]? = some d ∧ G f = some (NdefX.FnO f (d.nf cl c')) ∧ G c' = some (LamX.CodeO c' d.qual) ∧ caps.length = d.fr.length ∧
    (∀ x y c, cl.lookup x = some c → cl.lookup y = some c → x = y) ∧ (∀ y c, cl.lookup y = some c → ∃ o u, G c = some (CellO c o) ∧ o.data = .cell u) ∧
    ∀ (i : Nat) (y : Str) (x : D), d.fr[i]? = some y → caps[i]? = some x → ∃ c o u w, cl.lookup y = some c ∧ G c = some (CellO c o) ∧ o.data = .cell (some u) ∧ RelV w u ∧ rep g μ G x w
/-- a thing that is being built -/
inductive PinO where
  | lst (vs : List V) | dK (kvs : List (Key × V)) | dT (kvs : List (List Key × V))
def PinO.ho : PinO → HO
  | .lst vs => .lst vs
  | .dK kvs => .dK kvs
  | .dT kvs => .dT kvs
theorem PinO.nt (o : PinO) : ∀ ps, o.ho ≠ .tbl ps := fun ps z => by cases o <;> cases z
theorem PinO.ne (o : PinO) : ∀ φ, o.ho ≠ .ext φ := fun φ z => by cases o <;> cases z
theorem PinO.nc (o : PinO) : ∀ c u, o.ho ≠ .frz c u := fun c u z => by cases o <;> cases z
structure Bs where
  H0 : Hp
  G0 : Hp
  μ0 : List Addr
  pin : Addr → Option PinO := fun _ => Option.none
def mrep (g : Gp) (μ : List Addr) (G H : Hp) (a : Addr) : MO → Prop
  | .lst l => ∃ vs, H a = some (.lst vs) ∧ reps g μ G l vs
  | .dct false ks vs => ∃ kvs, H a = some (.dK kvs) ∧ keysK ks = some (kvs.map (·.1)) ∧ reps g μ G vs (kvs.map (·.2))
  | .dct true ks vs => ∃ kvs, H a = some (.dT kvs) ∧ keysT ks = some (kvs.map (·.1)) ∧ reps g μ G vs (kvs.map (·.2))
  | .ins C fs => ∃ Ca dx fvs, H a = some (.ins Ca dx fvs) ∧ g.mg C = some (.ref Ca) ∧ fs.map (·.1) = fvs.map (·.1) ∧ reps g μ G (fs.map (·.2)) (fvs.map (·.2))
/-- .. as it is read -/
def mrepL (g : Gp) (μ : List Addr) (G H : Hp) (a : Addr) : MO → Prop
  | .lst l => ∃ vs, H a = some (.lst vs) ∧ reps g μ G l vs
  | .dct false ks vs => ∃ kvs, Rd H a (.dK kvs) ∧ keysK ks = some (kvs.map (·.1)) ∧ reps g μ G vs (kvs.map (·.2))
  | .dct true ks vs => ∃ kvs, Rd H a (.dT kvs) ∧ keysT ks = some (kvs.map (·.1)) ∧ reps g μ G vs (kvs.map (·.2))
  | .ins C fs => ∃ Ca dx fvs, H a = some (.ins Ca dx fvs) ∧ g.mg C = some (.ref Ca) ∧ fs.map (·.1) = fvs.map (·.1) ∧ reps g μ G (fs.map (·.2)) (fvs.map (·.2))
theorem mrep.L {g : Gp} {μ G H a o} (h : mrep g μ G H a o) : mrepL g μ G H a o := by
  cases o with
  | lst l => exact h
  | dct t ks vs => cases t <;> (obtain ⟨kvs, e, r⟩ := h; exact ⟨kvs, .inl e, r⟩)
  | ins _ _ => exact h
theorem mrepL_some {g : Gp} {μ G H a o} (h : mrepL g μ G H a o) : ∃ u, H a = some u ∧ ∀ ps, u ≠ .tbl ps := by
  cases o with
  | lst l => obtain ⟨vs, e, _⟩ := h; exact ⟨_, e, fun ps z => nomatch z⟩
  | dct t ks vs => cases t <;> (obtain ⟨vs, e | ⟨o, e⟩, _⟩ := h; exact ⟨_, e, fun ps z => nomatch z⟩; exact ⟨_, e, fun ps z => nomatch z⟩)
  | ins _ _ => obtain ⟨_, _, _, e, _⟩ := h; exact ⟨_, e, fun ps z => nomatch z⟩
theorem mrepL_mono {g : Gp} {μ μ' : List Addr} {G G' H H' : Hp} {a : Addr} {o : MO} (hG : Sub G G') (hμ : ∀ (n : Nat) (b : Addr), μ[n]? = some b → μ'[n]? = some b) (hH : H' a = H a) (h : mrepL g μ G H a o) : mrepL g μ' G' H' a o := by
  cases o with
  | lst l => obtain ⟨vs, e, r⟩ := h; exact ⟨vs, hH.trans e, reps_mono hG hμ _ _ r⟩
  | dct t ks vs => cases t <;> (obtain ⟨kvs, e, k, r⟩ := h; exact ⟨kvs, e.imp (hH.trans ·) (fun ⟨o, q⟩ => ⟨o, hH.trans q⟩), k, reps_mono hG hμ _ _ r⟩)
  | ins _ _ => obtain ⟨C, dx, fvs, e, k, n, r⟩ := h; exact ⟨C, dx, fvs, hH.trans e, k, n, reps_mono hG hμ _ _ r⟩
theorem mrep_some {g : Gp} {μ G H a o} (h : mrep g μ G H a o) : ∃ u, H a = some u ∧ ∀ ps, u ≠ .tbl ps := by
  cases o with
  | lst l => obtain ⟨vs, e, _⟩ := h; exact ⟨_, e, fun ps z => nomatch z⟩
  | dct t ks vs => cases t <;> (obtain ⟨vs, e, _⟩ := h; exact ⟨_, e, fun ps z => nomatch z⟩)
  | ins _ _ => obtain ⟨_, _, _, e, _⟩ := h; exact ⟨_, e, fun ps z => nomatch z⟩
theorem mrep_noext {g : Gp} {μ G H a o ψ} (h : mrep g μ G H a o) (q : H a = some (.ext ψ)) : False := by
  cases o with
  | lst l => obtain ⟨vs, e, _⟩ := h; rw [q] at e; cases e
  | dct t ks vs => cases t <;> (obtain ⟨vs, e, _⟩ := h; rw [q] at e; cases e)
  | ins _ _ => obtain ⟨_, _, _, e, _⟩ := h; rw [q] at e; cases e
theorem mrep_nofrz {g : Gp} {μ G H a o u ψ} (h : mrep g μ G H a o) (q : H a = some (.frz u ψ)) : False := by
  cases o with
  | lst l => obtain ⟨vs, e, _⟩ := h; rw [q] at e; cases e
  | dct t ks vs => cases t <;> (obtain ⟨vs, e, _⟩ := h; rw [q] at e; cases e)
  | ins _ _ => obtain ⟨_, _, _, e, _⟩ := h; rw [q] at e; cases e
theorem mrep_mono {g : Gp} {μ μ' : List Addr} {G G' H H' : Hp} {a : Addr} {o : MO} (hG : Sub G G') (hμ : ∀ (n : Nat) (b : Addr), μ[n]? = some b → μ'[n]? = some b) (hH : H' a = H a) (h : mrep g μ G H a o) : mrep g μ' G' H' a o := by
  cases o with
  | lst l => obtain ⟨vs, e, r⟩ := h; exact ⟨vs, hH.trans e, reps_mono hG hμ _ _ r⟩
  | dct t ks vs => cases t <;> (obtain ⟨kvs, e, k, r⟩ := h; exact ⟨kvs, hH.trans e, k, reps_mono hG hμ _ _ r⟩)
  | ins _ _ => obtain ⟨C, dx, fvs, e, k, n, r⟩ := h; exact ⟨C, dx, fvs, hH.trans e, k, n, reps_mono hG hμ _ _ r⟩
theorem CloOk.mono {g : Gp} {nfs : List NfD} {μ μ' : List Addr} {G G' : Hp} {k : Nat} {caps : List D} {f : Addr} (hG : Sub G G') (hμ : ∀ (n : Nat) (b : Addr), μ[n]? = some b → μ'[n]? = some b) (h : CloOk g nfs μ G k caps f) : CloOk g nfs μ' G' k caps f := by
  obtain ⟨⟨d, cl, c', h1, h2, h3, h4, h5, h6, h7⟩⟩ := h
  refine ⟨d, cl, c', h1, hG _ _ h2, hG _ _ h3, h4, h5, fun y c e => ?_, fun i y e e1 e2 => ?_⟩
  · obtain ⟨o, u, a, b⟩ := h6 y c e
    exact ⟨o, u, hG _ _ a, b⟩
  · obtain ⟨c, o, u, w, a1, a2, a3, a4, a5⟩ := h7 i y e e1 e2
    exact ⟨c, o, u, w, a1, hG _ _ a2, a3, a4, rep_mono hG hμ _ _ a5⟩
/-- what a slot that never changes its thing holds -/
def slotV (g : Gp) (T : Tx) (μ : List Addr) (G : Hp) : Slot → V → Prop
  | .val d, v => rep g μ G d v
  | .fdef k, v => ∃ f c' d, v = .ref f ∧ T.nfs[k]? = some d ∧ G f = some (NdefX.FnO f (d.nf (cloFrom T.cells d.scope.names []) c')) ∧ G c' = some (LamX.CodeO c' d.qual)
  | .clo k caps, v => ∃ f, v = .ref f ∧ CloOk g T.nfs μ G k caps f
  | .exn c, v => ∃ a, v = .ref a ∧ T.exn = some (a, (g.mg c).getD .none)
  | _, _ => False
theorem slotV_mono {g : Gp} {T : Tx} {μ μ' : List Addr} {G G' : Hp} (hG : Sub G G') (hμ : ∀ (n : Nat) (b : Addr), μ[n]? = some b → μ'[n]? = some b) {sl : Slot} {v : V} (h : slotV g T μ G sl v) : slotV g T μ' G' sl v := by
  cases sl with
  | val d => exact rep_mono hG hμ d v h
  | fdef k => obtain ⟨f, c', d, h1, h2, h3, h4⟩ := h; exact ⟨f, c', d, h1, h2, hG _ _ h3, hG _ _ h4⟩
  | clo k caps => obtain ⟨f, h1, h2⟩ := h; exact ⟨f, h1, h2.mono hG hμ⟩
  | exn c => exact h
  | _ => exact h
def slotOk (g : Gp) (T : Tx) (B : Bs) (G : Hp) (μ : List Addr) (σ : St) (H : Hp) (i : Nat) : Slot → Prop
  | .none => True
  | .val d => ∃ v, σ[i]? = some (some v) ∧ slotV g T μ G (.val d) v
  | .own o => ∃ a, σ[i]? = some (some (.ref a)) ∧ mrep g μ G H a o ∧ a ∉ μ ∧ G a = none ∧ B.H0 a = none
  | .lck o => ∃ a, σ[i]? = some (some (.ref a)) ∧ mrepL g μ G B.H0 a o ∧ a ∉ B.μ0
  | .fdef k => ∃ v, σ[i]? = some (some v) ∧ slotV g T μ G (.fdef k) v
  | .clo k caps => ∃ v, σ[i]? = some (some v) ∧ slotV g T μ G (.clo k caps) v
  | .exn c => ∃ v, σ[i]? = some (some v) ∧ slotV g T μ G (.exn c) v
structure Sim (g : Gp) (T : Tx) (B : Bs) (G : Hp) (μ : List Addr) (ρ : Fr) (S : Store) (σ : St) (H : Hp) : Prop where
  gh : Sub G H
  base : ∀ a o, B.H0 a = some o → a ∉ B.μ0 → (∀ ps, o ≠ .tbl ps) → H a = some o
  gone : ∀ a, H a = none → B.H0 a = none
  g0 : Sub B.G0 G
  gnew : ∀ a o, G a = some o → B.G0 a = some o ∨ B.H0 a = none ∨ ∃ φ, o = .ext φ
  mu0 : ∃ more, μ = B.μ0 ++ more ∧ ∀ a ∈ more, B.H0 a = none
  munod : μ.Nodup
  muG : ∀ a ∈ μ, G a = none
  slen : S.length = μ.length
  store : ∀ (n : Nat) o a, S[n]? = some o → μ[n]? = some a → mrep g μ G H a o
  len : ρ.length = σ.length
  slots : ∀ (i : Nat) sl, ρ[i]? = some sl → slotOk g T B G μ σ H i sl
  dis : ∀ (i j : Nat) m m', ρ[i]? = some (.own m) → ρ[j]? = some (.own m') → i ≠ j → σ[i]? ≠ σ[j]?
  tabs : NdefX.TabsN T.tabs H
  notbl : ∀ a ps, G a ≠ some (.tbl ps)
  pins : ∀ a vs, B.pin a = some vs → H a = some vs.ho ∧ a ∉ μ ∧ G a = none ∧ B.H0 a = none ∧ ∀ (i : Nat) m, ρ[i]? = some (.own m) → σ[i]? ≠ some (some (.ref a))
theorem Sub.refl (G : Hp) : Sub G G := fun _ _ h => h
theorem Sub.trans {G G1 G2 : Hp} (a : Sub G G1) (b : Sub G1 G2) : Sub G G2 := fun x o h => b x o (a x o h)
theorem Sub.add {G : Hp} {p : Addr} {o : HO} (h : G p = none) : Sub G (upd G p o) := fun a u e => by
  rw [upd_ne (ne_of_none e h)]; exact e
theorem Sub.both {G H : Hp} {p : Addr} {o : HO} (s : Sub G H) : Sub (upd G p o) (upd H p o) := fun a u e => by
  by_cases h : a = p
  · subst h; rw [upd_same] at e ⊢; exact e
  · rw [upd_ne h] at e ⊢; exact s _ _ e
theorem Sub.none {G H : Hp} {p : Addr} (s : Sub G H) (h : H p = none) : G p = none := by
  cases e : G p with
  | none => rfl
  | some o => rw [s _ _ e] at h; cases h
section
variable {g : Gp} {T : Tx} {B : Bs} {G : Hp} {μ : List Addr} {ρ : Fr} {S : Store} {σ : St} {H : Hp}
theorem Sim.muH (I : Sim g T B G μ ρ S σ H) {a : Addr} (h : a ∈ μ) : ∃ u, H a = some u ∧ ∀ ps, u ≠ .tbl ps := by
  obtain ⟨n, hn⟩ := List.mem_iff_getElem?.mp h
  have hl : n < S.length := by rw [I.slen]; exact (List.getElem?_eq_some_iff.mp hn).1
  exact mrep_some (I.store n S[n] a (List.getElem?_eq_getElem hl) hn)
theorem Sim.nmu (I : Sim g T B G μ ρ S σ H) {p : Addr} (hp : H p = none) : p ∉ μ := fun h => by
  obtain ⟨u, e, _⟩ := I.muH h
  rw [hp] at e; cases e
theorem Sim.mu0sub (I : Sim g T B G μ ρ S σ H) {a : Addr} (h : a ∈ B.μ0) : a ∈ μ := by
  obtain ⟨more, e, _⟩ := I.mu0
  rw [e]; exact List.mem_append_left _ h
theorem Sim.own_ne (I : Sim g T B G μ ρ S σ H) {p : Addr} {i : Nat} {m : MO} (hp : H p = none) (h : ρ[i]? = some (.own m)) : σ[i]? ≠ some (some (.ref p)) := fun e => by
  obtain ⟨a, e1, e2, _⟩ := I.slots i _ h
  rw [e] at e1
  cases e1
  obtain ⟨u, q, _⟩ := mrep_some e2
  rw [hp] at q; cases q
/-- H changes off G, the store and the frame's own -/
theorem Sim.heap {H' : Hp} (I : Sim g T B G μ ρ S σ H) (k : ∀ a o, H a = some o → H' a = some o) : Sim g T B G μ ρ S σ H' := by
  refine ⟨I.gh.trans k, fun a o e1 e2 e3 => k _ _ (I.base a o e1 e2 e3), fun a e => I.gone a ?_, I.g0, I.gnew, I.mu0, I.munod, I.muG, I.slen, fun n o a e1 e2 => ?_, I.len, fun i sl e => ?_, I.dis, I.tabs.ext k, I.notbl, fun a vs e => let z := I.pins a vs e; ⟨k _ _ z.1, z.2⟩⟩
  · cases q : H a with
    | none => rfl
    | some u => rw [k _ _ q] at e; cases e
  · have z := I.store n o a e1 e2
    obtain ⟨u, q, _⟩ := mrep_some z
    exact mrep_mono (Sub.refl _) (fun _ _ h => h) ((k _ _ q).trans q.symm) z
  · have z := I.slots i sl e
    cases sl with
    | none => trivial
    | val d => exact z
    | fdef k => exact z
    | clo k caps => exact z
    | exn c => exact z
    | own o =>
      obtain ⟨a, e1, e2, e3, e4, e5⟩ := z
      obtain ⟨u, q, _⟩ := mrep_some e2
      exact ⟨a, e1, mrep_mono (Sub.refl _) (fun _ _ h => h) ((k _ _ q).trans q.symm) e2, e3, e4, e5⟩
    | lck o => exact z
theorem Sim.fresh {p : Addr} {o : HO} (I : Sim g T B G μ ρ S σ H) (hp : H p = none) : Sim g T B G μ ρ S σ (upd H p o) := I.heap (Sub.add hp)
/-- a thing is frozen -/
theorem Sim.freeze {p : Addr} {o : HO} (I : Sim g T B G μ ρ S σ H) (h1 : H p = some o) (h2 : p ∉ μ) (h3 : G p = none) (h4 : B.H0 p = none)
    (h5 : ∀ (i : Nat) m, ρ[i]? = some (.own m) → σ[i]? ≠ some (some (.ref p))) (h6 : ∀ ps, o ≠ .tbl ps) (h7 : B.pin p = none) : Sim g T B (upd G p o) μ ρ S σ H := by
  have sg : Sub G (upd G p o) := Sub.add h3
  refine ⟨fun a u e => ?_, I.base, I.gone, I.g0.trans sg, fun a u e => ?_, I.mu0, I.munod, fun a ha => ?_, I.slen, fun n m a e1 e2 => mrep_mono sg (fun _ _ h => h) rfl (I.store n m a e1 e2), I.len, fun i sl e => ?_, I.dis, I.tabs, fun a ps e => ?_, fun a vs e => ?_⟩
  · by_cases ha : a = p
    · subst ha; rw [upd_same] at e; cases e; exact h1
    · rw [upd_ne ha] at e; exact I.gh _ _ e
  · by_cases ha : a = p
    · subst ha; exact .inr (.inl h4)
    · rw [upd_ne ha] at e; exact I.gnew _ _ e
  · have ne : a ≠ p := fun z => h2 (z ▸ ha)
    rw [upd_ne ne]; exact I.muG a ha
  · have z := I.slots i sl e
    cases sl with
    | none => trivial
    | val d => obtain ⟨v, e1, r⟩ := z; exact ⟨v, e1, slotV_mono sg (fun _ _ h => h) r⟩
    | fdef k => obtain ⟨v, e1, r⟩ := z; exact ⟨v, e1, slotV_mono sg (fun _ _ h => h) r⟩
    | clo k caps => obtain ⟨v, e1, r⟩ := z; exact ⟨v, e1, slotV_mono sg (fun _ _ h => h) r⟩
    | exn c => obtain ⟨v, e1, r⟩ := z; exact ⟨v, e1, slotV_mono sg (fun _ _ h => h) r⟩
    | own m =>
      obtain ⟨a, e1, e2, e3, e4, e5⟩ := z
      have ne : a ≠ p := fun q => h5 i m e (by rw [e1, q])
      exact ⟨a, e1, mrep_mono sg (fun _ _ h => h) rfl e2, e3, by rw [upd_ne ne]; exact e4, e5⟩
    | lck m => obtain ⟨a, e1, e2, e3⟩ := z; exact ⟨a, e1, mrepL_mono sg (fun _ _ h => h) rfl e2, e3⟩
  · by_cases ha : a = p
    · subst ha; rw [upd_same] at e; cases e; exact h6 ps rfl
    · rw [upd_ne ha] at e; exact I.notbl _ _ e
  · obtain ⟨z1, z2, z3, z4, z5⟩ := I.pins a vs e
    exact ⟨z1, z2, by rw [upd_ne (fun q => by rw [q, h7] at e; cases e)]; exact z3, z4, z5⟩
theorem Sim.npin (I : Sim g T B G μ ρ S σ H) {p : Addr} (hp : H p = none) : B.pin p = none := by
  cases e : B.pin p with
  | none => rfl
  | some vs => rw [(I.pins p vs e).1] at hp; cases hp
/-- a new thing, frozen at once -/
theorem Sim.newG {p : Addr} {o : HO} (I : Sim g T B G μ ρ S σ H) (hp : H p = none) (h6 : ∀ ps, o ≠ .tbl ps) : Sim g T B (upd G p o) μ ρ S σ (upd H p o) :=
  (I.fresh hp).freeze upd_same (I.nmu hp) (I.gh.none hp) (I.gone p hp) (fun i m h => I.own_ne hp h) h6 (I.npin hp)
theorem Sim.setval {i : Nat} {d : D} {v : V} (I : Sim g T B G μ ρ S σ H) (r : rep g μ G d v) : Sim g T B G μ (ρ.set i (.val d)) S (σ.set i (some v)) H := by
  refine ⟨I.gh, I.base, I.gone, I.g0, I.gnew, I.mu0, I.munod, I.muG, I.slen, I.store, by simpa using I.len, fun j sl e => ?_, fun j k m m' e1 e2 ne => ?_, I.tabs, I.notbl, fun a vs e => ?_⟩
  · by_cases hj : j = i
    · subst hj
      rw [List.getElem?_set] at e
      simp only [if_true] at e
      split at e
      · rename_i hl
        cases e
        exact ⟨v, by rw [List.getElem?_set_self (by rw [← I.len]; exact hl)], r⟩
      · cases e
    · rw [List.getElem?_set_ne (Ne.symm hj)] at e
      have z := I.slots j sl e
      have es : (σ.set i (some v))[j]? = σ[j]? := List.getElem?_set_ne (Ne.symm hj)
      cases sl with
      | none => trivial
      | val d => obtain ⟨w, e1, r⟩ := z; exact ⟨w, es.trans e1, r⟩
      | fdef k => obtain ⟨w, e1, r⟩ := z; exact ⟨w, es.trans e1, r⟩
      | clo k caps => obtain ⟨w, e1, r⟩ := z; exact ⟨w, es.trans e1, r⟩
      | exn c => obtain ⟨w, e1, r⟩ := z; exact ⟨w, es.trans e1, r⟩
      | own m => obtain ⟨a, e1, z⟩ := z; exact ⟨a, es.trans e1, z⟩
      | lck m => obtain ⟨a, e1, z⟩ := z; exact ⟨a, es.trans e1, z⟩
  · have hj : j ≠ i := fun q => by
      subst q; rw [List.getElem?_set] at e1; simp only [if_true] at e1; split at e1 <;> cases e1
    have hk : k ≠ i := fun q => by
      subst q; rw [List.getElem?_set] at e2; simp only [if_true] at e2; split at e2 <;> cases e2
    rw [List.getElem?_set_ne (Ne.symm hj)] at e1 ⊢
    rw [List.getElem?_set_ne (Ne.symm hk)] at e2 ⊢
    exact I.dis j k m m' e1 e2 ne
  · obtain ⟨z1, z2, z3, z4, z5⟩ := I.pins a vs e
    refine ⟨z1, z2, z3, z4, fun j m q => ?_⟩
    have hj : j ≠ i := fun q2 => by
      subst q2; rw [List.getElem?_set] at q; simp only [if_true] at q; split at q <;> cases q
    rw [List.getElem?_set_ne (Ne.symm hj)] at q ⊢
    exact z5 j m q
/-- a new list of the frame's own -/
theorem Sim.setown {i : Nat} {m : MO} {p : Addr} (I : Sim g T B G μ ρ S σ H) (r : mrep g μ G H p m) (h2 : p ∉ μ) (h3 : G p = none) (h4 : B.H0 p = none)
    (h5 : ∀ (i : Nat) m, ρ[i]? = some (.own m) → σ[i]? ≠ some (some (.ref p))) (h7 : B.pin p = none) : Sim g T B G μ (ρ.set i (.own m)) S (σ.set i (some (.ref p))) H := by
  refine ⟨I.gh, I.base, I.gone, I.g0, I.gnew, I.mu0, I.munod, I.muG, I.slen, I.store, by simpa using I.len, fun j sl e => ?_, fun j k m1 m2 e1 e2 ne => ?_, I.tabs, I.notbl, fun a vs e => ?_⟩
  · by_cases hj : j = i
    · subst hj
      rw [List.getElem?_set] at e
      simp only [if_true] at e
      split at e
      · rename_i hl
        cases e
        exact ⟨p, by rw [List.getElem?_set_self (by rw [← I.len]; exact hl)], r, h2, h3, h4⟩
      · cases e
    · rw [List.getElem?_set_ne (Ne.symm hj)] at e
      have z := I.slots j sl e
      have es : (σ.set i (some (.ref p)))[j]? = σ[j]? := List.getElem?_set_ne (Ne.symm hj)
      cases sl with
      | none => trivial
      | val d => obtain ⟨w, e1, r⟩ := z; exact ⟨w, es.trans e1, r⟩
      | fdef k => obtain ⟨w, e1, r⟩ := z; exact ⟨w, es.trans e1, r⟩
      | clo k caps => obtain ⟨w, e1, r⟩ := z; exact ⟨w, es.trans e1, r⟩
      | exn c => obtain ⟨w, e1, r⟩ := z; exact ⟨w, es.trans e1, r⟩
      | own m => obtain ⟨a, e1, z⟩ := z; exact ⟨a, es.trans e1, z⟩
      | lck m => obtain ⟨a, e1, z⟩ := z; exact ⟨a, es.trans e1, z⟩
  · by_cases hj : j = i
    · have hk : k ≠ i := fun q => ne (hj.trans q.symm)
      subst hj
      rw [List.getElem?_set_ne (Ne.symm hk)] at e2 ⊢
      have hl : j < σ.length := by
        rw [List.getElem?_set] at e1
        simp only [if_true] at e1
        split at e1
        · rename_i hl; rw [← I.len]; exact hl
        · cases e1
      rw [List.getElem?_set_self hl]
      exact fun q => h5 k m2 e2 q.symm
    · rw [List.getElem?_set_ne (Ne.symm hj)] at e1 ⊢
      by_cases hk : k = i
      · subst hk
        have hl : k < σ.length := by
          rw [List.getElem?_set] at e2
          simp only [if_true] at e2
          split at e2
          · rename_i hl; rw [← I.len]; exact hl
          · cases e2
        rw [List.getElem?_set_self hl]
        exact h5 j m1 e1
      · rw [List.getElem?_set_ne (Ne.symm hk)] at e2 ⊢
        exact I.dis j k m1 m2 e1 e2 ne
  · obtain ⟨z1, z2, z3, z4, z5⟩ := I.pins a vs e
    refine ⟨z1, z2, z3, z4, fun j m q => ?_⟩
    by_cases hj : j = i
    · subst hj
      have hl : j < σ.length := by
        rw [List.getElem?_set] at q
        simp only [if_true] at q
        split at q
        · rename_i hl; rw [← I.len]; exact hl
        · cases q
      rw [List.getElem?_set_self hl]
      intro q2
      cases q2
      rw [h7] at e; cases e
    · rw [List.getElem?_set_ne (Ne.symm hj)] at q ⊢
      exact z5 j m q
/-- a thing of the frame's own is written -/
theorem Sim.ownwrite {i : Nat} {m m' : MO} {a : Addr} {o : HO} (I : Sim g T B G μ ρ S σ H) (hi : ρ[i]? = some (.own m)) (ha : σ[i]? = some (some (.ref a))) (r : mrep g μ G (upd H a o) a m') : Sim g T B G μ (ρ.set i (.own m')) S σ (upd H a o) := by
  obtain ⟨a', e1, e2, e3, e4, e5⟩ := I.slots i _ hi
  rw [ha] at e1; cases e1
  have off : ∀ b, b ≠ a → upd H a o b = H b := fun b h => upd_ne h
  obtain ⟨u0, q0, nt0⟩ := mrep_some e2
  obtain ⟨u1, q1, nt1⟩ := mrep_some r
  rw [upd_same] at q1; cases q1
  refine ⟨fun b u e => ?_, fun b u z1 z2 z3 => ?_, fun b e => ?_, I.g0, I.gnew, I.mu0, I.munod, I.muG, I.slen, fun n k b z1 z2 => ?_, by simpa using I.len, fun j sl e => ?_, fun j k m1 m2 z1 z2 ne => ?_, ?_, I.notbl, fun b vs e => ?_⟩
  · rw [off b (fun q => by rw [q, e4] at e; cases e)]; exact I.gh _ _ e
  · rw [off b (fun q => by rw [q, e5] at z1; cases z1)]; exact I.base b u z1 z2 z3
  · by_cases hb : b = a
    · subst hb; exact e5
    · rw [off b hb] at e; exact I.gone b e
  · have z := I.store n k b z1 z2
    have hb : b ≠ a := fun q => e3 (q ▸ List.mem_of_getElem? z2)
    exact mrep_mono (Sub.refl _) (fun _ _ h => h) (off b hb) z
  · by_cases hj : j = i
    · subst hj
      rw [List.getElem?_set] at e
      simp only [if_true] at e
      split at e
      · cases e
        exact ⟨a, ha, r, e3, e4, e5⟩
      · cases e
    · rw [List.getElem?_set_ne (Ne.symm hj)] at e
      have z := I.slots j sl e
      cases sl with
      | none => trivial
      | val d => exact z
      | fdef k => exact z
      | clo k caps => exact z
      | exn c => exact z
      | own k =>
        obtain ⟨b, z1, z2, z3⟩ := z
        have hb : b ≠ a := fun q => I.dis i j m k hi e (Ne.symm hj) (by rw [ha, z1, q])
        exact ⟨b, z1, mrep_mono (Sub.refl _) (fun _ _ h => h) (off b hb) z2, z3⟩
      | lck k => exact z
  · have f1 : ∃ n1, ρ[j]? = some (.own n1) := by
      by_cases hj : j = i
      · rw [hj]; exact ⟨_, hi⟩
      · rw [List.getElem?_set_ne (Ne.symm hj)] at z1; exact ⟨_, z1⟩
    have f2 : ∃ n1, ρ[k]? = some (.own n1) := by
      by_cases hk : k = i
      · rw [hk]; exact ⟨_, hi⟩
      · rw [List.getElem?_set_ne (Ne.symm hk)] at z2; exact ⟨_, z2⟩
    obtain ⟨n1, y1⟩ := f1
    obtain ⟨n2, y2⟩ := f2
    exact I.dis j k n1 n2 y1 y2 ne
  · refine fun p hp => ?_
    obtain ⟨ps, h1, h2, h3⟩ := I.tabs p hp
    have np : p.1 ≠ a := fun q => by rw [q, q0] at h1; cases h1; exact nt0 _ rfl
    refine ⟨ps, (off _ np).trans h1, h2, fun pos cv hc => ?_⟩
    obtain ⟨c, y1, y2⟩ := h3 pos cv hc
    refine ⟨c, y1, ?_⟩
    by_cases hc : c = a
    · exfalso
      subst hc
      exact mrep_noext e2 y2
    · rw [off c hc]; exact y2
  · obtain ⟨z1, z2, z3, z4, z5⟩ := I.pins b vs e
    refine ⟨(off b fun q => z5 i m hi (by rw [ha, q])).trans z1, z2, z3, z4, fun j k q => ?_⟩
    by_cases hj : j = i
    · subst hj; exact z5 j m hi
    · rw [List.getElem?_set_ne (Ne.symm hj)] at q; exact z5 j k q
/-- a thing of the store is written -/
theorem Sim.stwrite {n : Nat} {m m' : MO} {a : Addr} {o : HO} (I : Sim g T B G μ ρ S σ H) (hn : S[n]? = some m) (ha : μ[n]? = some a) (r : mrep g μ G (upd H a o) a m') : Sim g T B G μ ρ (S.set n m') σ (upd H a o) := by
  have e2 := I.store n m a hn ha
  have hin : a ∈ μ := List.mem_of_getElem? ha
  have e4 := I.muG a hin
  have off : ∀ b, b ≠ a → upd H a o b = H b := fun b h => upd_ne h
  obtain ⟨u0, q0, nt0⟩ := mrep_some e2
  obtain ⟨more, em, hm⟩ := I.mu0
  refine ⟨fun b u e => ?_, fun b u z1 z2 z3 => ?_, fun b e => ?_, I.g0, I.gnew, ⟨more, em, hm⟩, I.munod, I.muG, by simpa using I.slen, fun k x b z1 z2 => ?_, I.len, fun j sl e => ?_, I.dis, ?_, I.notbl, fun b vs e => ?_⟩
  · rw [off b (fun q => by rw [q, e4] at e; cases e)]; exact I.gh _ _ e
  · refine (off b fun q => ?_).trans (I.base b u z1 z2 z3)
    rw [em] at hin
    rcases List.mem_append.mp hin with h | h
    · exact z2 (q ▸ h)
    · rw [q, hm a h] at z1; cases z1
  · by_cases hb : b = a
    · subst hb; rw [upd_same] at e; cases e
    · rw [off b hb] at e; exact I.gone b e
  · by_cases hk : k = n
    · subst hk
      rw [ha] at z2; cases z2
      have hl : k < S.length := (List.getElem?_eq_some_iff.mp hn).1
      rw [List.getElem?_set_self hl] at z1
      cases z1
      exact r
    · rw [List.getElem?_set_ne (Ne.symm hk)] at z1
      have hb : b ≠ a := fun q => by
        subst q
        obtain ⟨h1, y1⟩ := List.getElem?_eq_some_iff.mp ha
        obtain ⟨h2, y2⟩ := List.getElem?_eq_some_iff.mp z2
        exact hk ((List.getElem_inj I.munod).mp (y2.trans y1.symm))
      exact mrep_mono (Sub.refl _) (fun _ _ h => h) (off b hb) (I.store k x b z1 z2)
  · have z := I.slots j sl e
    cases sl with
    | none => trivial
    | val d => exact z
    | fdef k => exact z
    | clo k caps => exact z
    | exn c => exact z
    | own k =>
      obtain ⟨b, z1, z2, z3, z4⟩ := z
      have hb : b ≠ a := fun q => z3 (q ▸ hin)
      exact ⟨b, z1, mrep_mono (Sub.refl _) (fun _ _ h => h) (off b hb) z2, z3, z4⟩
    | lck k => exact z
  · refine fun p hp => ?_
    obtain ⟨ps, h1, h2, h3⟩ := I.tabs p hp
    have np : p.1 ≠ a := fun q => by rw [q, q0] at h1; cases h1; exact nt0 _ rfl
    refine ⟨ps, (off _ np).trans h1, h2, fun pos cv hc => ?_⟩
    obtain ⟨c, y1, y2⟩ := h3 pos cv hc
    refine ⟨c, y1, ?_⟩
    by_cases hc : c = a
    · exfalso
      subst hc
      exact mrep_noext e2 y2
    · rw [off c hc]; exact y2
  · obtain ⟨z1, z2, z3, z4, z5⟩ := I.pins b vs e
    exact ⟨(off b fun q => z2 (q ▸ hin)).trans z1, z2, z3, z4, z5⟩
/-- a new thing of the store -/
theorem Sim.stnew {m : MO} {p : Addr} {o : HO} (I : Sim g T B G μ ρ S σ H) (hp : H p = none) (r : ∀ μ', (∀ (n : Nat) (b : Addr), μ[n]? = some b → μ'[n]? = some b) → mrep g μ' G (upd H p o) p m) : Sim g T B G (μ ++ [p]) ρ (S ++ [m]) σ (upd H p o) := by
  have hmu : ∀ (n : Nat) (b : Addr), μ[n]? = some b → (μ ++ [p])[n]? = some b := fun n b e => by
    rw [List.getElem?_append_left (List.getElem?_eq_some_iff.mp e).1]; exact e
  have J := I.fresh (o := o) hp
  have hG : G p = none := I.gh.none hp
  have off : ∀ b u, H b = some u → upd H p o b = some u := Sub.add hp
  obtain ⟨more, em, hm⟩ := I.mu0
  refine ⟨J.gh, J.base, J.gone, I.g0, I.gnew, ⟨more ++ [p], by rw [em, List.append_assoc], fun a ha => ?_⟩, ?_, fun a ha => ?_, by simp [I.slen], fun n x b e1 e2 => ?_, I.len, fun i sl e => ?_, I.dis, J.tabs, I.notbl, fun b vs e => ?_⟩
  · rcases List.mem_append.mp ha with h | h
    · exact hm a h
    · rw [List.mem_singleton.mp h]; exact I.gone p hp
  · rw [List.nodup_append]
    refine ⟨I.munod, by simp, fun a ha b hb => ?_⟩
    rw [List.mem_singleton.mp hb]
    exact fun q => I.nmu hp (q ▸ ha)
  · rcases List.mem_append.mp ha with h | h
    · exact I.muG a h
    · rw [List.mem_singleton.mp h]; exact hG
  · by_cases hn : n < S.length
    · rw [List.getElem?_append_left hn] at e1
      rw [List.getElem?_append_left (by rw [← I.slen]; exact hn)] at e2
      exact mrep_mono (Sub.refl _) hmu rfl (J.store n x b e1 e2)
    · have en : n = S.length := by
        have := (List.getElem?_eq_some_iff.mp e1).1
        rw [List.length_append, List.length_singleton] at this
        omega
      subst en
      rw [I.slen, List.getElem?_append_right (Nat.le_refl _)] at e2
      rw [List.getElem?_append_right (Nat.le_refl _)] at e1
      simp at e1 e2
      subst e1 e2
      exact r _ hmu
  · have z := J.slots i sl e
    cases sl with
    | none => trivial
    | val d => obtain ⟨v, e1, q⟩ := z; exact ⟨v, e1, slotV_mono (Sub.refl _) hmu q⟩
    | fdef k => obtain ⟨v, e1, q⟩ := z; exact ⟨v, e1, slotV_mono (Sub.refl _) hmu q⟩
    | clo k caps => obtain ⟨v, e1, q⟩ := z; exact ⟨v, e1, slotV_mono (Sub.refl _) hmu q⟩
    | exn c => obtain ⟨v, e1, q⟩ := z; exact ⟨v, e1, slotV_mono (Sub.refl _) hmu q⟩
    | own k =>
      obtain ⟨a, e1, e2, e3, e4⟩ := z
      refine ⟨a, e1, mrep_mono (Sub.refl _) hmu rfl e2, fun ha => ?_, e4⟩
      rcases List.mem_append.mp ha with h | h
      · exact e3 h
      · rw [List.mem_singleton.mp h] at e1
        exact I.own_ne hp e e1
    | lck k => obtain ⟨a, e1, e2, e3⟩ := z; exact ⟨a, e1, mrepL_mono (Sub.refl _) hmu rfl e2, e3⟩
  · obtain ⟨z1, z2, z3, z4, z5⟩ := J.pins b vs e
    refine ⟨z1, fun q => ?_, z3, z4, z5⟩
    rcases List.mem_append.mp q with q | q
    · exact z2 q
    · rw [List.mem_singleton.mp q, I.npin hp] at e; cases e
/-- the list of a slot is frozen -/
theorem Sim.frzslot {i : Nat} {m : MO} {d : D} (hmd : moD m = some d) (I : Sim g T B G μ ρ S σ H) (hi : ρ[i]? = some (.own m)) : ∃ a u, σ[i]? = some (some (.ref a)) ∧ Sub G (upd G a u) ∧ Sim g T B (upd G a u) μ (ρ.set i (.val d)) S σ H ∧ rep g μ (upd G a u) d (.ref a) := by
  obtain ⟨a, e1, r, e3, e4, e5⟩ := I.slots i _ hi
  obtain ⟨vs, e2, nt⟩ := mrep_some r
  have hl : i < ρ.length := (List.getElem?_eq_some_iff.mp hi).1
  have sg : Sub G (upd G a vs) := Sub.add e4
  have hs : σ.set i (some (.ref a)) = σ := by
    obtain ⟨h, q⟩ := List.getElem?_eq_some_iff.mp e1
    rw [← q, List.set_getElem_self]
  have J : Sim g T B G μ (ρ.set i .none) S σ H := by
    refine ⟨I.gh, I.base, I.gone, I.g0, I.gnew, I.mu0, I.munod, I.muG, I.slen, I.store, by simpa using I.len, fun j sl e => ?_, fun j k m m' z1 z2 ne => ?_, I.tabs, I.notbl, fun b vs e => ?_⟩
    · by_cases hj : j = i
      · subst hj; rw [List.getElem?_set_self hl] at e; cases e; trivial
      · rw [List.getElem?_set_ne (Ne.symm hj)] at e; exact I.slots j sl e
    · have hj : j ≠ i := fun q => by subst q; rw [List.getElem?_set_self hl] at z1; cases z1
      have hk : k ≠ i := fun q => by subst q; rw [List.getElem?_set_self hl] at z2; cases z2
      rw [List.getElem?_set_ne (Ne.symm hj)] at z1
      rw [List.getElem?_set_ne (Ne.symm hk)] at z2
      exact I.dis j k m m' z1 z2 ne
    · obtain ⟨z1, z2, z3, z4, z5⟩ := I.pins b vs e
      refine ⟨z1, z2, z3, z4, fun j m q => ?_⟩
      have hj : j ≠ i := fun q2 => by subst q2; rw [List.getElem?_set_self hl] at q; cases q
      rw [List.getElem?_set_ne (Ne.symm hj)] at q
      exact z5 j m q
  have pn : B.pin a = none := by
    cases e : B.pin a with
    | none => rfl
    | some vs => exact absurd e1 ((I.pins a vs e).2.2.2.2 i _ hi)
  have J2 := J.freeze (o := vs) e2 e3 e4 e5 (fun j m z q => by
    have hj : j ≠ i := fun q => by subst q; rw [List.getElem?_set_self hl] at z; cases z
    rw [List.getElem?_set_ne (Ne.symm hj)] at z
    exact I.dis j i m _ z hi hj (q.trans e1.symm)) nt pn
  have rl : rep g μ (upd G a vs) d (.ref a) := by
    cases m with
    | lst l =>
      cases hmd
      obtain ⟨ws, e, r⟩ := r
      rw [e2] at e; cases e
      exact ⟨a, ws, rfl, upd_same, reps_mono sg (fun _ _ h => h) _ _ r⟩
    | dct t ks us =>
      cases hmd
      cases t with
      | false =>
        obtain ⟨ws, e, k, r⟩ := r
        rw [e2] at e; cases e
        exact ⟨a, ws, rfl, .inl upd_same, k, reps_mono sg (fun _ _ h => h) _ _ r⟩
      | true =>
        obtain ⟨ws, e, k, r⟩ := r
        rw [e2] at e; cases e
        exact ⟨a, ws, rfl, .inl upd_same, k, reps_mono sg (fun _ _ h => h) _ _ r⟩
    | ins _ _ => cases hmd
  have J3 := J2.setval (i := i) rl
  rw [hs, List.set_set] at J3
  exact ⟨a, vs, e1, sg, J3, rl⟩
/-- into a callee, into a block -/
def lockS : Slot → Slot
  | .own o => .lck o
  | .fdef _ => .none
  | s => s
def lockF (ρ : Fr) : Fr := ρ.map lockS
theorem Sim.mono_base {T' : Tx} {pin : Addr → Option PinO} {ρ' : Fr} {S' : Store} {σ' : St} {G' H' : Hp} {μ' : List Addr} (I : Sim g T B G μ ρ S σ H) (J : Sim g T' ⟨H, G, μ, pin⟩ G' μ' ρ' S' σ' H') (ht : T'.tabs = T.tabs) : Sim g T B G' μ' ρ S' σ H' ∧ Sub G G' ∧ (∀ (n : Nat) (b : Addr), μ[n]? = some b → μ'[n]? = some b) := by
  obtain ⟨more, em, hm⟩ := I.mu0
  obtain ⟨more', em', hm'⟩ := J.mu0
  have em' : μ' = μ ++ more' := em'
  have hmu : ∀ (n : Nat) (b : Addr), μ[n]? = some b → μ'[n]? = some b := fun n b e => by
    rw [em', List.getElem?_append_left (List.getElem?_eq_some_iff.mp e).1]; exact e
  refine ⟨⟨J.gh, fun a o e1 e2 e3 => ?_, fun a e => I.gone a (J.gone a e), I.g0.trans J.g0, fun a o e => ?_, ⟨more ++ more', by rw [em', em, List.append_assoc], fun a ha => ?_⟩, J.munod, J.muG, J.slen, J.store, I.len, fun i sl e => ?_, I.dis, ht ▸ J.tabs, J.notbl, fun b vs e => ?_⟩, J.g0, hmu⟩
  · have h1 := I.base a o e1 e2 e3
    refine J.base a o h1 (fun h => ?_) e3
    have h : a ∈ μ := h
    rw [em] at h
    rcases List.mem_append.mp h with h | h
    · exact e2 h
    · rw [hm a h] at e1; cases e1
  · rcases J.gnew a o e with h | h
    · exact I.gnew a o h
    · exact .inr (h.imp (I.gone a) id)
  · rcases List.mem_append.mp ha with h | h
    · exact hm a h
    · exact I.gone a (hm' a h)
  · have z := I.slots i sl e
    cases sl with
    | none => trivial
    | val d => obtain ⟨v, e1, q⟩ := z; exact ⟨v, e1, slotV_mono J.g0 hmu q⟩
    | fdef k => obtain ⟨v, e1, q⟩ := z; exact ⟨v, e1, slotV_mono J.g0 hmu q⟩
    | clo k caps => obtain ⟨v, e1, q⟩ := z; exact ⟨v, e1, slotV_mono J.g0 hmu q⟩
    | exn c => obtain ⟨v, e1, q⟩ := z; exact ⟨v, e1, slotV_mono J.g0 hmu q⟩
    | own k =>
      obtain ⟨a, e1, e2, e3, e4, e5⟩ := z
      obtain ⟨u, q, nt⟩ := mrep_some e2
      refine ⟨a, e1, mrep_mono J.g0 hmu ((J.base a u q e3 nt).trans q.symm) e2, fun h => ?_, ?_, e5⟩
      · rw [em'] at h
        rcases List.mem_append.mp h with h | h
        · exact e3 h
        · have z : H a = none := hm' a h
          rw [q] at z; cases z
      · cases y : G' a with
        | none => rfl
        | some u' =>
          rcases J.gnew a u' y with h | h
          · have h : G a = some u' := h
            rw [e4] at h; cases h
          · rcases h with h | ⟨φ, h⟩
            · have h : H a = none := h
              rw [q] at h; cases h
            · subst h
              have y2 := J.gh _ _ y
              rw [J.base a u q e3 nt] at y2
              cases y2
              exact (mrep_noext e2 q).elim
    | lck k =>
      obtain ⟨a, e1, e2, e3⟩ := z
      exact ⟨a, e1, mrepL_mono J.g0 hmu rfl e2, e3⟩
  · obtain ⟨z1, z2, z3, z4, z5⟩ := I.pins b vs e
    refine ⟨J.base b _ z1 z2 vs.nt, fun q => ?_, ?_, z4, z5⟩
    · rw [em'] at q
      rcases List.mem_append.mp q with q | q
      · exact z2 q
      · have z : H b = none := hm' b q
        rw [z1] at z; cases z
    · cases y : G' b with
      | none => rfl
      | some u' =>
        rcases J.gnew b u' y with h | h
        · have h : G b = some u' := h
          rw [z3] at h; cases h
        · rcases h with h | ⟨φ, h⟩
          · have h : H b = none := h
            rw [z1] at h; cases h
          · subst h
            have y2 := J.gh _ _ y
            rw [J.base b _ z1 z2 vs.nt] at y2
            exact absurd (Option.some.inj y2) (vs.ne φ)
/-- the frame of a callee -/
theorem slotOk_of {sl : Slot} {v : V} {i : Nat} (h : slotV g T μ G sl v) (e : σ[i]? = some (some v)) : slotOk g T B G μ σ H i sl := by
  cases sl with
  | none => trivial
  | own o => exact h.elim
  | lck o => exact h.elim
  | _ => exact ⟨v, e, h⟩
theorem Sim.enter {T' : Tx} {ρ' : Fr} {σ' : St} (I : Sim g T B G μ ρ S σ H) (ht : T'.tabs = T.tabs) (hl : ρ'.length = σ'.length) (h : ∀ (i : Nat) sl, ρ'[i]? = some sl → sl = .none ∨ ∃ v, σ'[i]? = some (some v) ∧ slotV g T' μ G sl v) : Sim g T' ⟨H, G, μ, fun _ => Option.none⟩ G μ ρ' S σ' H := by
  refine ⟨I.gh, fun a o e _ _ => e, fun a e => e, Sub.refl _, fun a o e => .inl e, ⟨[], by simp, fun a ha => by cases ha⟩, I.munod, I.muG, I.slen, I.store, hl, fun i sl e => ?_, fun i j m m' e1 e2 ne => ?_, ht ▸ I.tabs, I.notbl, fun b vs e => nomatch e⟩
  · rcases h i sl e with q | ⟨v, e1, r⟩
    · subst q; trivial
    · exact slotOk_of r e1
  · rcases h i _ e1 with q | ⟨v, _, q⟩
    · cases q
    · exact q.elim
/-- a block of this frame: the slots vs are forgotten -/
theorem Sim.block {ρ' : Fr} {σ' : St} (I : Sim g T B G μ ρ S σ H) (hl : ρ'.length = σ'.length) (h : ∀ (i : Nat) sl, ρ'[i]? = some sl → sl = .none ∨ (∃ sl', ρ[i]? = some sl' ∧ sl = lockS sl' ∧ σ'[i]? = σ[i]?)) : Sim g T ⟨H, G, μ, fun _ => Option.none⟩ G μ ρ' S σ' H := by
  refine ⟨I.gh, fun a o e _ _ => e, fun a e => e, Sub.refl _, fun a o e => .inl e, ⟨[], by simp, fun a ha => by cases ha⟩, I.munod, I.muG, I.slen, I.store, hl, fun i sl e => ?_, fun i j m m' e1 e2 ne => ?_, I.tabs, I.notbl, fun b vs e => nomatch e⟩
  · rcases h i sl e with q | ⟨sl', e1, q, es⟩
    · subst q; trivial
    · subst q
      have z := I.slots i sl' e1
      cases sl' with
      | none => trivial
      | val d => obtain ⟨v, z1, r⟩ := z; exact ⟨v, es.trans z1, r⟩
      | fdef k => trivial
      | clo k caps => obtain ⟨v, z1, r⟩ := z; exact ⟨v, es.trans z1, r⟩
      | exn c => obtain ⟨v, z1, r⟩ := z; exact ⟨v, es.trans z1, r⟩
      | own k =>
        obtain ⟨a, z1, z2, z3, _⟩ := z
        exact ⟨a, es.trans z1, z2.L, z3⟩
      | lck k =>
        obtain ⟨a, z1, z2, z3⟩ := z
        obtain ⟨u, q, nt⟩ := mrepL_some z2
        have qH := I.base a u q z3 nt
        refine ⟨a, es.trans z1, mrepL_mono (Sub.refl _) (fun _ _ h => h) (qH.trans q.symm) z2, fun h => ?_⟩
        obtain ⟨more, em, hm⟩ := I.mu0
        have h : a ∈ μ := h
        rw [em] at h
        rcases List.mem_append.mp h with h | h
        · exact z3 h
        · rw [hm a h] at q; cases q
  · rcases h i _ e1 with q | ⟨sl', _, q, _⟩
    · cases q
    · cases sl' <;> cases q
/-- a slot is forgotten -/
theorem Sim.clear (I : Sim g T B G μ ρ S σ H) (i : Nat) : Sim g T B G μ (ρ.set i .none) S (σ.set i Option.none) H := by
  have key : ∀ {j : Nat} {sl : Slot}, (ρ.set i .none)[j]? = some sl → sl = .none ∨ (j ≠ i ∧ ρ[j]? = some sl) := fun {j sl} e => by
    by_cases hj : j = i
    · subst hj
      rw [List.getElem?_set] at e
      simp only [if_true] at e
      split at e
      · cases e; exact .inl rfl
      · cases e
    · rw [List.getElem?_set_ne (Ne.symm hj)] at e; exact .inr ⟨hj, e⟩
  have es : ∀ {j : Nat}, j ≠ i → (σ.set i Option.none)[j]? = σ[j]? := fun hj => List.getElem?_set_ne (Ne.symm hj)
  refine ⟨I.gh, I.base, I.gone, I.g0, I.gnew, I.mu0, I.munod, I.muG, I.slen, I.store, by simpa using I.len, fun j sl e => ?_, fun j k m m' z1 z2 ne => ?_, I.tabs, I.notbl, fun b vs e => ?_⟩
  · rcases key e with q | ⟨hj, q⟩
    · subst q; trivial
    · have z := I.slots j sl q
      cases sl with
      | none => trivial
      | val d => obtain ⟨w, e1, r⟩ := z; exact ⟨w, (es hj).trans e1, r⟩
      | fdef k => obtain ⟨w, e1, r⟩ := z; exact ⟨w, (es hj).trans e1, r⟩
      | clo k caps => obtain ⟨w, e1, r⟩ := z; exact ⟨w, (es hj).trans e1, r⟩
      | exn c => obtain ⟨w, e1, r⟩ := z; exact ⟨w, (es hj).trans e1, r⟩
      | own m => obtain ⟨a, e1, z⟩ := z; exact ⟨a, (es hj).trans e1, z⟩
      | lck m => obtain ⟨a, e1, z⟩ := z; exact ⟨a, (es hj).trans e1, z⟩
  · rcases key z1 with q | ⟨hj, q⟩
    · cases q
    rcases key z2 with q2 | ⟨hk, q2⟩
    · cases q2
    rw [es hj, es hk]
    exact I.dis j k m m' q q2 ne
  · obtain ⟨z1, z2, z3, z4, z5⟩ := I.pins b vs e
    refine ⟨z1, z2, z3, z4, fun j m q => ?_⟩
    rcases key q with q | ⟨hj, q⟩
    · cases q
    · rw [es hj]; exact z5 j m q
/-- a list that is being built stands anew -/
theorem Sim.repin {D : Addr} {vs : PinO} (I : Sim g T B G μ ρ S σ H) (h1 : D ∉ μ) (h2 : G D = none) (h3 : B.H0 D = none) (h4 : ∀ (i : Nat) m, ρ[i]? = some (.own m) → σ[i]? ≠ some (some (.ref D))) (h5 : H D = none ∨ ∃ us : PinO, H D = some us.ho) :
    Sim g T { B with pin := fun a => if a = D then some vs else B.pin a } G μ ρ S σ (upd H D vs.ho) := by
  have off : ∀ b, b ≠ D → upd H D vs.ho b = H b := fun b h => upd_ne h
  refine ⟨fun b u e => ?_, fun b u z1 z2 z3 => ?_, fun b e => ?_, I.g0, I.gnew, I.mu0, I.munod, I.muG, I.slen, fun n k b z1 z2 => ?_, I.len, fun j sl e => ?_, I.dis, ?_, I.notbl, fun b us e => ?_⟩
  · rw [off b (fun q => by rw [q, h2] at e; cases e)]; exact I.gh _ _ e
  · rw [off b (fun q => by rw [q] at z1; exact nomatch (show none = some u from h3.symm.trans z1))]; exact I.base b u z1 z2 z3
  · by_cases hb : b = D
    · subst hb; exact h3
    · rw [off b hb] at e; exact I.gone b e
  · have hb : b ≠ D := fun q => h1 (q ▸ List.mem_of_getElem? z2)
    exact mrep_mono (Sub.refl _) (fun _ _ h => h) (off b hb) (I.store n k b z1 z2)
  · have z := I.slots j sl e
    cases sl with
    | none => trivial
    | val d => exact z
    | fdef k => exact z
    | clo k caps => exact z
    | exn c => exact z
    | own k =>
      obtain ⟨b, y1, y2, y3⟩ := z
      have hb : b ≠ D := fun q => h4 j k e (by rw [y1, q])
      exact ⟨b, y1, mrep_mono (Sub.refl _) (fun _ _ h => h) (off b hb) y2, y3⟩
    | lck k => exact z
  · refine fun p hp => ?_
    obtain ⟨ps, y1, y2, y3⟩ := I.tabs p hp
    have nt : ∀ b u, H b = some u → (∀ us : PinO, u ≠ us.ho) → b ≠ D := fun b u e n q => by
      subst q
      rcases h5 with h | ⟨us, h⟩
      · rw [h] at e; cases e
      · rw [h] at e; cases e; exact n us rfl
    refine ⟨ps, (off _ (nt _ _ y1 fun us z => us.nt _ z.symm)).trans y1, y2, fun pos cv hc => ?_⟩
    obtain ⟨c, x1, x2⟩ := y3 pos cv hc
    exact ⟨c, x1, (off _ (nt _ _ x2 fun us z => us.ne _ z.symm)).trans x2⟩
  · by_cases hb : b = D
    · subst hb
      have e : (if b = b then some vs else B.pin b) = some us := e
      rw [if_pos rfl] at e
      cases e
      exact ⟨upd_same, h1, h2, h3, h4⟩
    · have e : (if b = D then some vs else B.pin b) = some us := e
      rw [if_neg hb] at e
      obtain ⟨z1, z⟩ := I.pins b us e
      exact ⟨(off b hb).trans z1, z⟩
/-- back to the frame of an earlier place of the same block -/
theorem Sim.reframe {B' : Bs} {ρ' : Fr} {S' : Store} {σ' : St} {G' H' : Hp} {μ' : List Addr} (I : Sim g T B G μ ρ S σ H) (J : Sim g T B' G' μ' ρ' S' σ' H') (h1 : B'.H0 = B.H0) (h3 : B'.μ0 = B.μ0) (hG : Sub G G') (hμ : ∀ (n : Nat) (b : Addr), μ[n]? = some b → μ'[n]? = some b)
    (no : ∀ (i : Nat) m, ρ[i]? ≠ some (.own m)) : Sim g T B' G' μ' ρ S' σ H' := by
  refine ⟨J.gh, J.base, J.gone, J.g0, J.gnew, J.mu0, J.munod, J.muG, J.slen, J.store, I.len, fun j sl e => ?_, fun j k m m' e => absurd e (no j m), J.tabs, J.notbl, fun b vs e => ?_⟩
  · have z := I.slots j sl e
    cases sl with
    | none => trivial
    | val d => obtain ⟨w, e1, r⟩ := z; exact ⟨w, e1, slotV_mono hG hμ r⟩
    | fdef k => obtain ⟨w, e1, r⟩ := z; exact ⟨w, e1, slotV_mono hG hμ r⟩
    | clo k caps => obtain ⟨w, e1, r⟩ := z; exact ⟨w, e1, slotV_mono hG hμ r⟩
    | exn c => obtain ⟨w, e1, r⟩ := z; exact ⟨w, e1, slotV_mono hG hμ r⟩
    | own m => exact absurd e (no j m)
    | lck m => obtain ⟨a, e1, e2, e3⟩ := z; exact ⟨a, e1, mrepL_mono hG hμ (by rw [h1]) e2, by rw [h3]; exact e3⟩
  · obtain ⟨z1, z2, z3, z4, z5⟩ := J.pins b vs e
    exact ⟨z1, z2, z3, z4, fun i m q => absurd q (no i m)⟩
/-- the exception that was handled is forgotten -/
def clrS : Slot → Slot
  | .exn _ => .none
  | sl => sl
def clrF (ρ : Fr) : Fr := ρ.map clrS
theorem clrF_get {ρ : Fr} {i : Nat} {sl : Slot} (e : (clrF ρ)[i]? = some sl) : sl = .none ∨ (ρ[i]? = some sl ∧ ∀ c, sl ≠ .exn c) := by
  unfold clrF at e
  rw [List.getElem?_map] at e
  obtain ⟨s0, e1, e2⟩ := Option.map_eq_some_iff.mp e
  cases s0 with
  | exn c => subst e2; exact .inl rfl
  | _ => subst e2; exact .inr ⟨e1, fun c z => nomatch z⟩
theorem Sim.retx {T' : Tx} (I : Sim g T' B G μ ρ S σ H) (h1 : T'.tabs = T.tabs) (h2 : T'.nfs = T.nfs) (h3 : T'.cells = T.cells) : Sim g T B G μ (clrF ρ) S σ H := by
  refine ⟨I.gh, I.base, I.gone, I.g0, I.gnew, I.mu0, I.munod, I.muG, I.slen, I.store, by unfold clrF; rw [List.length_map]; exact I.len, fun i sl e => ?_, fun i j m m' e1 e2 ne => ?_, h1 ▸ I.tabs, I.notbl, fun b vs e => ?_⟩
  · rcases clrF_get e with q | ⟨q, nx⟩
    · subst q; trivial
    · have z := I.slots i sl q
      cases sl with
      | none => trivial
      | val d => exact z
      | own o => exact z
      | lck o => exact z
      | fdef k => obtain ⟨v, e1, f, c', d, a1, a2, a3, a4⟩ := z; exact ⟨v, e1, f, c', d, a1, h2 ▸ a2, h3 ▸ a3, a4⟩
      | clo k caps => obtain ⟨v, e1, f, a1, a2⟩ := z; exact ⟨v, e1, f, a1, h2 ▸ a2⟩
      | exn c => exact absurd rfl (nx c)
  · rcases clrF_get e1 with q | ⟨q1, _⟩
    · cases q
    rcases clrF_get e2 with q | ⟨q2, _⟩
    · cases q
    exact I.dis i j m m' q1 q2 ne
  · obtain ⟨z1, z2, z3, z4, z5⟩ := I.pins b vs e
    refine ⟨z1, z2, z3, z4, fun j m q => ?_⟩
    rcases clrF_get q with q | ⟨q, _⟩
    · cases q
    · exact z5 j m q
/-- .. is known, in a slot -/
theorem Sim.toExn {cls : Value} {a : Addr} (I : Sim g T B G μ ρ S σ H) (h0 : T.exn = none) : Sim g { T with exn := some (a, cls) } B G μ ρ S σ H := by
  refine ⟨I.gh, I.base, I.gone, I.g0, I.gnew, I.mu0, I.munod, I.muG, I.slen, I.store, I.len, fun i sl e => ?_, I.dis, I.tabs, I.notbl, I.pins⟩
  have z := I.slots i sl e
  cases sl with
  | exn c => obtain ⟨v, e1, a, _, q⟩ := z; rw [h0] at q; cases q
  | _ => exact z
theorem Sim.setexn {i : Nat} {c : Str} {a : Addr} (I : Sim g T B G μ ρ S σ H) (h : T.exn = some (a, (g.mg c).getD .none)) : Sim g T B G μ (ρ.set i (.exn c)) S (σ.set i (some (.ref a))) H := by
  have J : Sim g T B G μ (ρ.set i .none) S (σ.set i Option.none) H := I.clear i
  have get : ∀ {j : Nat} {sl : Slot}, (ρ.set i (.exn c))[j]? = some sl → (j = i ∧ sl = .exn c ∧ i < ρ.length) ∨ (j ≠ i ∧ ρ[j]? = some sl) := fun {j sl} e => by
    by_cases hj : j = i
    · subst hj
      rw [List.getElem?_set] at e
      simp only [if_true] at e
      split at e
      · rename_i hl; cases e; exact .inl ⟨rfl, rfl, hl⟩
      · cases e
    · rw [List.getElem?_set_ne (Ne.symm hj)] at e; exact .inr ⟨hj, e⟩
  have es : ∀ {j : Nat}, j ≠ i → (σ.set i (some (.ref a)))[j]? = σ[j]? := fun hj => List.getElem?_set_ne (Ne.symm hj)
  refine ⟨I.gh, I.base, I.gone, I.g0, I.gnew, I.mu0, I.munod, I.muG, I.slen, I.store, by simpa using I.len, fun j sl e => ?_, fun j k m m' e1 e2 ne => ?_, I.tabs, I.notbl, fun b vs e => ?_⟩
  · rcases get e with ⟨rfl, rfl, hl⟩ | ⟨hj, q⟩
    · exact ⟨.ref a, by rw [List.getElem?_set_self (by rw [← I.len]; exact hl)], a, rfl, h⟩
    · have z := I.slots j sl q
      cases sl with
      | none => trivial
      | own m => obtain ⟨b, e1, z⟩ := z; exact ⟨b, (es hj).trans e1, z⟩
      | lck m => obtain ⟨b, e1, z⟩ := z; exact ⟨b, (es hj).trans e1, z⟩
      | _ => obtain ⟨w, e1, r⟩ := z; exact ⟨w, (es hj).trans e1, r⟩
  · rcases get e1 with ⟨_, z, _⟩ | ⟨hj, q1⟩
    · cases z
    rcases get e2 with ⟨_, z, _⟩ | ⟨hk, q2⟩
    · cases z
    rw [es hj, es hk]
    exact I.dis j k m m' q1 q2 ne
  · obtain ⟨z1, z2, z3, z4, z5⟩ := I.pins b vs e
    refine ⟨z1, z2, z3, z4, fun j m q => ?_⟩
    rcases get q with ⟨_, z, _⟩ | ⟨hj, q⟩
    · cases z
    · rw [es hj]; exact z5 j m q
end
end MP

namespace MP
open PySem PySem.Spec L2
/-! ### operations on trees -/
mutual
/-- == -/
def deq : D → D → Bool
  | .non, .non => true
  | .bl a, .bl b => a == b
  | .bl a, .int j => (if a then 1 else 0) == j
  | .int i, .bl b => i == (if b then 1 else 0)
  | .int i, .int j => i == j
  | .str x, .str y => x == y
  | .lst xs, .lst ys => deqs xs ys
  | .tup xs, .tup ys => deqs xs ys
  | _, _ => false
def deqs : List D → List D → Bool
  | [], [] => true
  | x :: xs, y :: ys => deq x y && deqs xs ys
  | _, _ => false
end
mutual
/-- what == may be asked of -/
def lay : D → Bool
  | .non | .bl _ | .int _ => true
  | .str x => PyData.strOk x
  | .lst xs | .tup xs => lays xs
  | _ => false
def lays : List D → Bool
  | [] => true
  | x :: xs => lay x && lays xs
end
mutual
def dep : D → Nat
  | .lst xs | .tup xs => deps xs + 1
  | _ => 0
def deps : List D → Nat
  | [] => 0
  | x :: xs => max (dep x) (deps xs)
end
/-- what stands under a key -/
def dgetD : List D → List D → D → Option D
  | k :: ks, v :: vs, x => if deq k x then some v else dgetD ks vs x
  | _, _, _ => none
def dhas (ks : List D) (x : D) : Bool := ks.any fun k => deq k x
def dputV : List D → List D → D → D → List D
  | k :: ks, v :: vs, x, y => (if deq k x then y else v) :: dputV ks vs x y
  | _, _, _, _ => []
def ddropK (ks : List D) (x : D) : List D := ks.filter fun k => !deq k x
def ddropV : List D → List D → D → List D
  | k :: ks, v :: vs, x => if deq k x then ddropV ks vs x else v :: ddropV ks vs x
  | _, _, _ => []
/-- a key of a dict of this kind -/
def keyOk (t : Bool) (d : D) : Bool := if t then (keyT d).isSome else (keyK d).isSome
def shp (d : D) : Bool := lay d && decide (dep d ≤ 64)
def okLen (n : Nat) : Bool := decide (n ≤ 16777216)
def opBin : Operator → D → D → Option D
  | .Add, .int a, .int b => some (.int (a + b))
  | .Add, .str a, .str b => if okLen (a.length + b.length) then some (.str (a ++ b)) else none
  | .Add, .tup a, .tup b => if okLen (a.length + b.length) then some (.tup (a ++ b)) else none
  | .Sub, .int a, .int b => some (.int (a - b))
  | .Mult, .int a, .int b => if decide (a.natAbs.log2 + b.natAbs.log2 < 1000000) then some (.int (a * b)) else none
  | .Mult, .tup a, .int k => if decide (a ≠ [] ∧ 2 ≤ k ∧ k ≤ 1000 ∧ a.length ≤ 1000) then some (.tup (List.replicate k.toNat a).flatten) else none
  | .FloorDiv, .int a, .int b => if decide (0 < b ∧ b.natAbs.log2 < 9000) then some (.int (a / b)) else none
  | .Mod, .int a, .int b => if decide (0 < b) then some (.int (a % b)) else none
  | .Pow, .int a, .int b => if decide (0 ≤ b ∧ (Builtin.Int.intBits a : Int) * b ≤ 134217728) then some (.int (a ^ b.toNat)) else none
  | _, _, _ => none
/-- op= -/
def opAug : Operator → D → D → Option D
  | .Add, .int a, .int b => some (.int (a + b))
  | .Add, .str a, .str b => if okLen (a.length + b.length) then some (.str (a ++ b)) else none
  | .Sub, .int a, .int b => some (.int (a - b))
  | .Mult, .int a, .int b => if decide ((-(2 ^ 64) < a ∧ a < 2 ^ 64) ∨ (-(2 ^ 64) < b ∧ b < 2 ^ 64)) then some (.int (a * b)) else none
  | _, _, _ => none
/-- lists made by + and * -/
def opBinL : Operator → D → D → Option (List D)
  | .Add, .lst a, .lst b => if okLen (a.length + b.length) then some (a ++ b) else none
  | .Mult, .lst a, .int k => if decide (0 ≤ k ∧ k ≤ 1000000 ∧ a.length * k.toNat ≤ 16777216) then some (List.replicate k.toNat a).flatten else none
  | _, _, _ => none
def isNon : D → Bool
  | .non => true
  | _ => false
def opCmp : CmpOp → D → D → Option Bool
  | .Eq, .tup l, .tup [] => some l.isEmpty
  | .NotEq, .tup l, .tup [] => some (!l.isEmpty)
  | .Eq, .str a, .str b => some (a.cps.toList == b.cps.toList)
  | .NotEq, .str a, .str b => some (a.cps.toList != b.cps.toList)
  | .Eq, a, b => if shp a && shp b then some (deq a b) else none
  | .NotEq, a, b => if shp a && shp b then some (!deq a b) else none
  | .Lt, .int a, .int b => some (decide (a < b))
  | .LtE, .int a, .int b => some (decide (a ≤ b))
  | .Gt, .int a, .int b => some (decide (b < a))
  | .GtE, .int a, .int b => some (decide (b ≤ a))
  | .Is, a, .non => some (isNon a)
  | .IsNot, a, .non => some (!isNon a)
  | .In, .str a, .str b => some (!(Builtin.Str.occurrences b a 0 b.length 1).isEmpty)
  | .NotIn, .str a, .str b => some ((Builtin.Str.occurrences b a 0 b.length 1).isEmpty)
  | .In, a, .lst l => if shp a && shp (.lst l) then some (l.any fun z => deq z a) else none
  | .NotIn, a, .lst l => if shp a && shp (.lst l) then some (!l.any fun z => deq z a) else none
  | .In, a, .tup l => if shp a && shp (.tup l) then some (l.any fun z => deq z a) else none
  | .NotIn, a, .tup l => if shp a && shp (.tup l) then some (!l.any fun z => deq z a) else none
  | .In, a, .dct t ks _ => if keyOk t a then some (dhas ks a) else none
  | .NotIn, a, .dct t ks _ => if keyOk t a then some (!dhas ks a) else none
  | _, _, _ => none
/-- truth -/
def tru : D → Option Bool
  | .non => some false
  | .bl b => some b
  | .int i => some (i != 0)
  | .str s => if okLen s.length then some ((s.length : Int) != 0) else none
  | .lst l => some (!l.isEmpty)
  | .tup l => some (!l.isEmpty)
  | _ => none
/-- the greatest, the least -/
def maxI : List Int → Option Int
  | [] => none
  | i :: r => some (r.foldl max i)
def minI : List Int → Option Int
  | [] => none
  | i :: r => some (r.foldl min i)
/-- the place that an index says -/
def ixD (n : Nat) (i : Int) : Option Nat := if 0 ≤ i then (if i < n then some i.toNat else none) else (if -(n : Int) ≤ i then some (i + n).toNat else none)
def atD (l : List D) (i : Int) : Option D := (ixD l.length i).bind fun k => l[k]?
def opIdx : D → D → Option D
  | .lst l, .int i => atD l i
  | .tup l, .int i => atD l i
  | .fz l, .int i => atD l i
  | .dct t ks vs, k => if keyOk t k then dgetD ks vs k else none
  | .str s, .int i => if okLen s.length then (ixD s.length i).bind fun k => (s.cps.toList[k]?).map fun c => .str ⟨#[c]⟩ else none
  | _, _ => none
/-- a slice's place -/
def slD (n : Nat) (d : Nat) : D → Option Nat
  | .non => some d
  | .int i => some (HT.sIx n d (some i))
  | _ => none
def cutD (l : List D) (lo hi : D) : Option (List D) := (slD l.length 0 lo).bind fun a => (slD l.length l.length hi).map fun b => (l.drop a).take (b - a)
inductive Ty where | int | bool | str | tuple | list | cls (x : Str)
def isiD : D → Ty → Option Bool
  | .non, .int | .non, .bool | .non, .str | .non, .tuple | .non, .list => some false
  | .bl _, .int | .bl _, .bool => some true
  | .bl _, .str | .bl _, .tuple | .bl _, .list => some false
  | .int _, .int => some true
  | .int _, .bool | .int _, .str | .int _, .tuple | .int _, .list => some false
  | .str _, .str => some true
  | .str _, .int | .str _, .bool | .str _, .tuple | .str _, .list => some false
  | .tup _, .tuple => some true
  | .tup _, .int | .tup _, .bool | .tup _, .str | .tup _, .list => some false
  | .lst _, .list => some true
  | .lst _, .int | .lst _, .bool | .lst _, .str | .lst _, .tuple => some false
  | .dct false _ _, .int | .dct false _ _, .bool | .dct false _ _, .str | .dct false _ _, .tuple | .dct false _ _, .list => some false
  | _, _ => none
def allBl : List D → Option (List Bool)
  | [] => some []
  | .bl b :: r => (allBl r).map (b :: ·)
  | _ :: _ => none
def allInt : List D → Option (List Int)
  | [] => some []
  | .int b :: r => (allInt r).map (b :: ·)
  | _ :: _ => none
def allStr : List D → Option (List Str)
  | [] => some []
  | .str b :: r => (allStr r).map (b :: ·)
  | _ :: _ => none
def seqD : D → Option (List D)
  | .lst l => some l
  | .tup l => some l
  | _ => none
/-- built-ins that hand back a value -/
inductive Bl where | len | abs | int | all | any | max2 | min2 | tuple | str | sum | max | min | repr
mutual
/-- how a thing is shown -/
def pyD : D → Option PyData
  | .non => some .none
  | .bl b => some (.bool b)
  | .int i => some (.int i)
  | .str x => some (.str x)
  | .tup l => (pyDs l).map .tuple
  | .lst l => (pyDs l).map .list
  | .dct false [] [] => some (.dict [])
  | _ => none
def pyDs : List D → Option (List PyData)
  | [] => some []
  | d :: r => (pyD d).bind fun x => (pyDs r).map (x :: ·)
end
def reprD (d : D) : Option Str := (pyD d).bind fun x => if x.showable && decide (x.depth ≤ 60) && okLen x.shown.length then some x.shown else none
def opBl : Bl → List D → Option D
  | .len, [.lst l] => some (.int l.length)
  | .len, [.tup l] => some (.int l.length)
  | .len, [.fz l] => some (.int l.length)
  | .len, [.dct false ks _] => some (.int ks.length)
  | .len, [.str s] => if okLen s.length then some (.int s.length) else none
  | .abs, [.int i] => some (.int (if i < 0 then -i else i))
  | .int, [.int i] => some (.int i)
  | .int, [.bl b] => some (.int (if b then 1 else 0))
  | .int, [.str a] => if decide (a.length ≤ 640) then (PySem.intText? a).map .int else none
  | .all, [.lst l] => (allBl l).map fun bs => .bl (bs.all id)
  | .any, [.lst l] => (allBl l).map fun bs => .bl (bs.any id)
  | .max2, [.int a, .int b] => some (.int (if b > a then b else a))
  | .min2, [.int a, .int b] => some (.int (if b < a then b else a))
  | .tuple, [.lst l] => some (.tup l)
  | .tuple, [.tup l] => some (.tup l)
  | .str, [.int i] => if decide (i.natAbs.log2 < 1920) then some (.str (toString i)) else none
  | .max, [.lst l] => (allInt l).bind fun is => (maxI is).map .int
  | .max, [.tup l] => (allInt l).bind fun is => (maxI is).map .int
  | .min, [.lst l] => (allInt l).bind fun is => (minI is).map .int
  | .min, [.tup l] => (allInt l).bind fun is => (minI is).map .int
  | .sum, [.lst l] => (allInt l).map fun is => .int is.sum
  | .sum, [.tup l] => (allInt l).map fun is => .int is.sum
  | .repr, [d] => (reprD d).map .str
  | _, _ => none
/-- methods of a list that tell of it -/
inductive Lm where | index | count
def opLm : Lm → D → List D → Option D
  | .index, .lst l, [x] => if shp x && shp (.lst l) then (l.findIdx? fun z => deq z x).map fun (i : Nat) => .int i else none
  | .count, .lst l, [x] => if shp x && shp (.lst l) then some (.int (l.countP fun z => deq z x)) else none
  | _, _, _ => none
def sortI (l : List Int) : List Int := l.mergeSort (fun a b => decide (a ≤ b))
/-- built-ins, methods that hand back a new list -/
inductive Fl1 where | list | sorted
inductive MtF where | split
def opFl : Fl1 → List D → Option (List D)
  | .list, [.lst l] => some l
  | .list, [.tup l] => some l
  | .list, [.dct false ks _] => some ks
  | .sorted, [.lst l] => (allInt l).map fun is => (sortI is).map .int
  | _, _ => none
def opMtF : MtF → D → List D → Option (List D)
  | .split, .str a, [.str b] => if (b.length != 0) && okLen (a.length + 2) then some ((Txt.split a b).map D.str) else none
  | _, _, _ => none
inductive Mt where | join
def opMt : Mt → D → List D → Option D
  | .join, .str a, [.lst l] => (allStr l).bind fun ys => if okLen ((ys.map (·.length)).sum + ys.length * a.length) then some (.str (Txt.join a ys)) else none
  | _, _, _ => none
/-! ### runs -/
inductive Out (α : Type) where
  | ok (a : α) (ρ : Fr) (S : Store) | exc (c : Str) (ρ : Fr) (S : Store) | stk
abbrev M (α : Type) := Fr → Store → Out α
inductive Out0 where
  | ok (d : D) (S : Store) | exc (c : Str) (S : Store) | stk
section
variable {α β : Type}
def mret (a : α) : M α := fun ρ S => .ok a ρ S
def mstk : M α := fun _ _ => .stk
def mexc (c : Str) : M α := fun ρ S => .exc c ρ S
def mbind (m : M α) (k : α → M β) : M β := fun ρ S => match m ρ S with
  | .ok a ρ S => k a ρ S
  | .exc c ρ S => .exc c ρ S
  | .stk => .stk
def mopt : Option α → M α
  | some a => mret a
  | none => mstk
end
/-- a value, or a slot whose thing may change -/
inductive PV where | v (d : D) | s (i : Nat)
def mres : PV → M D
  | .v d => mret d
  | .s i => fun ρ S => match ρ[i]? with
    | some (.val d) => .ok d ρ S
    | some (.own o) => (match moD o with | some d => .ok d ρ S | none => .stk)
    | some (.lck o) => (match moD o with | some d => .ok d ρ S | none => .stk)
    | _ => .stk
/-- .. a thing that stays as it is -/
def mresL : PV → M D
  | .v d => mret d
  | .s i => fun ρ S => match ρ[i]? with
    | some (.lck o) => (match moD o with | some d => .ok d ρ S | none => .stk)
    | _ => .stk
/-- the value that it is, a thing of the store as it is now -/
def mrefd : D → M D
  | .ref n => fun ρ S => match S[n]? with
    | some o => (match moD o with | some d => .ok d ρ S | none => .stk)
    | none => .stk
  | d => mret d
def mval (p : PV) : M D := mbind (mres p) mrefd
def mvals : List PV → M (List D)
  | [] => mret []
  | p :: r => mbind (mval p) fun d => mbind (mvals r) fun l => mret (d :: l)
def isiAny (d : D) : List Ty → Option Bool
  | [] => some false
  | t :: r => (isiD d t).bind fun b => if b then some true else isiAny d r
mutual
inductive E where
  | cst (d : D) | gc (x : Str) (d : D) | fnv (x : Str) | var (i : Nat)
  | bin (o : Operator) (a b : E) | binL (o : Operator) (a b : E) | cmp (o : CmpOp) (a b : E) | cmp2 (o o' : CmpOp) (a b c : E)
  | bop (o : BoolOp) (es : Es) | not_ (a : E) | neg (a : E) | ite (c : T) (a b : E)
  | tup (es : Es) | lst (es : Es) | new (es : Es)
  | idx (a b : E) | sl (a : E) (lo hi : E) | slL (a : E) (lo hi : E) | nil
  | call (x : Str) (es : Es) (ks : List Str) (kes : Es) | callv (i : Nat) (es : Es)
  | bl (b : Bl) (es : Es) | fl (b : Fl1) (es : Es) | mtF (m : MtF) (o : E) (es : Es) | isi (a : E) (ts : List Ty) | mt (m : Mt) (o : E) (es : Es)
  | lc (cl : Cl) | fs (es : Es) | fmt (e : E) | nev
  | dlit (t : Bool) (kvs : Es) | dc (t : Bool) (k v : E) (cl : Cl) | lm (m : Lm) (o : E) (es : Es) | rngT (e : E) | rngL (e : E)
  | calla (x : Str) (as : As) | isx (i : Nat) (cs : List Str)
  | fld (o : E) (f : Str) | meth (C m : Str) (o : E) (es : Es) (ks : List Str) (kes : Es) | mk (C : Str) (es : Es) (ks : List Str) (kes : Es) | isc (e : E) (C : Str)
inductive Es where
  | nil | cons (e : E) (es : Es)
/-- arguments: a value; a thing of the frame's own, lent; an inner def with what it captures; the exception that is handled -/
inductive As where
  | nil | v (e : E) (r : As) | lend (i : Nat) (r : As) | clo (i k : Nat) (js : List Nat) (r : As) | exn (i : Nat) (r : As)
inductive T where
  | v (e : E) | cmp (o : CmpOp) (a b : E) | cmp2 (o o' : CmpOp) (a b c : E) | not_ (t : T) | bop (o : BoolOp) (ts : Ts)
inductive Ts where
  | nil | cons (t : T) (ts : Ts)
inductive It where
  | val (e : E) | rng1 (e : E) | rng2 (a b : E) | rng3 (a b c : E) | enm (e : E) | zip (a b : E) | items (e : E)
inductive Cl where
  | fin (e : E) | gen (t : Tg) (own : List Nat) (it : It) (cs : Ts) (r : Cl)
inductive Tg where
  | v (i : Nat) | tup (ts : Tgs) | tupS (n : Nat) (ts : Tgs)
inductive Tgs where
  | nil | cons (t : Tg) (ts : Tgs)
end
mutual
inductive C where
  | skip | seq (a b : C) | ex (e : E) | set (t : Tg) (e : E) | setO (i : Nat) (e : E) | aug (i : Nat) (o : Operator) (e : E)
  | seti (o i e : E) | app (o e : E) | ext (o e : E)
  | ret (e : E) | retN | ite (c : T) (a b : C) | for_ (t : Tg) (it : It) (b : C) | whl (n : Nat) (c : T) (b : C) | brk | cont
  | raise (x : Str) | tryc (b : C) (x : Str) (i : Option Nat) (h : C) | trym (b : C) (hs : Hs) | nev
  | fdef (i k : Nat) | setD (i : Nat) (e : E) | dpop (o k : E) | setf (o : E) (f : Str) (e : E) | tryf (b f : C)
inductive Hs where
  | nil | cons (x : Str) (h : C) (r : Hs)
end
inductive Fl where | nx | rt (d : D) | bk | ct
/-- what calls do -/
structure Calls where
  f : Str → List D → List Str → List D → Store → Out0
  fa : Str → List Slot → Store → Out0
  c : Nat → List D → List D → Store → Out0
def lift0 (r : Store → Out0) : M D := fun ρ S => match r S with
  | .ok d S => .ok d ρ S
  | .exc c S => .exc c ρ S
  | .stk => .stk
/-- a list of the frame's own is frozen where its name is handed on -/
def peek (i : Nat) : M PV := fun ρ S => match ρ[i]? with
  | some (.val d) => .ok (.v d) ρ S
  | some (.own _) => .ok (.s i) ρ S
  | some (.lck _) => .ok (.s i) ρ S
  | _ => .stk
def take (i : Nat) : M D := fun ρ S => match ρ[i]? with
  | some (.val d) => .ok d ρ S
  | some (.own o) => (match moD o with | some d => .ok d (ρ.set i (.val d)) S | none => .stk)
  | _ => .stk
def lendM (i : Nat) : M Slot := fun ρ S => match ρ[i]? with
  | some (.val d) => .ok (.val d) ρ S
  | some (.own o) => .ok (.lck o) ρ S
  | some (.lck o) => .ok (.lck o) ρ S
  | _ => .stk
def exnM (i : Nat) : M Slot := fun ρ S => match ρ[i]? with
  | some (.exn c) => .ok (.exn c) ρ S
  | _ => .stk
/-- the values that an inner def captured -/
def takes : List Nat → M (List D)
  | [] => mret []
  | j :: js => mbind (take j) fun d => mbind (takes js) fun l => mret (d :: l)
def cloM (i k : Nat) (js : List Nat) : M Slot := fun ρ S => match ρ[i]? with
  | some (.fdef k') => if k = k' then (mbind (takes js) fun caps => mret (.clo k caps)) ρ S else .stk
  | _ => .stk
def peekS (i : Nat) : M PV := fun ρ S => match ρ[i]? with
  | some .none => .stk
  | some _ => .ok (.s i) ρ S
  | none => .stk
/-- the arguments, as they stand at the call -/
def resA : As → List PV → M (List Slot)
  | .nil, [] => mret []
  | .v _ r, .v d :: ps => mbind (resA r ps) fun l => mret (.val d :: l)
  | .lend i r, .s j :: ps => if i = j then mbind (lendM i) fun s => mbind (resA r ps) fun l => mret (s :: l) else mstk
  | .clo i k js r, .s j :: ps => if i = j then mbind (cloM i k js) fun s => mbind (resA r ps) fun l => mret (s :: l) else mstk
  | .exn i r, .s j :: ps => if i = j then mbind (exnM i) fun s => mbind (resA r ps) fun l => mret (s :: l) else mstk
  | _, _ => mstk
def asP (e : E) (m : M D) : M PV := match e with
  | .var i => peek i
  | _ => mbind m fun d => mret (.v d)
/-- a part of a slice -/
def asO (e : E) (m : M D) : M D := match e with
  | .nil => mret .non
  | _ => mbind m fun d => match d with
    | .int i => mret (.int i)
    | _ => mstk
/-- (k: a list of the frame's own is frozen) -/
def asQ (k : Bool) (e : E) (m : M D) : M PV := if k then mbind m fun d => mret (.v d) else asP e m
def shut {α : Type} (m : Fr → Store → Out α) (ρ' : Fr) : M α := fun ρ S => match m ρ' S with
  | .ok a _ S => .ok a ρ S
  | .exc _ _ _ => .stk
  | .stk => .stk
def noOwn (ρ : Fr) : Bool := ρ.all fun sl => match sl with
  | .own _ => false
  | _ => true
def wipeF (ρ : Fr) : List Nat → Fr
  | [] => ρ
  | v :: vs => (wipeF ρ vs).set v .none
mutual
/-- a value to a target -/
def bindT : Tg → D → M Unit
  | .v i, d => fun ρ S => if i < ρ.length then .ok () (ρ.set i (.val d)) S else .stk
  | .tup ts, d => match seqD d with
    | some l => bindTs ts l
    | none => mstk
  | .tupS n ts, d => match seqD d with
    | some l => if decide (n ≤ l.length) then bindTs ts (l.take n ++ [.lst (l.drop n)]) else mstk
    | none => mstk
def bindTs : Tgs → List D → M Unit
  | .nil, [] => mret ()
  | .cons t ts, d :: l => mbind (bindT t d) fun _ => bindTs ts l
  | _, _ => mstk
end
def flatM {α : Type} (f : α → M (List D)) : List α → M (List D)
  | [] => mret []
  | a :: r => mbind (f a) fun x => mbind (flatM f r) fun y => mret (x ++ y)
def intsFrom (lo : Int) : Nat → List D
  | 0 => []
  | n + 1 => .int lo :: intsFrom (lo + 1) n
def rngD (lo hi : Int) : Option (List D) := if decide (-1000000000 ≤ lo ∧ lo ≤ 1000000000 ∧ -1000000000 ≤ hi ∧ hi ≤ 1000000000) then some (intsFrom lo (hi - lo).toNat) else none
def stepsFrom (lo c : Int) : Nat → List D
  | 0 => []
  | n + 1 => .int lo :: stepsFrom (lo + c) c n
def rngD3 (lo hi c : Int) : Option (List D) := if decide (1 ≤ c ∧ c ≤ 1000000) && Builtin.Range.small lo hi c then some (stepsFrom lo c (Builtin.Range.rangeSize lo hi c).toNat) else none
def enumD (l : List D) (k : Int) : List D := match l with
  | [] => []
  | d :: r => .tup [.int k, d] :: enumD r (k + 1)
def zipD : List D → List D → List D
  | a :: r, b :: s => .tup [a, b] :: zipD r s
  | _, _ => []
def zipO : D → D → Option (List D)
  | .lst a, .lst b => some (zipD a b)
  | .tup a, .tup b => some (zipD a b)
  | _, _ => none
def iterD : D → Option (List D)
  | .lst l => some l
  | .fz l => some l
  | .tup l => some l
  | .str s => if okLen s.length then some (s.cps.toList.map fun c => .str ⟨#[c]⟩) else none
  | _ => none
def okItems (l : List D) : M (List D) := if okLen l.length then mret l else mstk
def fLst (ml : M (List D)) : M (List D) := mbind ml fun l => if okLen l.length then mret l else mstk
def fBinL (o : Operator) (pa pb : M PV) : M (List D) := mbind pa fun p => mbind pb fun q => mbind (mval p) fun x => mbind (mval q) fun y => mopt (opBinL o x y)
def fSlL (pa : M PV) (ml mh : M D) : M (List D) := mbind pa fun p => mbind ml fun i => mbind mh fun j => mbind (mval p) fun x => match x with
    | .lst l => mopt (cutD l i j)
    | _ => mstk
def fFl (b : Fl1) (ml : M (List PV)) : M (List D) := mbind ml fun ps => mbind (mvals ps) fun ds => mopt (opFl b ds)
def fMtF (m : MtF) (mo : M D) (ml : M (List PV)) : M (List D) := mbind mo fun x => match x with
    | .str a => mbind ml fun ps => mbind (mvals ps) fun ds => mopt (opMtF m (.str a) ds)
    | _ => mstk
def fLc (m : M (List D)) : M (List D) := fun ρ S => mbind (shut m (lockF ρ)) okItems ρ S
def asL (m : M (List D)) : M D := mbind m fun l => mret (.lst l)
def asM (m : M MO) : M D := mbind m fun o => mopt (moD o)
/-- a dict built of pairs, one behind another -/
def dbuild (t : Bool) : List D → List D → List D → List D → Option (List D × List D)
  | [], [], ks, vs => some (ks, vs)
  | k :: kr, v :: vr, ks, vs => if keyOk t k then (if dhas ks k then dbuild t kr vr ks (dputV ks vs k v) else dbuild t kr vr (ks ++ [k]) (vs ++ [v])) else none
  | _, _, _, _ => none
def unpairs : List D → Option (List D × List D)
  | [] => some ([], [])
  | .tup [k, v] :: r => (unpairs r).map fun p => (k :: p.1, v :: p.2)
  | _ :: _ => none
def itemsD : List D → List D → List D
  | k :: ks, v :: vs => .tup [k, v] :: itemsD ks vs
  | _, _ => []
def anyO (f : Str → Option Bool) : List Str → Option Bool
  | [] => some false
  | x :: r => (f x).bind fun b => if b then some true else anyO f r
/-- keys and values, one behind the other -/
def unflat : List D → Option (List D × List D)
  | [] => some ([], [])
  | k :: v :: r => (unflat r).map fun p => (k :: p.1, v :: p.2)
  | _ :: _ => none
def fDlit (t : Bool) (ml : M (List D)) : M MO := mbind ml fun l => mopt (((unflat l).bind fun p => dbuild t p.1 p.2 [] []).map fun p => .dct t p.1 p.2)
def fDc (t : Bool) (m : M (List D)) : M MO := fun ρ S => mbind (shut m (lockF ρ)) (fun l => mopt (((unpairs l).bind fun p => dbuild t p.1 p.2 [] []).map fun p => .dct t p.1 p.2)) ρ S
def fRng (m : M D) : M (List D) := mbind m fun d => match d with
  | .int n => mopt (rngD 0 n)
  | _ => mstk
def fldM (d : D) (f : Str) : M D := fun ρ S => match d with
  | .ref n => (match S[n]? with
    | some (.ins _ fs) => (match fs.lookup f with | some x => .ok x ρ S | none => .stk)
    | _ => .stk)
  | _ => .stk
def isIns {α : Type} (C : Str) (d : D) (k : Unit → M α) : M α := fun ρ S => match d with
  | .ref n => (match S[n]? with
    | some (.ins C' _) => if C' == C then k () ρ S else .stk
    | _ => .stk)
  | _ => .stk
section
variable (cl : Calls) (sub : Str → Str → Option Bool)
mutual
def evE : E → M D
  | .cst d => mret d
  | .gc _ d => mret d
  | .fnv x => mret (.fn x)
  | .var i => take i
  | .bin o a b => mbind (asP a (evE a)) fun p => mbind (asP b (evE b)) fun q => mbind (mval p) fun x => mbind (mval q) fun y => mopt (opBin o x y)
  | .binL o a b => asL (fBinL o (asP a (evE a)) (asP b (evE b)))
  | .cmp o a b => mbind (asP a (evE a)) fun p => mbind (asP b (evE b)) fun q => mbind (mval p) fun x => mbind (mval q) fun y => mopt ((opCmp o x y).map .bl)
  | .cmp2 o o' a b c => mbind (asP a (evE a)) fun p => mbind (asP b (evE b)) fun q => mbind (mval p) fun x => mbind (mval q) fun y => mbind (mopt (opCmp o x y)) fun k =>
      if k then mbind (asP c (evE c)) fun r => mbind (mval q) fun y => mbind (mval r) fun z => mopt ((opCmp o' y z).map .bl) else mret (.bl false)
  | .bop o es => evB o es
  | .not_ a => mbind (evE a) fun d => match d with
    | .bl b => mret (.bl (!b))
    | _ => mstk
  | .neg a => mbind (evE a) fun d => match d with
    | .int i => mret (.int (-i))
    | _ => mstk
  | .ite c a b => mbind (evT c) fun k => if k then evE a else evE b
  | .tup es => mbind (evEs es) fun l => if okLen l.length then mret (.tup l) else mstk
  | .lst es => asL (fLst (evEs es))
  | .new es => mbind (evEs es) fun l => if okLen l.length then (fun ρ S => .ok (.ref S.length) ρ (S ++ [.lst l])) else mstk
  | .idx a b => mbind (asP a (evE a)) fun p => mbind (evE b) fun i => mbind (mval p) fun x => mopt (opIdx x i)
  | .sl a lo hi => mbind (asP a (evE a)) fun p => mbind (asO lo (evE lo)) fun i => mbind (asO hi (evE hi)) fun j => mbind (mval p) fun x => match x with
    | .tup l => mopt ((cutD l i j).map .tup)
    | _ => mstk
  | .slL a lo hi => asL (fSlL (asP a (evE a)) (asO lo (evE lo)) (asO hi (evE hi)))
  | .nil => mret .non
  | .call x es ks kes => mbind (evEs es) fun ds => mbind (evEs kes) fun kds => lift0 (cl.f x ds ks kds)
  | .callv i es => fun ρ S => match ρ[i]? with
    | some (.val (.fn x)) => (mbind (evEs es) fun ds => lift0 (cl.f x ds [] [])) ρ S
    | some (.clo k caps) => (mbind (evEs es) fun ds => lift0 (cl.c k caps ds)) ρ S
    | _ => .stk
  | .calla x as => mbind (evAs as) fun ps => mbind (resA as ps) fun l => lift0 (cl.fa x l)
  | .dlit t kvs => asM (fDlit t (evEs kvs))
  | .dc t k v c => asM (fDc t (evCl c))
  | .lm m o es => mbind (asP o (evE o)) fun p => mbind (mval p) fun x => match x with
    | .lst _ => mbind (evPs es) fun ps => mbind (mval p) fun x => mbind (mvals ps) fun ds => mopt (opLm m x ds)
    | _ => mstk
  | .rngT e => mbind (evE e) fun d => match d with
    | .int n => mopt ((rngD 0 n).map .tup)
    | _ => mstk
  | .rngL e => asL (fRng (evE e))
  | .isx i cs => fun ρ S => match ρ[i]? with
    | some (.exn c) => (match anyO (sub c) cs with | some b => .ok (.bl b) ρ S | none => .stk)
    | _ => .stk
  | .fld o f => mbind (evE o) fun d => fldM d f
  | .meth C m o es ks kes => mbind (evE o) fun d => isIns C d fun _ => mbind (evEs es) fun ds => mbind (evEs kes) fun kds => lift0 (cl.f (C ++ "." ++ m) (d :: ds) ks kds)
  | .mk C es ks kes => mbind (evEs es) fun ds => mbind (evEs kes) fun kds => fun ρ S => match cl.f (C ++ ".__init__") (.ref S.length :: ds) ks kds (S ++ [.ins C []]) with
    | .ok _ S' => .ok (.ref S.length) ρ S'
    | .exc c S' => .exc c ρ S'
    | .stk => .stk
  | .isc e C => mbind (evE e) fun d => fun ρ S => match d with
    | .ref n => (match S[n]? with
      | some (.ins C' _) => .ok (.bl (C' == C)) ρ S
      | _ => .stk)
    | _ => .stk
  | .bl b es => mbind (evPs es) fun ps => mbind (mvals ps) fun ds => mopt (opBl b ds)
  | .fl b es => asL (fFl b (evPs es))
  | .mtF m o es => asL (fMtF m (evE o) (evPs es))
  | .isi a ts => mbind (asP a (evE a)) fun p => mbind (mval p) fun d => mopt ((isiAny d ts).map .bl)
  | .mt m o es => mbind (evE o) fun x => match x with
    | .str a => mbind (evPs es) fun ps => mbind (mvals ps) fun ds => mopt (opMt m (.str a) ds)
    | _ => mstk
  | .lc c => asL (fLc (evCl c))
  | .fmt e => mbind (evE e) fun d => match d with
    | .str y => if okLen y.length then mret (.str y) else mstk
    | .int i => if decide (i.natAbs.log2 < 1920) then mret (.str (toString i)) else mstk
    | _ => mstk
  | .fs es => mbind (evJ es Str.empty) fun y => mret (.str y)
  | .nev => mstk
/-- the items of a new list -/
def evF : E → M (List D)
  | .lst es => fLst (evEs es)
  | .binL o a b => fBinL o (asP a (evE a)) (asP b (evE b))
  | .slL a lo hi => fSlL (asP a (evE a)) (asO lo (evE lo)) (asO hi (evE hi))
  | .fl b es => fFl b (evPs es)
  | .mtF m o es => fMtF m (evE o) (evPs es)
  | .lc c => fLc (evCl c)
  | .rngL e => fRng (evE e)
  | _ => mstk
/-- a new dict -/
def evM : E → M MO
  | .dlit t kvs => fDlit t (evEs kvs)
  | .dc t k v c => fDc t (evCl c)
  | _ => mstk
def evB : BoolOp → Es → M D
  | _, .nil => mstk
  | _, .cons e .nil => evE e
  | .And, .cons e es => mbind (evE e) fun d => match d with
    | .bl true => evB .And es
    | .bl false => mret (.bl false)
    | _ => mstk
  | .Or, .cons e es => mbind (evE e) fun d => match d with
    | .bl true => mret (.bl true)
    | .bl false => evB .Or es
    | _ => mstk
def evEs : Es → M (List D)
  | .nil => mret []
  | .cons e es => mbind (evE e) fun d => mbind (evEs es) fun l => mret (d :: l)
def evAs : As → M (List PV)
  | .nil => mret []
  | .v e r => mbind (evE e) fun d => mbind (evAs r) fun l => mret (.v d :: l)
  | .lend i r => mbind (peekS i) fun p => mbind (evAs r) fun l => mret (p :: l)
  | .clo i _ _ r => mbind (peekS i) fun p => mbind (evAs r) fun l => mret (p :: l)
  | .exn i r => mbind (peekS i) fun p => mbind (evAs r) fun l => mret (p :: l)
def evJ : Es → Str → M Str
  | .nil, acc => mret acc
  | .cons e es, acc => mbind (evE e) fun d => match d with
    | .str y => if okLen (acc ++ y).length then evJ es (acc ++ y) else mstk
    | _ => mstk
def evPs : Es → M (List PV)
  | .nil => mret []
  | .cons e es => mbind (asP e (evE e)) fun d => mbind (evPs es) fun l => mret (d :: l)
def evT : T → M Bool
  | .v e => mbind (asP e (evE e)) fun p => mbind (mval p) fun d => mopt (tru d)
  | .cmp o a b => mbind (asP a (evE a)) fun p => mbind (asP b (evE b)) fun q => mbind (mval p) fun x => mbind (mval q) fun y => mopt (opCmp o x y)
  | .cmp2 o o' a b c => mbind (asP a (evE a)) fun p => mbind (asP b (evE b)) fun q => mbind (mval p) fun x => mbind (mval q) fun y => mbind (mopt (opCmp o x y)) fun k =>
      if k then mbind (asP c (evE c)) fun r => mbind (mval q) fun y => mbind (mval r) fun z => mopt (opCmp o' y z) else mret false
  | .not_ t => mbind (evT t) fun b => mret (!b)
  | .bop o ts => evTs o ts
def evTs : BoolOp → Ts → M Bool
  | .And, .nil => mret true
  | .Or, .nil => mret false
  | .And, .cons t ts => mbind (evT t) fun b => if b then evTs .And ts else mret false
  | .Or, .cons t ts => mbind (evT t) fun b => if b then mret true else evTs .Or ts
def evI : Bool → It → M (List D)
  | k, .val e => mbind (asQ k e (evE e)) fun p => mbind (mresL p) fun d => mopt (iterD d)
  | _, .rng1 e => mbind (evE e) fun d => match d with
    | .int n => mopt (rngD 0 n)
    | _ => mstk
  | _, .rng2 a b => mbind (evE a) fun x => mbind (evE b) fun y => match x, y with
    | .int lo, .int hi => mopt (rngD lo hi)
    | _, _ => mstk
  | _, .rng3 a b c => mbind (evE a) fun x => mbind (evE b) fun y => mbind (evE c) fun z => match x, y, z with
    | .int lo, .int hi, .int st => mopt (rngD3 lo hi st)
    | _, _, _ => mstk
  | k, .enm e => mbind (asQ k e (evE e)) fun p => mbind (mresL p) fun d => mopt ((seqD d).map fun l => enumD l 0)
  | _, .items e => mbind (asP e (evE e)) fun p => mbind (mresL p) fun d => match d with
    | .dct _ ks vs => mret (itemsD ks vs)
    | _ => mstk
  | k, .zip a b => mbind (asQ k a (evE a)) fun p => mbind (asQ k b (evE b)) fun q => mbind (mresL p) fun x => mbind (mresL q) fun y => mopt (zipO x y)
def evCl : Cl → M (List D)
  | .fin e => mbind (evE e) fun d => mret [d]
  | .gen t own it cs r => mbind (evI false it) fun l => fun ρ S => if noOwn ρ then flatM (fun d => fun ρ S =>
      shut (mbind (bindT t d) fun _ => mbind (evTs .And cs) fun k => if k then evCl r else mret []) (wipeF ρ own) ρ S) l ρ S else .stk
end
/-! ### statements -/
def forM (t : Tg) (body : M Fl) : List D → M Fl
  | [] => mret .nx
  | d :: r => mbind (bindT t d) fun _ => mbind body fun f => match f with
    | .nx => forM t body r
    | .ct => forM t body r
    | .bk => mret .nx
    | .rt d => mret (.rt d)
def whlM (c : M Bool) (body : M Fl) : Nat → M Fl
  | 0 => mstk
  | n + 1 => mbind c fun b => if b then mbind body fun f => (match f with
    | .nx => whlM c body n
    | .ct => whlM c body n
    | .bk => mret .nx
    | .rt d => mret (.rt d)) else mret .nx
/-- a thing of the frame's own, or of the store, is changed -/
def chg (p : PV) (f : MO → Option MO) : M Fl := match p with
  | .s i => fun ρ S => match ρ[i]? with
    | some (.own o) => (match f o with | some o' => .ok .nx (ρ.set i (.own o')) S | none => .stk)
    | _ => .stk
  | .v (.ref n) => fun ρ S => match S[n]? with
    | some o => (match f o with | some o' => .ok .nx ρ (S.set n o') | none => .stk)
    | none => .stk
  | _ => mstk
def putAt (i : D) (d : D) : MO → Option MO
  | .lst l => match i with
    | .int k => (ixD l.length k).map fun j => .lst (l.set j d)
    | _ => none
  | .dct t ks vs => if keyOk t i && decide (ks.length < 16777216) then some (if dhas ks i then .dct t ks (dputV ks vs i d) else .dct t (ks ++ [i]) (vs ++ [d])) else none
  | _ => none
def popAt (k : D) : MO → Option MO
  | .dct false ks vs => if keyOk false k && dhas ks k then some (.dct false (ddropK ks k) (ddropV ks vs k)) else none
  | _ => none
def setFl (f : Str) (d : D) : MO → Option MO
  | .ins C fs => some (.ins C (if (fs.lookup f).isSome then fs.map (fun q => if q.1 == f then (f, d) else q) else fs ++ [(f, d)]))
  | _ => none
def mclr (i : Option Nat) (ρ : Fr) : Fr := match i with | some i => (clrF ρ).set i .none | none => clrF ρ
def mexn (i : Option Nat) (c : Str) (ρ : Fr) : Fr := match i with | some i => ρ.set i (.exn c) | none => ρ
def addTo (l' : List D) : MO → Option MO
  | .lst l => if okLen (l.length + l'.length) then some (.lst (l ++ l')) else none
  | _ => none
mutual
def evC : C → M Fl
  | .skip => mret .nx
  | .seq a b => mbind (evC a) fun f => match f with
    | .nx => evC b
    | f => mret f
  | .ex e => mbind (evE cl sub e) fun _ => mret .nx
  | .set t e => mbind (evE cl sub e) fun d => mbind (bindT t d) fun _ => mret .nx
  | .setO i e => mbind (evF cl sub e) fun l => fun ρ S => if i < ρ.length then .ok .nx (ρ.set i (.own (.lst l))) S else .stk
  | .setD i e => mbind (evM cl sub e) fun o => fun ρ S => if i < ρ.length then .ok .nx (ρ.set i (.own o)) S else .stk
  | .aug i o e => mbind (peek i) fun p => match p with
    | .v x => mbind (evE cl sub e) fun y => mbind (mopt (opAug o x y)) fun d => mbind (bindT (.v i) d) fun _ => mret .nx
    | _ => mstk
  | .seti o i e => mbind (evE cl sub e) fun d => mbind (asP o (evE cl sub o)) fun p => mbind (evE cl sub i) fun k => chg p (putAt k d)
  | .dpop o k => mbind (asP o (evE cl sub o)) fun p => mbind (evE cl sub k) fun k => chg p (popAt k)
  | .app o e => mbind (asP o (evE cl sub o)) fun p => mbind (mval p) fun x => match x with
    | .lst _ => mbind (evE cl sub e) fun d => chg p (addTo [d])
    | _ => mstk
  | .ext o e => mbind (asP o (evE cl sub o)) fun p => mbind (mval p) fun x => match x with
    | .lst _ => mbind (evE cl sub e) fun d => match d with
      | .lst l => chg p (addTo l)
      | _ => mstk
    | _ => mstk
  | .setf o f e => mbind (evE cl sub e) fun d => mbind (evE cl sub o) fun p => chg (.v p) (setFl f d)
  | .ret e => mbind (evE cl sub e) fun d => mret (.rt d)
  | .retN => mret (.rt .non)
  | .ite c a b => mbind (evT cl sub c) fun k => if k then evC a else evC b
  | .for_ t it b => mbind (evI cl sub true it) fun l => forM t (evC b) l
  | .whl n c b => whlM (evT cl sub c) (evC b) n
  | .brk => mret .bk
  | .cont => mret .ct
  | .raise x => mexc x
  | .nev => mstk
  | .fdef i k => fun ρ S => if i < ρ.length then .ok .nx (ρ.set i (.fdef k)) S else .stk
  | .tryc b x i h => fun ρ S => match evC b ρ S with
    | .exc c ρ S => (match sub c x with
      | some true => (match evC h (mexn i c ρ) S with
        | .ok f ρ S => .ok f (mclr i ρ) S
        | _ => .stk)
      | some false => .exc c ρ S
      | none => .stk)
    | r => r
  | .trym b hs => fun ρ S => match evC b ρ S with
    | .exc c ρ S => evH hs c ρ S
    | r => r
  | .tryf b f => fun ρ S => match evC b ρ S with
    | .ok r ρ S => (match evC f ρ S with
      | .ok .nx ρ S => .ok r ρ S
      | _ => .stk)
    | .exc c ρ S => (match evC f ρ S with
      | .ok .nx ρ S => .exc c ρ S
      | _ => .stk)
    | .stk => .stk
def evH : Hs → Str → M Fl
  | .nil, c => mexc c
  | .cons x h r, c => match sub c x with
    | some true => fun ρ S => match evC h ρ S with
      | .ok f ρ S => .ok f (mclr none ρ) S
      | _ => .stk
    | some false => evH r c
    | none => mstk
end
end
/-! ### programs -/
structure Fn where
  name : Str
  ps : List Str
  npos : Nat
  kwd : List (Str × D)
  N : List Str
  body : C
structure Pgm where
  fns : List Fn
  clos : List Fn
  sub : Str → Str → Option Bool
def arrange (fn : Fn) (ds : List D) (ks : List Str) (kds : List D) : Option (List D) :=
  if ds.length == fn.npos && ks.all (fun k => (fn.kwd.map (·.1)).contains k) then some (ds ++ fn.kwd.map fun q => ((ks.zip kds).lookup q.1).getD q.2) else none
def frame0 (fn : Fn) (args : List D) : Fr := args.map Slot.val ++ List.replicate (fn.N.length - args.length) Slot.none
/-- .. of any arguments -/
def frameA (fn : Fn) (args : List Slot) : Fr := args ++ List.replicate (fn.N.length - args.length) Slot.none
def outR : Out Fl → Out0
  | .ok .nx _ S => .ok .non S
  | .ok (.rt d) _ S => .ok d S
  | .ok _ _ _ => .stk
  | .exc c _ S => .exc c S
  | .stk => .stk
def runFn (cl : Calls) (sub : Str → Str → Option Bool) (fn : Fn) (args : List D) (S : Store) : Out0 := outR (evC cl sub fn.body (frame0 fn args) S)
def runFnA (cl : Calls) (sub : Str → Str → Option Bool) (fn : Fn) (args : List Slot) (S : Store) : Out0 := outR (evC cl sub fn.body (frameA fn args) S)
def callF (Pg : Pgm) : Nat → Calls
  | 0 => ⟨fun _ _ _ _ _ => .stk, fun _ _ _ => .stk, fun _ _ _ _ => .stk⟩
  | n + 1 => ⟨fun x ds ks kds S => match Pg.fns.find? fun f => f.name == x with
      | some fn => (match arrange fn ds ks kds with
        | some args => runFn (callF Pg n) Pg.sub fn args S
        | none => .stk)
      | none => .stk,
    fun x args S => match Pg.fns.find? fun f => f.name == x with
      | some fn => if args.length == fn.npos && fn.kwd.isEmpty then runFnA (callF Pg n) Pg.sub fn args S else .stk
      | none => .stk,
    fun k caps ds S => match Pg.clos[k]? with
      | some fn => if ds.length == fn.npos then runFn (callF Pg n) Pg.sub fn (ds ++ caps) S else .stk
      | none => .stk⟩
end MP

namespace MP
open PySem PySem.Spec L2
abbrev _root_.L2.Cx.gp (X : Cx) : Gp := ⟨X.prog, X.w, X.K, X.mg, X.base⟩
/-- where a run stands -/
structure Sg where
  B : Bs
  G : Hp
  μ : List Addr
  ρ : Fr
  S : Store
structure Le (s s' : Sg) : Prop where
  B : s'.B = s.B
  G : Sub s.G s'.G
  μ : ∀ (n : Nat) (a : Addr), s.μ[n]? = some a → s'.μ[n]? = some a
theorem Le.refl (s : Sg) : Le s s := ⟨rfl, Sub.refl _, fun _ _ h => h⟩
theorem Le.trans {s s1 s2 : Sg} (a : Le s s1) (b : Le s1 s2) : Le s s2 := ⟨b.B.trans a.B, a.G.trans b.G, fun n x h => b.μ n x (a.μ n x h)⟩
abbrev At (g : Gp) (T : Tx) (s : Sg) (σ : L2.St) (H : Hp) : Prop := Sim g T s.B s.G s.μ s.ρ s.S σ H
def gcls (g : Gp) (c : Str) : Value := (g.mg c).getD .none
section
variable {g : Gp} {T : Tx} {W : WX} {α β : Type} {s s' s1 : Sg} {σ : L2.St} {H H' : Hp} {m : M α} {k : α → M β}
/-- what follows a run -/
def Aft (g : Gp) (T : Tx) (W : WX) (m : M α) (s : Sg) (σ : L2.St) (Q : α → Sg → Hp → Prop) : Prop :=
  match m s.ρ s.S with
  | .ok a ρ S => ∀ s' H', Le s s' → s'.ρ = ρ → s'.S = S → At g T s' σ H' → Q a s' H'
  | .exc c ρ S => ∀ s' H', Le s s' → s'.ρ = ρ → s'.S = S → At g T s' σ H' → W (gcls g c) none σ H'
  | .stk => False
theorem Aft.mono {Q Q' : α → Sg → Hp → Prop} (h : Aft g T W m s σ Q) (k : ∀ a s' H', Le s s' → At g T s' σ H' → Q a s' H' → Q' a s' H') : Aft g T W m s σ Q' := by
  unfold Aft at h ⊢
  cases e : m s.ρ s.S with
  | ok a ρ S => rw [e] at h; exact fun s' H' l e1 e2 I => k a s' H' l I (h s' H' l e1 e2 I)
  | exc c ρ S => rw [e] at h; exact h
  | stk => rw [e] at h; exact h
theorem Aft.bind {Q : β → Sg → Hp → Prop} (h : Aft g T W (mbind m k) s σ Q) : Aft g T W m s σ fun a s1 H1 => Aft g T W (k a) s1 σ Q := by
  unfold Aft at h ⊢
  unfold mbind at h
  cases e : m s.ρ s.S with
  | ok a ρ S =>
    rw [e] at h
    intro s1 H1 l e1 e2 I
    subst e1 e2
    have h : (match k a s1.ρ s1.S with
      | .ok a ρ S => ∀ s' H', Le s s' → s'.ρ = ρ → s'.S = S → At g T s' σ H' → Q a s' H'
      | .exc c ρ S => ∀ s' H', Le s s' → s'.ρ = ρ → s'.S = S → At g T s' σ H' → W (gcls g c) none σ H'
      | .stk => False) := h
    show (match k a s1.ρ s1.S with
      | .ok a ρ S => ∀ s' H', Le s1 s' → s'.ρ = ρ → s'.S = S → At g T s' σ H' → Q a s' H'
      | .exc c ρ S => ∀ s' H', Le s1 s' → s'.ρ = ρ → s'.S = S → At g T s' σ H' → W (gcls g c) none σ H'
      | .stk => False)
    cases e2 : k a s1.ρ s1.S with
    | ok b ρ' S' => rw [e2] at h; exact fun s' H' l' => h s' H' (l.trans l')
    | exc c ρ' S' => rw [e2] at h; exact fun s' H' l' => h s' H' (l.trans l')
    | stk => rw [e2] at h; exact h
  | exc c ρ S => rw [e] at h; exact h
  | stk => rw [e] at h; exact h
theorem Aft.ret {Q : α → Sg → Hp → Prop} {a : α} (h : Aft g T W (mret a) s σ Q) (I : At g T s σ H) : Q a s H := h s H (Le.refl _) rfl rfl I
/-- .. at a later place of the same frame and store -/
theorem Aft.ret' {Q : α → Sg → Hp → Prop} {a : α} (h : Aft g T W (mret a) s σ Q) (l : Le s s1) (e1 : s1.ρ = s.ρ) (e2 : s1.S = s.S) (I : At g T s1 σ H) : Q a s1 H := h s1 H l e1 e2 I
theorem Aft.opt {Q : α → Sg → Hp → Prop} {o : Option α} (h : Aft g T W (mopt o) s σ Q) : ∃ a, o = some a ∧ Aft g T W (mret a) s σ Q := by
  cases o with
  | none => exact False.elim h
  | some a => exact ⟨a, rfl, h⟩
theorem Aft.stk {Q : α → Sg → Hp → Prop} (h : Aft g T W mstk s σ Q) : False := h
end
/-- what a place of values says -/
def prep (g : Gp) (s : Sg) (σ : L2.St) : PV → V → Prop
  | .v d, v => rep g s.μ s.G d v
  | .s i, v => σ[i]? = some (some v)
/-- a value as it is now -/
def wrep (g : Gp) (s : Sg) (H : Hp) (d : D) (v : V) : Prop := rep g s.μ s.G d v ∨ (∃ l a vs, d = .lst l ∧ v = .ref a ∧ H a = some (.lst vs) ∧ reps g s.μ s.G l vs) ∨ ∃ t ks vs a, d = .dct t ks vs ∧ v = .ref a ∧ mrepL g s.μ s.G H a (.dct t ks vs)
theorem wrep.lst {g : Gp} {s : Sg} {H : Hp} {l : List D} {v : V} (hg : Sub s.G H) (h : wrep g s H (.lst l) v) : ∃ a vs, v = .ref a ∧ H a = some (.lst vs) ∧ reps g s.μ s.G l vs := by
  rcases h with ⟨a, vs, e, q, r⟩ | ⟨l', a, vs, e, e2, q, r⟩ | ⟨t, ks, vs, a, e, _⟩
  · exact ⟨a, vs, e, hg _ _ q, r⟩
  · cases e; exact ⟨a, vs, e2, q, r⟩
  · cases e
theorem wrep.dct {g : Gp} {s : Sg} {H : Hp} {t : Bool} {ks vs : List D} {v : V} (hg : Sub s.G H) (h : wrep g s H (.dct t ks vs) v) : ∃ a, v = .ref a ∧ mrepL g s.μ s.G H a (.dct t ks vs) := by
  rcases h with h | ⟨l', a, vs, e, e2, q, r⟩ | ⟨t, ks, vs, a, e, e2, r⟩
  · cases t with
    | false => obtain ⟨a, kvs, e, q, k, r⟩ := h; exact ⟨a, e, kvs, Rd.mono hg q, k, r⟩
    | true => obtain ⟨a, kvs, e, q, k, r⟩ := h; exact ⟨a, e, kvs, Rd.mono hg q, k, r⟩
  · cases e
  · cases e; exact ⟨a, e2, r⟩
theorem wrep.rep {g : Gp} {s : Sg} {H : Hp} {d : D} {v : V} (h : wrep g s H d v) (n : ∀ l, d ≠ .lst l) (n2 : ∀ t ks vs, d ≠ .dct t ks vs := by intro _ _ _ z; cases z) : rep g s.μ s.G d v := by
  rcases h with h | ⟨l', a, vs, e, _⟩ | ⟨t, ks, vs, a, e, _⟩
  · exact h
  · exact absurd e (n _)
  · exact absurd e (n2 _ _ _)
theorem rep_le {g : Gp} {s s' : Sg} (l : Le s s') {d : D} {v : V} (h : rep g s.μ s.G d v) : rep g s'.μ s'.G d v := rep_mono l.G l.μ d v h
theorem reps_le {g : Gp} {s s' : Sg} (l : Le s s') {d : List D} {v : List V} (h : reps g s.μ s.G d v) : reps g s'.μ s'.G d v := reps_mono l.G l.μ d v h
theorem prep_le {g : Gp} {s s' : Sg} {σ : L2.St} (l : Le s s') {p : PV} {v : V} (h : prep g s σ p v) : prep g s' σ p v := by
  cases p with
  | v d => exact rep_le l h
  | s i => exact h
theorem reps_len {g : Gp} {μ : List Addr} {G : Hp} : ∀ {l : List D} {vs : List V}, reps g μ G l vs → l.length = vs.length
  | [], vs, h => by rw [show vs = [] from h]; rfl
  | d :: l, vs, ⟨v, r, e, _, h⟩ => by rw [e, List.length_cons, List.length_cons, reps_len h]
theorem reps_get {g : Gp} {μ : List Addr} {G : Hp} : ∀ {l : List D} {vs : List V} {i : Nat} {d : D}, reps g μ G l vs → l[i]? = some d → ∃ v, vs[i]? = some v ∧ rep g μ G d v
  | [], _, _, _, _, e => by simp at e
  | d :: l, vs, 0, d', ⟨v, r, e, h1, h2⟩, q => by simp at q; subst q; exact ⟨v, by rw [e]; rfl, h1⟩
  | d :: l, vs, i + 1, d', ⟨v, r, e, h1, h2⟩, q => by
    obtain ⟨w, a, b⟩ := reps_get (i := i) h2 (by simpa using q)
    exact ⟨w, by rw [e]; simpa using a, b⟩
theorem reps_append {g : Gp} {μ : List Addr} {G : Hp} : ∀ {l l' : List D} {vs vs' : List V}, reps g μ G l vs → reps g μ G l' vs' → reps g μ G (l ++ l') (vs ++ vs')
  | [], l', vs, vs', h, h' => by rw [show vs = [] from h]; exact h'
  | d :: l, l', vs, vs', ⟨v, r, e, h1, h2⟩, h' => ⟨v, r ++ vs', by rw [e]; rfl, h1, reps_append h2 h'⟩
theorem reps_drop {g : Gp} {μ : List Addr} {G : Hp} : ∀ {l : List D} {vs : List V} (n : Nat), reps g μ G l vs → reps g μ G (l.drop n) (vs.drop n)
  | l, vs, 0, h => h
  | [], vs, n + 1, h => by rw [show vs = [] from h]; rfl
  | d :: l, vs, n + 1, ⟨v, r, e, h1, h2⟩ => by rw [e]; exact reps_drop n h2
theorem reps_take {g : Gp} {μ : List Addr} {G : Hp} : ∀ {l : List D} {vs : List V} (n : Nat), reps g μ G l vs → reps g μ G (l.take n) (vs.take n)
  | l, vs, 0, h => rfl
  | [], vs, n + 1, h => by rw [show vs = [] from h]; rfl
  | d :: l, vs, n + 1, ⟨v, r, e, h1, h2⟩ => by rw [e]; exact ⟨v, r.take n, rfl, h1, reps_take n h2⟩
theorem reps_set {g : Gp} {μ : List Addr} {G : Hp} {d : D} {v : V} (hv : rep g μ G d v) : ∀ {l : List D} {vs : List V} (n : Nat), reps g μ G l vs → reps g μ G (l.set n d) (vs.set n v)
  | [], vs, n, h => by rw [show vs = [] from h]; rfl
  | d' :: l, vs, 0, ⟨w, r, e, h1, h2⟩ => by rw [e]; exact ⟨v, r, rfl, hv, h2⟩
  | d' :: l, vs, n + 1, ⟨w, r, e, h1, h2⟩ => by rw [e]; exact ⟨w, r.set n v, rfl, h1, reps_set hv n h2⟩
theorem reps_repl {g : Gp} {μ : List Addr} {G : Hp} {l : List D} {vs : List V} (h : reps g μ G l vs) : ∀ n : Nat, reps g μ G (List.replicate n l).flatten (List.replicate n vs).flatten
  | 0 => rfl
  | n + 1 => by
    rw [List.replicate_succ, List.replicate_succ, List.flatten_cons, List.flatten_cons]
    exact reps_append h (reps_repl h n)
/-- a list that nobody else knows -/
def Fresh (g : Gp) (s : Sg) (σ : L2.St) (H : Hp) (l : List D) (v : V) : Prop := ∃ p vs, v = .ref p ∧ H p = some (.lst vs) ∧ reps g s.μ s.G l vs ∧ p ∉ s.μ ∧ s.G p = none ∧ s.B.H0 p = none ∧ s.B.pin p = none ∧ ∀ (i : Nat) m, s.ρ[i]? = some (.own m) → σ[i]? ≠ some (some (.ref p))
section
variable (T : Tx) (W : WX)
def tE (g : Gp) (m : M D) : TE := fun σ H Q => ∃ s, At g T s σ H ∧ Aft g T W m s σ fun d s' H' => ∀ v, rep g s'.μ s'.G d v → Q v H'
def tP (g : Gp) (m : M PV) : TE := fun σ H Q => ∃ s, At g T s σ H ∧ Aft g T W m s σ fun p s' H' => ∀ v, prep g s' σ p v → Q v H'
def tF (g : Gp) (m : M (List D)) : TE := fun σ H Q => ∃ s, At g T s σ H ∧ Aft g T W m s σ fun l s' H' => ∀ v, Fresh g s' σ H' l v → Q v H'
def tA (g : Gp) (m : M (List D)) : TA := fun σ H Q => ∃ s, At g T s σ H ∧ Aft g T W m s σ fun l s' H' => ∀ vs, reps g s'.μ s'.G l vs → Q vs H'
def tPs (g : Gp) (m : M (List PV)) : TA := fun σ H Q => ∃ s, At g T s σ H ∧ Aft g T W m s σ fun l s' H' => ∀ vs, Paired (fun p v => prep g s' σ p v) l vs → Q vs H'
def tB (g : Gp) (m : M Bool) : TT := fun σ H Q => ∃ s, At g T s σ H ∧ Aft g T W m s σ fun b s' H' => Q b H'
def tSt (g : Gp) (m : M Fl) : TS := fun D σ H => ∃ s, At g T s σ H ∧ match m s.ρ s.S with
  | .ok f ρ S => ∀ s' σ' H', Le s s' → s'.ρ = ρ → s'.S = S → At g T s' σ' H' → (match f with
    | .nx => D.nx σ' H'
    | .bk => D.bk σ' H'
    | .ct => D.ct σ' H'
    | .rt d => ∀ v, rep g s'.μ s'.G d v → D.rt v H')
  | .exc c ρ S => ∀ s' σ' H', Le s s' → s'.ρ = ρ → s'.S = S → At g T s' σ' H' → W (gcls g c) none σ' H'
  | .stk => False
abbrev SE (X : Cx) (e : Expr) (m : M D) : Prop := PE X e (tE T W X.gp m)
abbrev SP (X : Cx) (e : Expr) (m : M PV) : Prop := PE X e (tP T W X.gp m)
abbrev SF (X : Cx) (e : Expr) (m : M (List D)) : Prop := PE X e (tF T W X.gp m)
abbrev SA (X : Cx) (es : List Expr) (m : M (List D)) : Prop := PA X es (tA T W X.gp m)
abbrev SPs (X : Cx) (es : List Expr) (m : M (List PV)) : Prop := PA X es (tPs T W X.gp m)
abbrev SB (X : Cx) (e : Expr) (m : M Bool) : Prop := PT X e (tB T W X.gp m)
abbrev SS (X : Cx) (st : Stmt) (m : M Fl) : Prop := PS X st (tSt T W X.gp m)
abbrev SSs (X : Cx) (st : List Stmt) (m : M Fl) : Prop := PSs X st (tSt T W X.gp m)
end
theorem _root_.L2.PE.weak {X : Cx} {e : Expr} {t t' : TE} (h : PE X e t) (k : ∀ σ H Q, t' σ H Q → t σ H Q) : PE X e t' := ⟨fun pins s σ H Q I q => h.run pins s σ H Q I (k σ H Q q)⟩
theorem _root_.L2.PT.weak {X : Cx} {e : Expr} {t t' : TT} (h : PT X e t) (k : ∀ σ H Q, t' σ H Q → t σ H Q) : PT X e t' := ⟨fun pins s σ H Q I q => h.run pins s σ H Q I (k σ H Q q)⟩
theorem _root_.L2.PA.weak {X : Cx} {e : List Expr} {t t' : TA} (h : PA X e t) (k : ∀ σ H Q, t' σ H Q → t σ H Q) : PA X e t' := ⟨fun pos pins s σ H Q I q => h.run pos pins s σ H Q I (k σ H Q q)⟩
theorem _root_.L2.PS.weak {X : Cx} {e : Stmt} {t t' : TS} (h : PS X e t) (k : ∀ D σ H, t' D σ H → t D σ H) : PS X e t' := ⟨fun pins s σ H D I q => h.run pins s σ H D I (k D σ H q)⟩
theorem _root_.L2.PSs.weak {X : Cx} {e : List Stmt} {t t' : TS} (h : PSs X e t) (k : ∀ D σ H, t' D σ H → t D σ H) : PSs X e t' := ⟨fun pins s σ H D I q => h.run pins s σ H D I (k D σ H q)⟩
section
variable {T : Tx} {W : WX} {X : Cx} {e : Expr} {s : Sg} {σ : L2.St} {H : Hp}
/-- a place's value now -/
theorem Aft.val {p : PV} {v : V} {β : Type} {k : D → M β} {Q : β → Sg → Hp → Prop} {g : Gp} (h : Aft g T W (mbind (mval p) k) s σ Q) (I : At g T s σ H) (hp : prep g s σ p v) : ∃ d, wrep g s H d v ∧ Aft g T W (k d) s σ Q := by
  have fin : ∀ d, wrep g s H d v → (mval p s.ρ s.S = .ok d s.ρ s.S) → ∃ d, wrep g s H d v ∧ Aft g T W (k d) s σ Q := fun d w e => by
    refine ⟨d, w, ?_⟩
    have h2 := h
    unfold Aft at h2
    unfold mbind at h2
    rw [e] at h2
    exact h2
  have nostk : mval p s.ρ s.S ≠ .stk := fun e => by
    unfold Aft at h
    unfold mbind at h
    rw [e] at h
    exact h
  have viaS : ∀ o a, mrepL g s.μ s.G H a o → v = .ref a → ∀ d, moD o = some d → wrep g s H d v := fun o a hm ev d hd => by
    cases o with
    | lst l =>
      cases hd
      obtain ⟨vs, q, r⟩ := hm
      exact .inr (.inl ⟨l, a, vs, rfl, ev, q, r⟩)
    | dct t ks vs =>
      cases hd
      exact .inr (.inr ⟨t, ks, vs, a, rfl, ev, hm⟩)
    | ins _ _ => cases hd
  -- from a tree
  have tree : ∀ d, wrep g s H d v → (mbind (mret d) mrefd s.ρ s.S ≠ .stk) → ∃ d', wrep g s H d' v ∧ mbind (mret d) mrefd s.ρ s.S = .ok d' s.ρ s.S := fun d w ns => by
    cases d with
    | ref n =>
      have w' := w.rep (fun l z => nomatch z)
      obtain ⟨a, ev, hμ⟩ := w'
      have ns' : mrefd (.ref n) s.ρ s.S ≠ .stk := ns
      show ∃ d', wrep g s H d' v ∧ mrefd (.ref n) s.ρ s.S = .ok d' s.ρ s.S
      cases eo : s.S[n]? with
      | none => simp only [mrefd, eo] at ns'; exact absurd rfl ns'
      | some o =>
        cases em : moD o with
        | none => simp only [mrefd, eo, em] at ns'; exact absurd rfl ns'
        | some d' =>
          exact ⟨d', viaS o a (I.store n o a eo hμ).L ev d' em, by simp only [mrefd, eo, em]⟩
    | _ => exact ⟨_, w, rfl⟩
  cases p with
  | v d =>
    obtain ⟨d', w, e⟩ := tree d (.inl hp) nostk
    exact fin d' w e
  | s i =>
    have hp : σ[i]? = some (some v) := hp
    have key : ∀ d, wrep g s H d v → mres (.s i) s.ρ s.S = .ok d s.ρ s.S → ∃ d, wrep g s H d v ∧ Aft g T W (k d) s σ Q := fun d w e => by
      have e2 : mval (.s i) s.ρ s.S = mbind (mret d) mrefd s.ρ s.S := by
        show mbind (mres (.s i)) mrefd s.ρ s.S = _
        unfold mbind
        rw [e]
        rfl
      obtain ⟨d', w', e'⟩ := tree d w (by rw [← e2]; exact nostk)
      exact fin d' w' (e2.trans e')
    cases es : s.ρ[i]? with
    | none =>
      exfalso
      apply nostk
      show mbind (mres (.s i)) mrefd s.ρ s.S = _
      unfold mbind mres
      simp only [es]
    | some sl =>
      have hs := I.slots i sl es
      cases sl with
      | none =>
        exfalso
        apply nostk
        show mbind (mres (.s i)) mrefd s.ρ s.S = _
        unfold mbind mres
        simp only [es]
      | fdef _ =>
        exfalso
        apply nostk
        show mbind (mres (.s i)) mrefd s.ρ s.S = _
        unfold mbind mres
        simp only [es]
      | clo _ _ =>
        exfalso
        apply nostk
        show mbind (mres (.s i)) mrefd s.ρ s.S = _
        unfold mbind mres
        simp only [es]
      | exn _ =>
        exfalso
        apply nostk
        show mbind (mres (.s i)) mrefd s.ρ s.S = _
        unfold mbind mres
        simp only [es]
      | val d =>
        obtain ⟨v', e1, r⟩ := hs
        rw [hp] at e1; cases e1
        exact key d (.inl r) (by unfold mres; simp only [es])
      | own o =>
        obtain ⟨a, e1, r, _⟩ := hs
        rw [hp] at e1; cases e1
        cases em : moD o with
        | none =>
          exfalso
          apply nostk
          show mbind (mres (.s i)) mrefd s.ρ s.S = _
          unfold mbind mres
          simp only [es, em]
        | some d => exact key d (viaS o a r.L rfl d em) (by unfold mres; simp only [es, em])
      | lck o =>
        obtain ⟨a, e1, r, nm⟩ := hs
        rw [hp] at e1; cases e1
        have r2 : mrepL g s.μ s.G H a o := by
          obtain ⟨u, q, nt⟩ := mrepL_some r
          exact mrepL_mono (Sub.refl _) (fun _ _ h => h) ((I.base a u q nm nt).trans q.symm) r
        cases em : moD o with
        | none =>
          exfalso
          apply nostk
          show mbind (mres (.s i)) mrefd s.ρ s.S = _
          unfold mbind mres
          simp only [es, em]
        | some d => exact key d (viaS o a r2 rfl d em) (by unfold mres; simp only [es, em])
/-- a fresh list is frozen -/
theorem Fresh.freeze {g : Gp} {l : List D} {v : V} (I : At g T s σ H) (h : Fresh g s σ H l v) : ∃ s', Le s s' ∧ s'.ρ = s.ρ ∧ s'.S = s.S ∧ At g T s' σ H ∧ rep g s'.μ s'.G (.lst l) v := by
  obtain ⟨p, vs, e, q, r, h1, h2, h3, h7, h4⟩ := h
  have sg : Sub s.G (upd s.G p (.lst vs)) := Sub.add h2
  exact ⟨{ s with G := upd s.G p (.lst vs) }, ⟨rfl, sg, fun _ _ h => h⟩, rfl, rfl, I.freeze q h1 h2 h3 h4 (fun ps z => nomatch z) h7, p, vs, e, upd_same, reps_mono sg (fun _ _ h => h) _ _ r⟩
theorem se_of_sf {m : M (List D)} (h : SF T W X e m) : SE T W X e (mbind m fun l => mret (.lst l)) := h.weak fun σ H Q ⟨s, I, q⟩ => ⟨s, I, q.bind.mono fun l s1 H1 le J q1 v fr => by
  obtain ⟨s2, l2, e1, e2, J2, r⟩ := fr.freeze J
  exact q1.ret' l2 e1 e2 J2 v r⟩
theorem sp_of_se {m : M D} (h : SE T W X e m) : SP T W X e (mbind m fun d => mret (.v d)) := h.weak fun σ H Q ⟨s, I, q⟩ => ⟨s, I, q.bind.mono fun d s1 H1 le J q1 v r => q1.ret J v r⟩
end
end MP

namespace MP
open PySem PySem.Spec L2
theorem sqT_sub {K : PySem.W.Frag} {G H : Hp} {a : Addr} {xs : List V} (s : Sub G H) (h : SqT K G a xs) : SqT K H a xs := by
  rcases h with h | h
  · exact .inl (h.elim (fun z => .inl (s _ _ z)) fun ⟨o, z⟩ => .inr ⟨o, s _ _ z⟩)
  · exact .inr h
theorem sqL_sub {K : PySem.W.Frag} {G H : Hp} {a : Addr} {xs : List V} (s : Sub G H) (h : SqL K G a xs) : SqL K H a xs := by
  rcases h with h | h
  · exact .inl (h.elim (fun z => .inl (s _ _ z)) fun ⟨o, z⟩ => .inr ⟨o, s _ _ z⟩)
  · exact .inr h
/-! ### trees as the library's data -/
mutual
def toP : D → PyData
  | .bl b => .bool b
  | .int i => .int i
  | .str x => .str x
  | .lst xs => .list (toPs xs)
  | .tup xs => .tuple (toPs xs)
  | _ => .none
def toPs : List D → List PyData
  | [] => []
  | x :: xs => toP x :: toPs xs
end
mutual
theorem toP_lay : ∀ d : D, (toP d).canLay0 = true ∨ lay d = false
  | .non => .inl rfl
  | .bl _ => .inl rfl
  | .int _ => .inl rfl
  | .str x => by
    cases e : PyData.strOk x with
    | true => exact .inl e
    | false => exact .inr e
  | .lst xs => (toPs_lay xs).imp id id
  | .tup xs => (toPs_lay xs).imp id id
  | .dct _ _ _ => .inr rfl
  | .fz _ => .inr rfl
  | .ref _ => .inr rfl
  | .fn _ => .inr rfl
theorem toPs_lay : ∀ ds : List D, PyData.canLayAll0 (toPs ds) = true ∨ lays ds = false
  | [] => .inl rfl
  | d :: ds => by
    rcases toP_lay d with h | h
    · rcases toPs_lay ds with h2 | h2
      · exact .inl (by show ((toP d).canLay0 && PyData.canLayAll0 (toPs ds)) = true; rw [h, h2]; rfl)
      · exact .inr (by show (lay d && lays ds) = false; rw [h2]; cases lay d <;> rfl)
    · exact .inr (by show (lay d && lays ds) = false; rw [h]; rfl)
end
mutual
theorem toP_dep : ∀ d : D, (toP d).depth ≤ dep d
  | .non => Nat.le_refl _
  | .bl _ => Nat.le_refl _
  | .int _ => Nat.le_refl _
  | .str x => Nat.le_refl _
  | .lst xs => Nat.succ_le_succ (toPs_dep xs)
  | .tup xs => Nat.succ_le_succ (toPs_dep xs)
  | .dct _ _ _ => Nat.le_refl _
  | .fz _ => Nat.le_refl _
  | .ref _ => Nat.le_refl _
  | .fn _ => Nat.le_refl _
theorem toPs_dep : ∀ ds : List D, PyData.depthAll (toPs ds) ≤ deps ds
  | [] => Nat.le_refl _
  | d :: ds => by
    show max (toP d).depth (PyData.depthAll (toPs ds)) ≤ max (dep d) (deps ds)
    have h1 := toP_dep d
    have h2 := toPs_dep ds
    omega
end
theorem shaped_of {d : D} (h : shp d = true) : SeqAt.shaped (toP d) = true := by
  unfold shp at h
  obtain ⟨h1, h2⟩ := Bool.and_eq_true_iff.mp h
  unfold SeqAt.shaped
  rw [Bool.and_eq_true]
  refine ⟨(toP_lay d).elim id fun z => absurd (z.symm.trans h1) (by decide), decide_eq_true ?_⟩
  exact Nat.le_trans (toP_dep d) (of_decide_eq_true h2)
theorem lay_of_shp {d : D} (h : shp d = true) : lay d = true := (Bool.and_eq_true_iff.mp h).1
mutual
theorem eqv_toP : ∀ a b : D, lay a = true → lay b = true → PyData.eqv (toP a) (toP b) = deq a b
  | .non, b, _, hb => by cases b <;> first | rfl | cases hb
  | .bl _, b, _, hb => by cases b <;> first | rfl | cases hb
  | .int _, b, _, hb => by cases b <;> first | rfl | cases hb
  | .str _, b, _, hb => by cases b <;> first | rfl | cases hb
  | .lst xs, .lst ys, ha, hb => eqv_toPs xs ys ha hb
  | .tup xs, .tup ys, ha, hb => eqv_toPs xs ys ha hb
  | .lst xs, .non, ha, hb => rfl
  | .lst xs, .bl _, ha, hb => rfl
  | .lst xs, .int _, ha, hb => rfl
  | .lst xs, .str _, ha, hb => rfl
  | .lst xs, .tup _, ha, hb => rfl
  | .tup xs, .non, ha, hb => rfl
  | .tup xs, .bl _, ha, hb => rfl
  | .tup xs, .int _, ha, hb => rfl
  | .tup xs, .str _, ha, hb => rfl
  | .tup xs, .lst _, ha, hb => rfl
  | _, .dct _ _ _, _, hb => nomatch hb
  | _, .fz _, _, hb => nomatch hb
  | _, .ref _, _, hb => nomatch hb
  | _, .fn _, _, hb => nomatch hb
  | .dct _ _ _, _, ha, _ => nomatch ha
  | .fz _, _, ha, _ => nomatch ha
  | .ref _, _, ha, _ => nomatch ha
  | .fn _, _, ha, _ => nomatch ha
theorem eqv_toPs : ∀ as bs : List D, lays as = true → lays bs = true → PyData.eqvAll (toPs as) (toPs bs) = deqs as bs
  | [], [], _, _ => rfl
  | [], _ :: _, _, _ => rfl
  | _ :: _, [], _, _ => rfl
  | a :: as, b :: bs, ha, hb => by
    obtain ⟨h1, h2⟩ := Bool.and_eq_true_iff.mp (show (lay a && lays as) = true from ha)
    obtain ⟨h3, h4⟩ := Bool.and_eq_true_iff.mp (show (lay b && lays bs) = true from hb)
    show (PyData.eqv (toP a) (toP b) && PyData.eqvAll (toPs as) (toPs bs)) = (deq a b && deqs as bs)
    rw [eqv_toP a b h1 h3, eqv_toPs as bs h2 h4]
end
mutual
theorem dp_of {g : Gp} {μ : List Addr} {G H : Hp} (s : Sub G H) : ∀ (d : D) (v : V), lay d = true → rep g μ G d v → Dp g.K H v (toP d)
  | .non, v, _, h => by rw [show v = .non from h]; exact .non
  | .bl b, v, _, h => by rw [show v = .bl b from h]; exact .bl b
  | .int b, v, _, h => by rw [show v = .int b from h]; exact .int b
  | .str b, v, _, h => by rw [show v = .str b from h]; exact .str b
  | .lst l, v, hl, ⟨a, vs, e, q, r⟩ => by rw [e]; exact .lst (SqL.of (s _ _ q)) (dps_of s l vs hl r)
  | .tup l, v, hl, ⟨a, vs, e, q, r⟩ => by rw [e]; exact .tup (.inl (.inl (s _ _ q))) (dps_of s l vs hl r)
theorem dps_of {g : Gp} {μ : List Addr} {G H : Hp} (s : Sub G H) : ∀ (ds : List D) (vs : List V), lays ds = true → reps g μ G ds vs → DpAll g.K H vs (toPs ds)
  | [], vs, _, h => by rw [show vs = [] from h]; exact .nil
  | d :: ds, vs, hl, ⟨v, r, e, h1, h2⟩ => by
    obtain ⟨l1, l2⟩ := Bool.and_eq_true_iff.mp (show (lay d && lays ds) = true from hl)
    rw [e]; exact .cons (dp_of s d v l1 h1) (dps_of s ds r l2 h2)
end
section
variable {T : Tx} {X : Cx} {s : Sg} {σ : L2.St} {H : Hp}
theorem wdp {g : Gp} {d : D} {v : V} (hs : Sub s.G H) (hl : lay d = true) (h : wrep g s H d v) : Dp g.K H v (toP d) := by
  rcases h with h | ⟨l, a, vs, e, e2, q, r⟩ | ⟨t, ks, vs, a, e, _⟩
  · exact dp_of hs d v hl h
  · subst e e2
    exact .lst (SqL.of q) (dps_of hs l vs hl r)
  · subst e; cases hl
/-- a new tuple -/
theorem At.newtup {g : Gp} {l : List D} {vs : List V} {p : Addr} (I : At g T s σ H) (hp : H p = none) (r : reps g s.μ s.G l vs) : ∃ s', Le s s' ∧ s'.ρ = s.ρ ∧ s'.S = s.S ∧ At g T s' σ (upd H p (.tup vs)) ∧ rep g s'.μ s'.G (.tup l) (.ref p) := by
  have sg : Sub s.G (upd s.G p (.tup vs)) := Sub.add (I.gh.none hp)
  exact ⟨{ s with G := upd s.G p (.tup vs) }, ⟨rfl, sg, fun _ _ h => h⟩, rfl, rfl, I.newG hp (fun ps z => nomatch z), p, vs, rfl, upd_same, reps_mono sg (fun _ _ h => h) _ _ r⟩
theorem At.newlst {g : Gp} {l : List D} {vs : List V} {p : Addr} (I : At g T s σ H) (hp : H p = none) (r : reps g s.μ s.G l vs) : At g T s σ (upd H p (.lst vs)) ∧ Fresh g s σ (upd H p (.lst vs)) l (.ref p) :=
  ⟨I.fresh hp, p, vs, rfl, upd_same, r, I.nmu hp, I.gh.none hp, I.gone p hp, I.npin hp, fun i m h => I.own_ne hp h⟩
/-- what follows an operation -/
def Fin1 (g : Gp) (T : Tx) (s : Sg) (σ : L2.St) (d : D) (Q : VK) : Prop := ∀ s' H' v, Le s s' → s'.ρ = s.ρ → s'.S = s.S → At g T s' σ H' → rep g s'.μ s'.G d v → Q v H'
theorem Fin1.here {g : Gp} {d : D} {v : V} {Q : VK} (h : Fin1 g T s σ d Q) (I : At g T s σ H) (r : rep g s.μ s.G d v) : Q v H := h s H v (Le.refl _) rfl rfl I r
theorem Fin1.tup {g : Gp} {l : List D} {vs : List V} {p : Addr} {Q : VK} (h : Fin1 g T s σ (.tup l) Q) (I : At g T s σ H) (hp : H p = none) (r : reps g s.μ s.G l vs) : Q (.ref p) (upd H p (.tup vs)) := by
  obtain ⟨s', l, e1, e2, J, r'⟩ := I.newtup hp r
  exact h s' _ _ l e1 e2 J r'
def Fin2 (g : Gp) (T : Tx) (s : Sg) (σ : L2.St) (l : List D) (Q : VK) : Prop := ∀ s' H' v, Le s s' → s'.ρ = s.ρ → s'.S = s.S → At g T s' σ H' → Fresh g s' σ H' l v → Q v H'
theorem Fin2.lst {g : Gp} {l : List D} {vs : List V} {p : Addr} {Q : VK} (h : Fin2 g T s σ l Q) (I : At g T s σ H) (hp : H p = none) (r : reps g s.μ s.G l vs) : Q (.ref p) (upd H p (.lst vs)) := by
  obtain ⟨J, f⟩ := I.newlst hp r
  exact h s _ _ (Le.refl _) rfl rfl J f
/-! ### operators -/
def rBin (T : Tx) (g : Gp) (o : Operator) : R2 := fun x y H Q => ∃ σ s dx dy d, At g T s σ H ∧ wrep g s H dx x ∧ wrep g s H dy y ∧ opBin o dx dy = some d ∧ Fin1 g T s σ d Q
theorem wint {g : Gp} {i : Int} {v : V} (h : wrep g s H (.int i) v) : v = .int i := h.rep fun _ z => nomatch z
theorem wstr {g : Gp} {i : Str} {v : V} (h : wrep g s H (.str i) v) : v = .str i := h.rep fun _ z => nomatch z
theorem wbl {g : Gp} {i : Bool} {v : V} (h : wrep g s H (.bl i) v) : v = .bl i := h.rep fun _ z => nomatch z
theorem wnon {g : Gp} {v : V} (h : wrep g s H .non v) : v = .non := h.rep fun _ z => nomatch z
theorem wtup0 {g : Gp} {l : List D} {v : V} (h : wrep g s H (.tup l) v) : ∃ a vs, v = .ref a ∧ s.G a = some (.tup vs) ∧ reps g s.μ s.G l vs := h.rep fun _ z => nomatch z
theorem wtup {g : Gp} {l : List D} {v : V} (h : wrep g s H (.tup l) v) : ∃ a vs, v = .ref a ∧ SqT g.K s.G a vs ∧ reps g s.μ s.G l vs := by
  obtain ⟨a, vs, e, q, r⟩ := wtup0 h
  exact ⟨a, vs, e, .inl (.inl q), r⟩
theorem wfz {g : Gp} {l : List D} {v : V} (h : wrep g s H (.fz l) v) : ∃ a vs, v = .ref a ∧ SqL g.K s.G a vs ∧ reps g s.μ s.G l vs := h.rep fun _ z => nomatch z
theorem okl {n : Nat} (h : okLen n = true) : n ≤ sizeLine := by rw [sizeLine_eq]; exact of_decide_eq_true h
theorem op_bin (o : Operator) : OpR X (binaryOp o) (rBin T X.gp o) := by
  intro pins st σ H x y v u Q I rx ry h
  obtain ⟨σ', s, dx, dy, d, A, wx, wy, e, fin⟩ := h
  unfold opBin at e
  split at e
  · obtain rfl := wint wx; obtain rfl := wint wy; cases e
    exact op_add pins st σ H _ _ v u Q I rx ry ⟨_, _, rfl, rfl, fin.here A rfl⟩
  · obtain rfl := wstr wx; obtain rfl := wstr wy
    split at e
    · rename_i hl
      cases e
      exact op_add_str pins st σ H _ _ v u Q I rx ry ⟨_, _, rfl, rfl, okl hl, fin.here A rfl⟩
    · cases e
  · obtain ⟨p, xs, rfl, q1, r1⟩ := wtup0 wx; obtain ⟨p2, ys, rfl, q2, r2⟩ := wtup0 wy
    split at e
    · rename_i hl
      cases e
      have e1 := reps_len r1
      have e2 := reps_len r2
      refine op_catA pins st σ H _ _ v u Q I rx ry ⟨p, p2, xs, ys, rfl, rfl, .inl (.inl (A.gh _ _ q1)), .inl (.inl (A.gh _ _ q2)), by rw [← e1, ← e2]; exact okl hl, fun ex => ?_, fun nx ey => ?_, fun nx ny p hp => fin.tup A hp (reps_append r1 r2)⟩
      · have : ∀ l, reps X.gp s.μ s.G l xs → l = [] := fun l r => List.eq_nil_of_length_eq_zero ((reps_len r).trans (by rw [ex]; rfl))
        rw [this _ r1, List.nil_append] at fin
        exact fin.here A ⟨p2, ys, rfl, q2, r2⟩
      · have : ∀ l, reps X.gp s.μ s.G l ys → l = [] := fun l r => List.eq_nil_of_length_eq_zero ((reps_len r).trans (by rw [ey]; rfl))
        rw [this _ r2, List.append_nil] at fin
        exact fin.here A ⟨p, xs, rfl, q1, r1⟩
    · cases e
  · obtain rfl := wint wx; obtain rfl := wint wy; cases e
    exact op_sub pins st σ H _ _ v u Q I rx ry ⟨_, _, rfl, rfl, fin.here A rfl⟩
  · obtain rfl := wint wx; obtain rfl := wint wy
    split at e
    · rename_i hl
      cases e
      exact op_mulW pins st σ H _ _ v u Q I rx ry ⟨_, _, rfl, rfl, (by unfold CMulW; exact of_decide_eq_true hl), fin.here A rfl⟩
    · cases e
  · obtain ⟨p, xs, rfl, q1, r1⟩ := wtup wx; obtain rfl := wint wy
    split at e
    · rename_i hl
      cases e
      obtain ⟨n1, n2, n3, n4⟩ := of_decide_eq_true hl
      refine op_repT pins st σ H _ _ v u Q I rx ry ⟨_, _, xs, rfl, rfl, sqT_sub A.gh q1, fun z => ?_, n2, n3, by rw [← reps_len r1]; exact n4, fun p hp => fin.tup A hp (reps_repl r1 _)⟩
      exact n1 (List.eq_nil_of_length_eq_zero ((reps_len r1).trans (by rw [z]; rfl)))
    · cases e
  · obtain rfl := wint wx; obtain rfl := wint wy
    split at e
    · rename_i hl
      cases e
      exact op_fdivW pins st σ H _ _ v u Q I rx ry ⟨_, _, rfl, rfl, (by unfold CDivW; exact of_decide_eq_true hl), fin.here A rfl⟩
    · cases e
  · obtain rfl := wint wx; obtain rfl := wint wy
    split at e
    · rename_i hl
      cases e
      exact op_mod pins st σ H _ _ v u Q I rx ry ⟨_, _, rfl, rfl, of_decide_eq_true hl, fin.here A rfl⟩
    · cases e
  · obtain rfl := wint wx; obtain rfl := wint wy
    split at e
    · rename_i hl
      cases e
      obtain ⟨n1, n2⟩ := of_decide_eq_true hl
      obtain ⟨t, rfl⟩ := rx
      obtain ⟨t', rfl⟩ := ry
      exact PyProof.Rows.pow_int n1 (by omega) ⟨.int _, H, I.tok _, ⟨_, rfl⟩, fin.here A rfl⟩
    · cases e
  · cases e
def rBinL (T : Tx) (g : Gp) (o : Operator) : R2 := fun x y H Q => ∃ σ s dx dy l, At g T s σ H ∧ wrep g s H dx x ∧ wrep g s H dy y ∧ opBinL o dx dy = some l ∧ Fin2 g T s σ l Q
theorem op_binL (o : Operator) : OpR X (binaryOp o) (rBinL T X.gp o) := by
  intro pins st σ H x y v u Q I rx ry h
  obtain ⟨σ', s, dx, dy, d, A, wx, wy, e, fin⟩ := h
  unfold opBinL at e
  split at e
  · obtain ⟨p, xs, rfl, q1, r1⟩ := wx.lst A.gh; obtain ⟨p2, ys, rfl, q2, r2⟩ := wy.lst A.gh
    split at e
    · rename_i hl
      cases e
      exact op_cat pins st σ H _ _ v u Q I rx ry ⟨p, p2, xs, ys, rfl, rfl, q1, q2, by rw [← reps_len r1, ← reps_len r2]; exact okl hl, fun p hp => fin.lst A hp (reps_append r1 r2)⟩
    · cases e
  · obtain ⟨p, xs, rfl, q1, r1⟩ := wx.lst A.gh; obtain rfl := wint wy
    split at e
    · rename_i hl
      cases e
      obtain ⟨n1, n2, n3⟩ := of_decide_eq_true hl
      exact op_rep pins st σ H _ _ v u Q I rx ry ⟨p, _, xs, rfl, rfl, q1, by omega, by omega, by rw [← reps_len r1, sizeLine_eq]; exact n3, fun p hp => fin.lst A hp (reps_repl r1 _)⟩
    · cases e
  · cases e
def rCmp (T : Tx) (g : Gp) (o : CmpOp) : R2 := fun x y H Q => ∃ σ s dx dy b, At g T s σ H ∧ wrep g s H dx x ∧ wrep g s H dy y ∧ opCmp o dx dy = some b ∧ Q (.bl b) H
theorem isnon {g : Gp} {d : D} {v : V} (h : wrep g s H d v) : decide (v = .non) = isNon d := by
  rcases h with h | ⟨l, a, vs, e, e2, q, r⟩ | ⟨t, ks, vs, a, e, e2, _⟩
  · cases d with
    | non => rw [show v = .non from h]; rfl
    | bl b => rw [show v = .bl b from h]; rfl
    | int b => rw [show v = .int b from h]; rfl
    | str b => rw [show v = .str b from h]; rfl
    | tup l => obtain ⟨a, vs, e, _⟩ := h; rw [e]; rfl
    | lst l => obtain ⟨a, vs, e, _⟩ := h; rw [e]; rfl
    | fz l => obtain ⟨a, vs, e, _⟩ := h; rw [e]; rfl
    | ref l => obtain ⟨a, e, _⟩ := h; rw [e]; rfl
    | fn l => obtain ⟨a, e, _⟩ := h; rw [e]; rfl
    | dct t ks vs => cases t <;> (obtain ⟨a, _, e, _⟩ := h; rw [e]; rfl)
  · subst e e2; rfl
  · subst e e2; rfl
theorem any_toPs (a : D) (ha : lay a = true) : ∀ l : List D, lays l = true → (toPs l).any (fun z => PyData.eqv z (toP a)) = l.any fun z => deq z a
  | [], _ => rfl
  | d :: l, h => by
    obtain ⟨h1, h2⟩ := Bool.and_eq_true_iff.mp (show (lay d && lays l) = true from h)
    show (PyData.eqv (toP d) (toP a) || (toPs l).any _) = (deq d a || l.any _)
    rw [eqv_toP d a h1 ha, any_toPs a ha l h2]
theorem room_in {A : Around} {d : D} {l : List PyData} (h : shp d = true) (hu : A.units + 70 < cLine) : A.units + 1 + min (PyData.depthAll l) (toP d).depth < cLine := by
  have h1 := SeqAt.depth_of_shaped (shaped_of h)
  have h2 : min (PyData.depthAll l) (toP d).depth ≤ (toP d).depth := Nat.min_le_right _ _
  omega
/-! ### dicts -/
theorem keyK_kV {g : Gp} {μ : List Addr} {G : Hp} {d : D} {k : Key} {v : V} (h : keyK d = some k) (r : rep g μ G d v) : v = kV k := by
  cases d <;> first | (cases h; done) | (cases h; exact r)
theorem keysK_kV {g : Gp} {μ : List Addr} {G : Hp} : ∀ {l : List D} {k : List Key} {vs : List V}, keysK l = some k → reps g μ G l vs → vs = k.map kV
  | [], _, _, h, r => by cases h; exact r
  | d :: l, k, _, h, ⟨v, rs, e, r1, r2⟩ => by
    obtain ⟨k1, h1, h2⟩ := Option.bind_eq_some_iff.mp (show (keyK d).bind (fun k => (keysK l).map (k :: ·)) = some k from h)
    obtain ⟨k2, h3, h4⟩ := Option.map_eq_some_iff.mp h2
    subst h4
    rw [e, keyK_kV h1 r1, keysK_kV h3 r2, List.map_cons]
theorem keyK_eq {a b : D} {k j : Key} (ha : keyK a = some k) (hb : keyK b = some j) : deq a b = decide (k = j) := by
  cases a <;> first | (cases ha; done) | (cases b <;> first | (cases hb; done) | skip)
  · cases ha; cases hb
    rw [key_ll]; rfl
  · cases ha; cases hb
    rw [key_lr]; rfl
  · cases ha; cases hb
    rw [key_rl]; rfl
  · cases ha; cases hb
    rw [key_rr]
    show (_ == _) = _
    rename_i x y
    by_cases e : x = y
    · subst e; simp
    · rw [decide_eq_false e]; exact beq_eq_false_iff_ne.mpr e
theorem keysK_eq : ∀ {as bs : List D} {ks js : List Key}, keysK as = some ks → keysK bs = some js → deqs as bs = decide (ks = js)
  | [], [], _, _, ha, hb => by cases ha; cases hb; rfl
  | [], b :: bs, ks, js, ha, hb => by
    cases ha
    obtain ⟨k1, h1, h2⟩ := Option.bind_eq_some_iff.mp (show (keyK b).bind (fun k => (keysK bs).map (k :: ·)) = some js from hb)
    obtain ⟨k2, h3, h4⟩ := Option.map_eq_some_iff.mp h2
    subst h4
    rfl
  | a :: as, [], ks, js, ha, hb => by
    cases hb
    obtain ⟨k1, h1, h2⟩ := Option.bind_eq_some_iff.mp (show (keyK a).bind (fun k => (keysK as).map (k :: ·)) = some ks from ha)
    obtain ⟨k2, h3, h4⟩ := Option.map_eq_some_iff.mp h2
    subst h4
    rfl
  | a :: as, b :: bs, ks, js, ha, hb => by
    obtain ⟨k1, h1, h2⟩ := Option.bind_eq_some_iff.mp (show (keyK a).bind (fun k => (keysK as).map (k :: ·)) = some ks from ha)
    obtain ⟨k2, h3, h4⟩ := Option.map_eq_some_iff.mp h2
    obtain ⟨j1, g1, g2⟩ := Option.bind_eq_some_iff.mp (show (keyK b).bind (fun k => (keysK bs).map (k :: ·)) = some js from hb)
    obtain ⟨j2, g3, g4⟩ := Option.map_eq_some_iff.mp g2
    subst h4 g4
    show (deq a b && deqs as bs) = _
    rw [keyK_eq h1 g1, keysK_eq h3 g3]
    by_cases e1 : k1 = j1 <;> by_cases e2 : k2 = j2 <;> simp [e1, e2]
theorem keyT_eq {a b : D} {k j : List Key} (ha : keyT a = some k) (hb : keyT b = some j) : deq a b = decide (k = j) := by
  cases a <;> first | (cases ha; done) | (cases b <;> first | (cases hb; done) | exact keysK_eq ha hb)
/-- the key's place among a dict's -/
theorem dget_valV {κ : Type} [DecidableEq κ] {kf : D → Option κ} {kfs : List D → Option (List κ)} (h0 : ∀ l, kfs [] = some l → l = []) (hc : ∀ d r l, kfs (d :: r) = some l → ∃ k ks, kf d = some k ∧ kfs r = some ks ∧ l = k :: ks)
    (he : ∀ a b k j, kf a = some k → kf b = some j → deq a b = decide (k = j)) {g : Gp} {μ : List Addr} {G : Hp} {x : D} {j : κ} (hx : kf x = some j) :
    ∀ {ks vs : List D} {kvs : List (κ × V)}, kfs ks = some (kvs.map (·.1)) → reps g μ G vs (kvs.map (·.2)) → (dhas ks x = (valV kvs j).isSome) ∧ ∀ y, dgetD ks vs x = some y → ∃ v, valV kvs j = some v ∧ rep g μ G y v
  | [], vs, kvs, h1, h2 => by
    have := h0 _ h1
    have e : kvs = [] := by simpa using this
    subst e
    exact ⟨rfl, fun y hy => by cases vs <;> cases hy⟩
  | d :: ks, vs, kvs, h1, h2 => by
    obtain ⟨k, ks', e1, e2, e3⟩ := hc _ _ _ h1
    cases kvs with
    | nil => cases e3
    | cons p kvs =>
      rw [List.map_cons] at e3 h2
      injection e3 with e4 e5
      subst e4 e5
      cases vs with
      | nil => exact absurd (show p.2 :: kvs.map (·.2) = [] from h2) (by simp)
      | cons w vs =>
        obtain ⟨v, r, e6, r1, r2⟩ := h2
        injection e6 with e7 e8
        subst e7 e8
        obtain ⟨i1, i2⟩ := dget_valV h0 hc he hx e2 r2
        have ed := he d x _ _ e1 hx
        have hh : dhas (d :: ks) x = (deq d x || dhas ks x) := rfl
        have hg : dgetD (d :: ks) (w :: vs) x = if deq d x then some w else dgetD ks vs x := rfl
        rw [hh, hg, ed]
        by_cases q : p.1 = j
        · rw [decide_eq_true q, valV_pos q]
          exact ⟨rfl, fun y hy => by
            have hy : some w = some y := hy
            cases hy
            exact ⟨_, rfl, r1⟩⟩
        · rw [decide_eq_false q, valV_neg q]
          exact ⟨by rw [Bool.false_or]; exact i1, fun y hy => i2 y hy⟩
theorem keysK_nil {l : List Key} (h : keysK [] = some l) : l = [] := by cases h; rfl
theorem keysT_nil {l : List (List Key)} (h : keysT [] = some l) : l = [] := by cases h; rfl
theorem keysK_cons {d : D} {r : List D} {l : List Key} (h : keysK (d :: r) = some l) : ∃ k ks, keyK d = some k ∧ keysK r = some ks ∧ l = k :: ks := by
  obtain ⟨k1, h1, h2⟩ := Option.bind_eq_some_iff.mp (show (keyK d).bind (fun k => (keysK r).map (k :: ·)) = some l from h)
  obtain ⟨k2, h3, h4⟩ := Option.map_eq_some_iff.mp h2
  exact ⟨k1, k2, h1, h3, h4.symm⟩
theorem keysT_cons {d : D} {r : List D} {l : List (List Key)} (h : keysT (d :: r) = some l) : ∃ k ks, keyT d = some k ∧ keysT r = some ks ∧ l = k :: ks := by
  obtain ⟨k1, h1, h2⟩ := Option.bind_eq_some_iff.mp (show (keyT d).bind (fun k => (keysT r).map (k :: ·)) = some l from h)
  obtain ⟨k2, h3, h4⟩ := Option.map_eq_some_iff.mp h2
  exact ⟨k1, k2, h1, h3, h4.symm⟩
theorem keysK_len : ∀ {l : List D} {k : List Key}, keysK l = some k → l.length = k.length
  | [], _, h => by rw [keysK_nil h]; rfl
  | d :: r, _, h => by
    obtain ⟨k, ks, _, h2, h3⟩ := keysK_cons h
    rw [h3, List.length_cons, List.length_cons, keysK_len h2]
theorem keysT_len : ∀ {l : List D} {k : List (List Key)}, keysT l = some k → l.length = k.length
  | [], _, h => by rw [keysT_nil h]; rfl
  | d :: r, _, h => by
    obtain ⟨k, ks, _, h2, h3⟩ := keysT_cons h
    rw [h3, List.length_cons, List.length_cons, keysT_len h2]
/-- a key looked up -/
theorem dget_of {g : Gp} {s : Sg} {H : Hp} {t : Bool} {ks vs : List D} {x : D} {a : Addr} {y : V} (hs : Sub s.G H) (m : mrepL g s.μ s.G H a (.dct t ks vs)) (hk : keyOk t x = true) (hy : rep g s.μ s.G x y) :
    ∃ r : Option V, DGet H a y r ∧ r.isSome = dhas ks x ∧ ∀ z, dgetD ks vs x = some z → ∃ v, r = some v ∧ rep g s.μ s.G z v := by
  cases t with
  | false =>
    obtain ⟨kvs, q, h1, h2⟩ := m
    obtain ⟨k, hk⟩ := Option.isSome_iff_exists.mp (show (keyK x).isSome = true from hk)
    obtain ⟨i1, i2⟩ := dget_valV (fun l => keysK_nil) (fun d r l => keysK_cons) (fun a b k j => keyK_eq) hk h1 h2
    rw [keyK_kV hk hy]
    exact ⟨valV kvs k, .inl ⟨kvs, k, q, rfl, rfl⟩, i1.symm, i2⟩
  | true =>
    obtain ⟨kvs, q, h1, h2⟩ := m
    obtain ⟨k, hk⟩ := Option.isSome_iff_exists.mp (show (keyT x).isSome = true from hk)
    obtain ⟨i1, i2⟩ := dget_valV (fun l => keysT_nil) (fun d r l => keysT_cons) (fun a b k j => keyT_eq) hk h1 h2
    cases x <;> first | (cases hk; done) | skip
    obtain ⟨b, xs, e, q2, r2⟩ := hy
    rw [e]
    rw [keysK_kV hk r2] at q2
    exact ⟨valV kvs k, .inr ⟨kvs, k, b, q, rfl, hs _ _ q2, rfl⟩, i1.symm, i2⟩
section
variable {κ : Type} [DecidableEq κ] {kf : D → Option κ} {kfs : List D → Option (List κ)} (h0 : kfs [] = some []) (hc : ∀ d r, kfs (d :: r) = (kf d).bind fun k => (kfs r).map (k :: ·))
    (he : ∀ a b k j, kf a = some k → kf b = some j → deq a b = decide (k = j)) {g : Gp} {μ : List Addr} {G : Hp} {x : D} {j : κ} (hx : kf x = some j)
include h0 hc he hx
theorem dput_valV {d : D} {v : V} (hd : rep g μ G d v) :
    ∀ {ks vs : List D} {kvs : List (κ × V)}, kfs ks = some (kvs.map (·.1)) → reps g μ G vs (kvs.map (·.2)) → reps g μ G (dputV ks vs x d) ((kvs.map fun kv => if kv.1 = j then (kv.1, v) else kv).map (·.2)) ∧ ((kvs.map fun kv => if kv.1 = j then (kv.1, v) else kv).map (·.1)) = kvs.map (·.1)
  | [], vs, kvs, h1, h2 => by
    rw [h0] at h1
    have e : kvs = [] := by
      have := Option.some.inj h1
      simpa using this.symm
    subst e
    cases vs <;> exact ⟨rfl, rfl⟩
  | d' :: ks, vs, kvs, h1, h2 => by
    rw [hc] at h1
    obtain ⟨k, e1, e2⟩ := Option.bind_eq_some_iff.mp h1
    obtain ⟨ks', e3, e4⟩ := Option.map_eq_some_iff.mp e2
    cases kvs with
    | nil => cases e4
    | cons p kvs =>
      rw [List.map_cons] at e4 h2
      injection e4 with e4 e5
      subst e4 e5
      cases vs with
      | nil => exact absurd (show p.2 :: kvs.map (·.2) = [] from h2) (by simp)
      | cons w vs =>
        obtain ⟨u, r, e6, r1, r2⟩ := h2
        injection e6 with e7 e8
        subst e7 e8
        obtain ⟨i1, i2⟩ := dput_valV hd e3 r2
        have ed := he d' x _ _ e1 hx
        rw [List.map_cons, List.map_cons, List.map_cons, i2]
        show reps g μ G ((if deq d' x then d else w) :: dputV ks vs x d) _ ∧ _
        rw [ed]
        by_cases q : p.1 = j
        · rw [decide_eq_true q, if_pos rfl, if_pos q]
          exact ⟨⟨_, _, rfl, hd, i1⟩, by rw [List.map_cons]⟩
        · rw [decide_eq_false q, if_neg (by decide), if_neg q]
          exact ⟨⟨_, _, rfl, r1, i1⟩, by rw [List.map_cons]⟩
theorem kfs_snoc : ∀ {ks : List D} {l : List κ}, kfs ks = some l → kfs (ks ++ [x]) = some (l ++ [j])
  | [], l, h => by
    rw [h0] at h
    cases h
    rw [List.nil_append, hc, hx, h0]
    rfl
  | d :: ks, l, h => by
    rw [hc] at h
    obtain ⟨k, e1, e2⟩ := Option.bind_eq_some_iff.mp h
    obtain ⟨ks', e3, e4⟩ := Option.map_eq_some_iff.mp e2
    subst e4
    rw [List.cons_append, hc, e1, kfs_snoc e3]
    rfl
theorem ddrop_valV :
    ∀ {ks vs : List D} {kvs : List (κ × V)}, kfs ks = some (kvs.map (·.1)) → reps g μ G vs (kvs.map (·.2)) → kfs (ddropK ks x) = some ((dropK kvs j).map (·.1)) ∧ reps g μ G (ddropV ks vs x) ((dropK kvs j).map (·.2))
  | [], vs, kvs, h1, h2 => by
    rw [h0] at h1
    have e : kvs = [] := by
      have := Option.some.inj h1
      simpa using this.symm
    subst e
    refine ⟨h0, ?_⟩
    cases vs <;> exact rfl
  | d' :: ks, vs, kvs, h1, h2 => by
    rw [hc] at h1
    obtain ⟨k, e1, e2⟩ := Option.bind_eq_some_iff.mp h1
    obtain ⟨ks', e3, e4⟩ := Option.map_eq_some_iff.mp e2
    cases kvs with
    | nil => cases e4
    | cons p kvs =>
      rw [List.map_cons] at e4 h2
      injection e4 with e4 e5
      subst e4 e5
      cases vs with
      | nil => exact absurd (show p.2 :: kvs.map (·.2) = [] from h2) (by simp)
      | cons w vs =>
        obtain ⟨u, r, e6, r1, r2⟩ := h2
        injection e6 with e7 e8
        subst e7 e8
        obtain ⟨i1, i2⟩ := ddrop_valV e3 r2
        have ed := he d' x _ _ e1 hx
        have d1 : ddropK (d' :: ks) x = if deq d' x then ddropK ks x else d' :: ddropK ks x := by
          unfold ddropK
          rw [List.filter_cons]
          cases deq d' x <;> rfl
        have d2 : ddropV (d' :: ks) (w :: vs) x = if deq d' x then ddropV ks vs x else w :: ddropV ks vs x := rfl
        have d3 : dropK (p :: kvs) j = if p.1 = j then dropK kvs j else p :: dropK kvs j := by
          unfold dropK
          rw [List.filter_cons]
          by_cases q : p.1 = j <;> simp [q]
        rw [d1, d2, d3, ed]
        by_cases q : p.1 = j
        · simp only [q, decide_true, if_true]
          exact ⟨i1, i2⟩
        · simp only [q, decide_false, if_false, Bool.false_eq_true]
          refine ⟨?_, _, _, rfl, r1, i2⟩
          rw [hc, e1, i1]
          rfl
end
/-- a key put -/
theorem dput_of {g : Gp} {s : Sg} {H : Hp} {t : Bool} {ks vs : List D} {x d : D} {a : Addr} {y v : V} (hs : Sub s.G H) (m : mrep g s.μ s.G H a (.dct t ks vs)) (hk : keyOk t x = true) (hl : ks.length < 16777216) (hy : rep g s.μ s.G x y) (hd : rep g s.μ s.G d v) :
    ∃ o, DPut H a y v (upd H a o) ∧ mrep g s.μ s.G (upd H a o) a (if dhas ks x then .dct t ks (dputV ks vs x d) else .dct t (ks ++ [x]) (vs ++ [d])) := by
  cases t with
  | false =>
    obtain ⟨kvs, q, h1, h2⟩ := m
    obtain ⟨k, hk⟩ := Option.isSome_iff_exists.mp (show (keyK x).isSome = true from hk)
    obtain ⟨i1, _⟩ := dget_valV (fun l => keysK_nil) (fun d r l => keysK_cons) (fun a b k j => keyK_eq) hk h1 h2
    have len : kvs.length < sizeLine := by
      have : ks.length = kvs.length := by rw [keysK_len h1, List.length_map]
      rw [sizeLine_eq]; omega
    rw [keyK_kV hk hy]
    refine ⟨.dK (putK kvs k v), DPut.k q len, ?_⟩
    have ea := valV_any k kvs
    rw [← i1] at ea
    unfold putK
    cases e : dhas ks x with
    | true =>
      rw [ea, e, if_pos rfl, if_pos rfl]
      obtain ⟨j1, j2⟩ := dput_valV (kfs := keysK) rfl (fun _ _ => rfl) (fun a b k j => keyK_eq) hk hd h1 h2
      exact ⟨_, upd_same, by rw [j2]; exact h1, j1⟩
    | false =>
      rw [ea, e, if_neg (by decide), if_neg (by decide)]
      refine ⟨_, upd_same, ?_, ?_⟩
      · rw [kfs_snoc (kfs := keysK) rfl (fun _ _ => rfl) (fun a b k j => keyK_eq) hk h1]; simp
      · rw [List.map_append]
        exact reps_append h2 ⟨_, _, rfl, hd, rfl⟩
  | true =>
    obtain ⟨kvs, q, h1, h2⟩ := m
    obtain ⟨k, hk⟩ := Option.isSome_iff_exists.mp (show (keyT x).isSome = true from hk)
    obtain ⟨i1, _⟩ := dget_valV (fun l => keysT_nil) (fun d r l => keysT_cons) (fun a b k j => keyT_eq) hk h1 h2
    have len : kvs.length < sizeLine := by
      have : ks.length = kvs.length := by rw [keysT_len h1, List.length_map]
      rw [sizeLine_eq]; omega
    have ea := valV_any k kvs
    rw [← i1] at ea
    have hk0 := hk
    cases x <;> first | (cases hk; done) | skip
    obtain ⟨b, xs, e, q2, r2⟩ := hy
    rw [e]
    rw [keysK_kV hk r2] at q2
    refine ⟨.dT (putK kvs k v), DPut.t q (hs _ _ q2) len, ?_⟩
    unfold putK
    generalize he : dhas ks _ = e at ea ⊢
    cases e with
    | true =>
      rw [ea, if_pos rfl, if_pos rfl]
      obtain ⟨j1, j2⟩ := dput_valV (kfs := keysT) rfl (fun _ _ => rfl) (fun a b k j => keyT_eq) hk0 hd h1 h2
      exact ⟨_, upd_same, by rw [j2]; exact h1, j1⟩
    | false =>
      rw [ea, if_neg (by decide), if_neg (by decide)]
      refine ⟨_, upd_same, ?_, ?_⟩
      · rw [kfs_snoc (kfs := keysT) rfl (fun _ _ => rfl) (fun a b k j => keyT_eq) hk0 h1]; simp
      · rw [List.map_append]
        exact reps_append h2 ⟨_, _, rfl, hd, rfl⟩
theorem keyOk_rep {g : Gp} {s : Sg} {H : Hp} {t : Bool} {x : D} {y : V} (hk : keyOk t x = true) (w : wrep g s H x y) : rep g s.μ s.G x y := by
  refine w.rep (fun l z => ?_) (fun _ _ _ z => ?_) <;> (subst z; cases t <;> cases hk)
theorem emp_eq {l : List D} {its : List Value} (h : its.length = l.length) : ((List.range (min its.toArray.size (#[] : Array Value).size)).all (fun _ => true) && its.toArray.size == (#[] : Array Value).size) = l.isEmpty := by
  cases l with
  | nil => simp at h; subst h; rfl
  | cons d l =>
    cases its with
    | nil => simp at h
    | cons v its => simp
/-- two tuples, the second empty -/
theorem tups_at {pins : List (Addr × Obj)} {st : Shared} {σ σ' : L2.St} {s : Sg} {H : Hp} {l : List D} {x y : V} {v u : Value} (I : L2.Inv X pins σ H st) (A : At X.gp T s σ' H) (wx : wrep X.gp s H (.tup l) x) (wy : wrep X.gp s H (.tup []) y) (rx : RelV x v) (ry : RelV y u) :
    ∃ (a c : Addr) (its : List Value), v = .ref a ∧ u = .ref c ∧ st.heap.IsTuple a its.toArray ∧ st.heap.IsTuple c #[] ∧ its.length = l.length := by
  obtain ⟨a, vs, rfl, q1, r1⟩ := wtup0 wx
  obtain ⟨c, ws, rfl, q2, r2⟩ := wtup0 wy
  have ew : ws = [] := r2
  subst ew
  cases (show v = Value.ref a from rx)
  cases (show u = Value.ref c from ry)
  obtain ⟨_, its, rv, t1⟩ := (show ObjOk X.prog X.w H st.heap a (.tup vs) from I.hok a _ (A.gh _ _ q1))
  obtain ⟨_, its2, rv2, t2⟩ := (show ObjOk X.prog X.w H st.heap c (.tup []) from I.hok c _ (A.gh _ _ q2))
  cases rv2
  exact ⟨a, c, its, rfl, rfl, t1, t2, by rw [← rv.length, reps_len r1]⟩
theorem op_cmp (hu : X.A.units + 70 < cLine) (o : CmpOp) : OpR X (compareOp o) (rCmp T X.gp o) := by
  intro pins st σ H x y v u Q I rx ry h
  obtain ⟨σ', s, dx, dy, b, A, wx, wy, e, fin⟩ := h
  unfold opCmp at e
  split at e
  · cases e
    obtain ⟨a, c, its, rfl, rfl, t1, t2, ln⟩ := tups_at I A wx wy rx ry
    refine SeqAt.eq_tupleAt (e := fun _ => true) t1 t2 (by omega) (fun j h1 h2 => absurd h2 (by simp)) ⟨.bl _, H, I, rfl, ?_⟩
    have ez : ((List.range (min its.toArray.size (#[] : Array Value).size)).all (fun _ => true) && its.toArray.size == (#[] : Array Value).size) = _ := emp_eq ln
    rw [ez]
    exact fin
  · cases e
    obtain ⟨a, c, its, rfl, rfl, t1, t2, ln⟩ := tups_at I A wx wy rx ry
    refine SeqAt.RcNeAt.tuples (e := fun _ => true) t1 t2 (by omega) (fun j h1 h2 => absurd h2 (by simp)) X.prog X.w _ _ ⟨.bl _, H, I, rfl, ?_⟩
    have ez : ((List.range (min its.toArray.size (#[] : Array Value).size)).all (fun _ => true) && its.toArray.size == (#[] : Array Value).size) = _ := emp_eq ln
    rw [ez]
    exact fin
  · obtain rfl := wstr wx; obtain rfl := wstr wy; cases e
    obtain ⟨t, rfl⟩ := rx
    obtain ⟨t2, rfl⟩ := ry
    exact PySem.P.eq_str ⟨.bl _, H, I, rfl, fin⟩
  · obtain rfl := wstr wx; obtain rfl := wstr wy; cases e
    obtain ⟨t, rfl⟩ := rx
    obtain ⟨t2, rfl⟩ := ry
    exact PySem.P.ne_str ⟨.bl _, H, I, rfl, fin⟩
  · split at e
    · rename_i hl
      cases e
      obtain ⟨h1, h2⟩ := Bool.and_eq_true_iff.mp hl
      have q1 := wdp A.gh (lay_of_shp h1) wx
      have q2 := wdp A.gh (lay_of_shp h2) wy
      exact op_eqD (by omega) pins st σ H _ _ v u Q I rx ry ⟨_, _, q1, q2, shaped_of h1, shaped_of h2, by rw [eqv_toP _ _ (lay_of_shp h1) (lay_of_shp h2)]; exact fin⟩
    · cases e
  · split at e
    · rename_i hl
      cases e
      obtain ⟨h1, h2⟩ := Bool.and_eq_true_iff.mp hl
      have q1 := wdp A.gh (lay_of_shp h1) wx
      have q2 := wdp A.gh (lay_of_shp h2) wy
      exact op_neD (by omega) pins st σ H _ _ v u Q I rx ry ⟨_, _, q1, q2, shaped_of h1, shaped_of h2, by rw [eqv_toP _ _ (lay_of_shp h1) (lay_of_shp h2)]; exact fin⟩
    · cases e
  · obtain rfl := wint wx; obtain rfl := wint wy; cases e
    exact op_lt pins st σ H _ _ v u Q I rx ry ⟨_, _, rfl, rfl, fin⟩
  · obtain rfl := wint wx; obtain rfl := wint wy; cases e
    exact op_le pins st σ H _ _ v u Q I rx ry ⟨_, _, rfl, rfl, fin⟩
  · obtain rfl := wint wx; obtain rfl := wint wy; cases e
    exact op_gt pins st σ H _ _ v u Q I rx ry ⟨_, _, rfl, rfl, fin⟩
  · obtain rfl := wint wx; obtain rfl := wint wy; cases e
    exact op_ge pins st σ H _ _ v u Q I rx ry ⟨_, _, rfl, rfl, fin⟩
  · obtain rfl := wnon wy; cases e
    exact op_isN pins st σ H _ _ v u Q I rx ry ⟨rfl, by rw [isnon wx]; exact fin⟩
  · obtain rfl := wnon wy; cases e
    exact op_notN pins st σ H _ _ v u Q I rx ry ⟨rfl, by rw [isnon wx]; exact fin⟩
  · obtain rfl := wstr wx; obtain rfl := wstr wy; cases e
    exact op_in_str pins st σ H _ _ v u Q I rx ry ⟨_, _, rfl, rfl, fin⟩
  · obtain rfl := wstr wx; obtain rfl := wstr wy; cases e
    exact op_notIn_str pins st σ H _ _ v u Q I rx ry ⟨_, _, rfl, rfl, by rw [Bool.not_not]; exact fin⟩
  · split at e
    · rename_i hl
      cases e
      obtain ⟨h1, h2⟩ := Bool.and_eq_true_iff.mp hl
      have q1 := wdp A.gh (lay_of_shp h1) wx
      have q2 := wdp A.gh (lay_of_shp h2) wy
      exact op_inD (by omega) pins st σ H _ _ v u Q I rx ry ⟨_, _, q1, q2, shaped_of h1, shaped_of h2, by rw [any_toPs _ (lay_of_shp h1) _ (lay_of_shp h2)]; exact fin⟩
    · cases e
  · split at e
    · rename_i hl
      cases e
      obtain ⟨h1, h2⟩ := Bool.and_eq_true_iff.mp hl
      have q1 := wdp A.gh (lay_of_shp h1) wx
      have q2 := wdp A.gh (lay_of_shp h2) wy
      exact op_notInD (by omega) pins st σ H _ _ v u Q I rx ry ⟨_, _, q1, q2, shaped_of h1, shaped_of h2, by rw [any_toPs _ (lay_of_shp h1) _ (lay_of_shp h2)]; exact fin⟩
    · cases e
  · split at e
    · rename_i hl
      cases e
      obtain ⟨h1, h2⟩ := Bool.and_eq_true_iff.mp hl
      obtain ⟨as, r1⟩ := Dp.reads I _ _ _ (wdp A.gh (lay_of_shp h1) wx) rx
      obtain ⟨bs, r2⟩ := Dp.reads I _ _ _ (wdp A.gh (lay_of_shp h2) wy) ry
      exact SeqAt.in_tuple_reads r2 r1 (SeqAt.canLay_of_shaped (shaped_of h2)) (SeqAt.canLay_of_shaped (shaped_of h1)) (room_in h1 hu) ⟨.bl _, H, I, rfl, by rw [any_toPs _ (lay_of_shp h1) _ (lay_of_shp h2)]; exact fin⟩
    · cases e
  · split at e
    · rename_i hl
      cases e
      obtain ⟨h1, h2⟩ := Bool.and_eq_true_iff.mp hl
      obtain ⟨as, r1⟩ := Dp.reads I _ _ _ (wdp A.gh (lay_of_shp h1) wx) rx
      obtain ⟨bs, r2⟩ := Dp.reads I _ _ _ (wdp A.gh (lay_of_shp h2) wy) ry
      exact SeqAt.notIn_tuple_reads r2 r1 (SeqAt.canLay_of_shaped (shaped_of h2)) (SeqAt.canLay_of_shaped (shaped_of h1)) (room_in h1 hu) ⟨.bl _, H, I, rfl, by rw [any_toPs _ (lay_of_shp h1) _ (lay_of_shp h2)]; exact fin⟩
    · cases e
  · split at e
    · rename_i hk
      cases e
      obtain ⟨a, rfl, m⟩ := wy.dct A.gh
      obtain ⟨r, dg, i1, _⟩ := dget_of A.gh m hk (keyOk_rep hk wx)
      obtain rfl : u = Value.ref a := ry
      rw [← i1] at fin
      exact d_in (by omega) I dg rx fun s' I' => ⟨.bl _, H, I', rfl, fin⟩
    · cases e
  · split at e
    · rename_i hk
      cases e
      obtain ⟨a, rfl, m⟩ := wy.dct A.gh
      obtain ⟨r, dg, i1, _⟩ := dget_of A.gh m hk (keyOk_rep hk wx)
      obtain rfl : u = Value.ref a := ry
      rw [← i1] at fin
      exact d_notIn (by omega) I dg rx fun s' I' => ⟨.bl _, H, I', rfl, fin⟩
    · cases e
  · cases e
end
end MP

namespace MP
open PySem PySem.Spec L2
section
variable {T : Tx} {X : Cx} {s : Sg} {σ : L2.St} {H : Hp}
theorem tru_of {d : D} {v : V} {k : Bool} (hs : Sub s.G H) (h : wrep X.gp s H d v) (e : tru d = some k) : TruV X.K v H k := by
  cases d with
  | non => cases e; rw [wnon h]; exact rfl
  | bl b => cases e; rw [wbl h]; exact rfl
  | int b => cases e; rw [wint h]; exact rfl
  | str b =>
    rw [wstr h]
    unfold tru at e
    simp only at e
    split at e
    · rename_i hl; cases e; exact ⟨okl hl, rfl⟩
    · cases e
  | tup l =>
    cases e
    obtain ⟨a, vs, rfl, q, r⟩ := wtup h
    refine .inr (.inl ⟨vs, sqT_sub hs q, ?_⟩)
    cases l with
    | nil => rw [show vs = [] from r]; rfl
    | cons d l => obtain ⟨_, _, e, _⟩ := r; rw [e]; rfl
  | lst l =>
    cases e
    obtain ⟨a, vs, rfl, q, r⟩ := h.lst hs
    refine .inl ⟨vs, SqL.of q, ?_⟩
    cases l with
    | nil => rw [show vs = [] from r]; rfl
    | cons d l => obtain ⟨_, _, e, _⟩ := r; rw [e]; rfl
  | fz _ => cases e
  | dct _ _ _ => cases e
  | ref _ => cases e
  | fn _ => cases e
/-! ### items -/
theorem ixD_eq (n : Nat) (i : Int) : ixD n i = ixN n i := rfl
theorem atD_at {g : Gp} {l : List D} {vs : List V} {i : Int} {d : D} (r : reps g s.μ s.G l vs) (e : atD l i = some d) : ∃ v, atI vs i = some v ∧ rep g s.μ s.G d v := by
  unfold atD at e
  obtain ⟨j, e1, e2⟩ := Option.bind_eq_some_iff.mp e
  obtain ⟨v, h1, h2⟩ := reps_get r e2
  refine ⟨v, ?_, h2⟩
  unfold atI
  rw [← reps_len r, ← ixD_eq, e1]
  exact h1
theorem ix_dct {value slice : Expr} {pins : List (Addr × Obj)} {st : Shared} {σ : L2.St} {H : Hp} {a : Addr} {y z : V} {u : Value} {Q : VK} (hu : X.A.units + 70 < cLine) (I : L2.Inv X pins σ H st) (ry : RelV y u) (dg : DGet H a y (some z)) (q : Q z H)
    (hs : subscripted slice false (.ref a) u = operate [.ref a, u] (getItem (.ref a) u)) : wpAny (model X.prog X.w) X.A (PyProof.Rows.subscriptTail value slice (.ref a) u) (EP X pins σ Q) X.xe st := by
  have ti := dict_typeIs I dg
  unfold PyProof.Rows.subscriptTail
  refine wpAny_bind ?_
  rw [getitemInPython_of_ne (Shared.TypeIs.not_modules ti)]
  refine wpAny_bind (wpAny_specialOf ti PySem.F.slot_dict_getitem.lookup ?_)
  have e : wpAny (model X.prog X.w) X.A (subscripted slice false (.ref a) u) (fun r s3 => wpAny (model X.prog X.w) X.A (letTemporaryGo value (.ref a) r >>= fun _ => pure r) (EP X pins σ Q) X.xe s3) X.xe st := by
    rw [hs]
    exact wpAny_operating (d_getItem (by omega) I dg ry fun w s2 J rw2 => wpAny_bind (wpAny_letTemporaryGo (wpAny_pure ⟨z, H, J, rw2, q⟩)))
  first
    | exact wpAny_pure (wpAny_bind e)
    | exact wpAny_bind (wpAny_pure (wpAny_bind e))
    | exact wpAny_bind e
def rIdx (T : Tx) (g : Gp) : R2 := fun x y H Q => ∃ σ s dx dy d, At g T s σ H ∧ wrep g s H dx x ∧ wrep g s H dy y ∧ opIdx dx dy = some d ∧ Fin1 g T s σ d Q
theorem ix_idx (hu : X.A.units + 70 < cLine) : IxR X (rIdx T X.gp) := by
  intro value slice pins st σ H x y v u Q I rx ry h hs
  obtain ⟨σ', s, dx, dy, d, A, wx, wy, e, fin⟩ := h
  unfold opIdx at e
  split at e
  · obtain ⟨p, xs, rfl, q1, r1⟩ := wx.lst A.gh; obtain rfl := wint wy
    obtain ⟨z, h1, h2⟩ := atD_at r1 e
    exact ix_list value slice pins st σ H _ _ v u Q I rx ry ⟨p, xs, _, z, rfl, rfl, SqL.of q1, h1, fin.here A h2⟩ hs
  · obtain ⟨p, xs, rfl, q1, r1⟩ := wtup wx; obtain rfl := wint wy
    obtain ⟨z, h1, h2⟩ := atD_at r1 e
    exact ix_tup value slice pins st σ H _ _ v u Q I rx ry ⟨p, xs, _, z, rfl, rfl, sqT_sub A.gh q1, h1, fin.here A h2⟩ hs
  · obtain ⟨p, xs, rfl, q1, r1⟩ := wfz wx; obtain rfl := wint wy
    obtain ⟨z, h1, h2⟩ := atD_at r1 e
    exact ix_list value slice pins st σ H _ _ v u Q I rx ry ⟨p, xs, _, z, rfl, rfl, sqL_sub A.gh q1, h1, fin.here A h2⟩ hs
  · split at e
    · rename_i hk
      obtain ⟨a, rfl, m⟩ := wx.dct A.gh
      obtain ⟨r, dg, _, i2⟩ := dget_of A.gh m hk (keyOk_rep hk wy)
      obtain ⟨z, rfl, h2⟩ := i2 _ e
      obtain rfl : v = Value.ref a := rx
      exact ix_dct hu I ry dg (fin.here A h2) hs
    · cases e
  · obtain rfl := wstr wx; obtain rfl := wint wy
    split at e
    · rename_i hl
      obtain ⟨j, e1, e2⟩ := Option.bind_eq_some_iff.mp e
      obtain ⟨c, e3, e4⟩ := Option.map_eq_some_iff.mp e2
      subst e4
      refine ix_str value slice pins st σ H _ _ v u Q I rx ry ⟨_, _, c, rfl, rfl, okl hl, ?_, fin.here A rfl⟩ hs
      unfold atI
      rw [show (Array.toList _).length = _ from Array.length_toList, ← ixD_eq, show ixD (Array.size _) _ = some j from e1]
      exact e3
    · cases e
  · cases e
/-! ### slices -/
def partD : D → Option Int → Prop
  | .non, o => o = none
  | .int i, o => o = some i
  | _, _ => False
theorem slD_of {n d k : Nat} {x : D} {o : Option Int} (h : partD x o) (e : slD n d x = some k) : HT.sIx n d o = k := by
  cases x <;> first | exact h.elim | skip
  · rw [show o = none from h]; cases e; rfl
  · rw [show o = some _ from h]; cases e; rfl
theorem cut_of {l l' : List D} {vs : List V} {g : Gp} {i j : D} {lo hi : Option Int} (r : reps g s.μ s.G l vs) (e : cutD l i j = some l') (h1 : partD i lo) (h2 : partD j hi) : reps g s.μ s.G l' (cutV vs lo hi) := by
  unfold cutD at e
  obtain ⟨a, e1, e2⟩ := Option.bind_eq_some_iff.mp e
  obtain ⟨b, e3, e4⟩ := Option.map_eq_some_iff.mp e2
  subst e4
  unfold cutV
  rw [← reps_len r, slD_of h1 e1, slD_of h2 e3]
  exact reps_take _ (reps_drop _ r)
def rSlc (T : Tx) (g : Gp) : V → Option Int → Option Int → Hp → VK → Prop := fun x lo hi H Q => ∃ σ s l i j l', At g T s σ H ∧ wrep g s H (.tup l) x ∧ partD i lo ∧ partD j hi ∧ cutD l i j = some l' ∧ Fin1 g T s σ (.tup l') Q
theorem sl_slc : SlR X (rSlc T X.gp) := by
  intro pins st σ H x v vl vu lo hi sl Q I rx hs pl pu h
  obtain ⟨σ', s, l, i, j, l', A, wx, h1, h2, e, fin⟩ := h
  obtain ⟨p, xs, rfl, q0, r1⟩ := wtup0 wx
  have q1 : SqT X.gp.K s.G p xs := .inl (.inl q0)
  have rc := cut_of r1 e h1 h2
  by_cases hw : HT.sIx xs.length 0 lo = 0 ∧ HT.sIx xs.length xs.length hi = xs.length
  · refine sl_tupA pins st σ H _ v vl vu lo hi sl Q I rx hs pl pu ⟨p, xs, rfl, sqT_sub A.gh q1, fun _ => ?_, fun n => absurd hw n⟩
    have ec : cutV xs lo hi = xs := by
      unfold cutV
      rw [hw.1, hw.2]
      simp
    rw [ec] at rc
    exact fin.here A ⟨p, xs, rfl, q0, rc⟩
  · exact sl_tup pins st σ H _ v vl vu lo hi sl Q I rx hs pl pu ⟨p, xs, rfl, sqT_sub A.gh q1, hw, fun p hp => fin.tup A hp rc⟩
def rSlcL (T : Tx) (g : Gp) : V → Option Int → Option Int → Hp → VK → Prop := fun x lo hi H Q => ∃ σ s l i j l', At g T s σ H ∧ wrep g s H (.lst l) x ∧ partD i lo ∧ partD j hi ∧ cutD l i j = some l' ∧ Fin2 g T s σ l' Q
theorem sl_slcL : SlR X (rSlcL T X.gp) := by
  intro pins st σ H x v vl vu lo hi sl Q I rx hs pl pu h
  obtain ⟨σ', s, l, i, j, l', A, wx, h1, h2, e, fin⟩ := h
  obtain ⟨p, xs, rfl, q1, r1⟩ := wx.lst A.gh
  exact sl_list pins st σ H _ v vl vu lo hi sl Q I rx hs pl pu ⟨p, xs, rfl, SqL.of q1, fun p hp => fin.lst A hp (cut_of r1 e h1 h2)⟩
/-! ### built-ins -/
theorem blsV {g : Gp} : ∀ {l : List D} {bs : List Bool} {vs : List V}, allBl l = some bs → reps g s.μ s.G l vs → vs = bs.map V.bl
  | [], bs, vs, e, r => by cases e; rw [show vs = [] from r]; rfl
  | .bl b :: l, bs, vs, e, ⟨v, r, e2, h1, h2⟩ => by
    obtain ⟨bs', e3, e4⟩ := Option.map_eq_some_iff.mp (show (allBl l).map (b :: ·) = some bs from e)
    subst e4
    rw [e2, show v = .bl b from h1, blsV e3 h2]
    rfl
  | .non :: l, _, _, e, _ => nomatch e
  | .int _ :: l, _, _, e, _ => nomatch e
  | .str _ :: l, _, _, e, _ => nomatch e
  | .tup _ :: l, _, _, e, _ => nomatch e
  | .lst _ :: l, _, _, e, _ => nomatch e
  | .dct _ _ _ :: l, _, _, e, _ => nomatch e
  | .fz _ :: l, _, _, e, _ => nomatch e
  | .ref _ :: l, _, _, e, _ => nomatch e
  | .fn _ :: l, _, _, e, _ => nomatch e
theorem strsV {g : Gp} : ∀ {l : List D} {bs : List Str} {vs : List V}, allStr l = some bs → reps g s.μ s.G l vs → vs = bs.map V.str
  | [], bs, vs, e, r => by cases e; rw [show vs = [] from r]; rfl
  | .str b :: l, bs, vs, e, ⟨v, r, e2, h1, h2⟩ => by
    obtain ⟨bs', e3, e4⟩ := Option.map_eq_some_iff.mp (show (allStr l).map (b :: ·) = some bs from e)
    subst e4
    rw [e2, show v = .str b from h1, strsV e3 h2]
    rfl
  | .non :: l, _, _, e, _ => nomatch e
  | .int _ :: l, _, _, e, _ => nomatch e
  | .bl _ :: l, _, _, e, _ => nomatch e
  | .tup _ :: l, _, _, e, _ => nomatch e
  | .lst _ :: l, _, _, e, _ => nomatch e
  | .dct _ _ _ :: l, _, _, e, _ => nomatch e
  | .fz _ :: l, _, _, e, _ => nomatch e
  | .ref _ :: l, _, _, e, _ => nomatch e
  | .fn _ :: l, _, _, e, _ => nomatch e
theorem intsV {g : Gp} : ∀ {l : List D} {bs : List Int} {vs : List V}, allInt l = some bs → reps g s.μ s.G l vs → vs = bs.map V.int
  | [], bs, vs, e, r => by cases e; rw [show vs = [] from r]; rfl
  | .int b :: l, bs, vs, e, ⟨v, r, e2, h1, h2⟩ => by
    obtain ⟨bs', e3, e4⟩ := Option.map_eq_some_iff.mp (show (allInt l).map (b :: ·) = some bs from e)
    subst e4
    rw [e2, show v = .int b from h1, intsV e3 h2]
    rfl
  | .non :: l, _, _, e, _ => nomatch e
  | .str _ :: l, _, _, e, _ => nomatch e
  | .bl _ :: l, _, _, e, _ => nomatch e
  | .tup _ :: l, _, _, e, _ => nomatch e
  | .lst _ :: l, _, _, e, _ => nomatch e
  | .dct _ _ _ :: l, _, _, e, _ => nomatch e
  | .fz _ :: l, _, _, e, _ => nomatch e
  | .ref _ :: l, _, _, e, _ => nomatch e
  | .fn _ :: l, _, _, e, _ => nomatch e
theorem ints_rep {g : Gp} {μ : List Addr} {G : Hp} : ∀ ys : List Int, reps g μ G (ys.map D.int) (ys.map V.int)
  | [] => rfl
  | y :: ys => ⟨_, _, rfl, rfl, ints_rep ys⟩
theorem keysK_rep {g : Gp} {μ : List Addr} {G : Hp} : ∀ {l : List D} {k : List Key}, keysK l = some k → reps g μ G l (k.map kV)
  | [], _, h => by rw [keysK_nil h]; rfl
  | d :: r, _, h => by
    obtain ⟨k, ks, h1, h2, h3⟩ := keysK_cons h
    rw [h3]
    refine ⟨kV k, ks.map kV, rfl, ?_, keysK_rep h2⟩
    cases d <;> first | (cases h1; done) | (cases h1; exact rfl)
theorem reads_ints {h : Heap} : ∀ {ns : List Int} {us : List Value}, Vals (ns.map V.int) us → ∃ as, ReadsAll h us (ns.map PyData.int) as
  | [], _, r => by cases r; exact ⟨[], .nil⟩
  | n :: ns, _, r => by
    rw [List.map_cons] at r
    cases r with
    | cons h t =>
      obtain ⟨as, ha⟩ := reads_ints t
      obtain ⟨tk, e⟩ := h
      subst e
      exact ⟨_, .cons (.int n tk) ha⟩
theorem alike_ints (ns : List Int) : PySem.W.AlikeAll (ns.map PyData.int) := by
  refine ⟨fun x hx y hy => ?_, fun x hx => ?_⟩
  · obtain ⟨a, _, rfl⟩ := List.mem_map.mp hx
    obtain ⟨b, _, rfl⟩ := List.mem_map.mp hy
    rfl
  · obtain ⟨a, _, rfl⟩ := List.mem_map.mp hx
    exact fun z => nomatch z
theorem depth_ints : ∀ ns : List Int, PyData.depthAll (ns.map PyData.int) = 0
  | [] => rfl
  | n :: ns => by
    show max 0 (PyData.depthAll (ns.map PyData.int)) = 0
    rw [depth_ints ns]; rfl
theorem strs_rep {g : Gp} {μ : List Addr} {G : Hp} : ∀ ys : List Str, reps g μ G (ys.map D.str) (ys.map V.str)
  | [] => rfl
  | y :: ys => ⟨_, _, rfl, rfl, strs_rep ys⟩
abbrev wreps (g : Gp) (s : Sg) (H : Hp) : List D → List V → Prop := Paired (wrep g s H)
theorem w1 {g : Gp} {d : D} {xs : List V} (h : wreps g s H [d] xs) : ∃ x, xs = [x] ∧ wrep g s H d x := by
  cases h with
  | cons r t => cases t; exact ⟨_, rfl, r⟩
theorem w2 {g : Gp} {d d' : D} {xs : List V} (h : wreps g s H [d, d'] xs) : ∃ x y, xs = [x, y] ∧ wrep g s H d x ∧ wrep g s H d' y := by
  cases h with
  | cons r t => cases t with
    | cons r' t' => cases t'; exact ⟨_, _, rfl, r, r'⟩
def blName : Bl → Str × Value
  | .len => ("len", .builtin "len")
  | .abs => ("abs", .builtin "abs")
  | .int => ("int", .type "int")
  | .all => ("all", .builtin "all")
  | .any => ("any", .builtin "any")
  | .max2 => ("max", .builtin "max")
  | .min2 => ("min", .builtin "min")
  | .tuple => ("tuple", .type "tuple")
  | .str => ("str", .type "str")
  | .sum => ("sum", .builtin "sum")
  | .max => ("max", .builtin "max")
  | .min => ("min", .builtin "min")
  | .repr => ("repr", .builtin "repr")
def rBl (T : Tx) (g : Gp) (b : Bl) : List V → Hp → VK → Prop := fun xs H Q => ∃ σ s ds d, At g T s σ H ∧ wreps g s H ds xs ∧ opBl b ds = some d ∧ Fin1 g T s σ d Q
theorem call_bl (hc : X.calm = true) (hu : X.A.units + 70 < cLine) (b : Bl) (nr : b ≠ .repr) : CallR X (blName b).2 (rBl T X.gp b) := by
  intro pins st σ H xs us Q I r h
  obtain ⟨σ', s, ds, d, A, w, e, fin⟩ := h
  unfold opBl at e
  split at e
  · obtain ⟨x, rfl, wx⟩ := w1 w
    obtain ⟨p, vs, rfl, q1, r1⟩ := wx.lst A.gh
    cases e
    exact call_len_seq pins st σ H _ us Q I r ⟨p, vs, rfl, .inl (SqL.of q1), fin.here A (by rw [reps_len r1]; exact rfl)⟩
  · obtain ⟨x, rfl, wx⟩ := w1 w
    obtain ⟨p, vs, rfl, q1, r1⟩ := wtup wx
    cases e
    exact call_len_seq pins st σ H _ us Q I r ⟨p, vs, rfl, .inr (sqT_sub A.gh q1), fin.here A (by rw [reps_len r1]; exact rfl)⟩
  · obtain ⟨x, rfl, wx⟩ := w1 w
    obtain ⟨p, vs, rfl, q1, r1⟩ := wfz wx
    cases e
    exact call_len_seq pins st σ H _ us Q I r ⟨p, vs, rfl, .inl (sqL_sub A.gh q1), fin.here A (by rw [reps_len r1]; exact rfl)⟩
  · obtain ⟨x, rfl, wx⟩ := w1 w
    obtain ⟨a, rfl, m⟩ := wx.dct A.gh
    cases e
    rename_i ks vs
    obtain ⟨kvs, q, h1, h2⟩ := m
    have el : ks.length = kvs.length := by rw [keysK_len h1, List.length_map]
    cases r with
    | cons r t =>
      cases t
      obtain rfl : _ = Value.ref a := r
      exact d_len I q fun t s' I' => ⟨.int ks.length, H, I', ⟨t, by rw [el]⟩, fin.here A rfl⟩
  · obtain ⟨x, rfl, wx⟩ := w1 w
    obtain rfl := wstr wx
    split at e
    · rename_i hl
      cases e
      exact call_len_str pins st σ H _ us Q I r ⟨_, rfl, okl hl, fin.here A rfl⟩
    · cases e
  · obtain ⟨x, rfl, wx⟩ := w1 w
    obtain rfl := wint wx
    cases e
    exact call_abs pins st σ H _ us Q I r ⟨_, rfl, fin.here A rfl⟩
  · obtain ⟨x, rfl, wx⟩ := w1 w
    obtain rfl := wint wx
    cases e
    exact call_int1 pins st σ H _ us Q I r (.inl ⟨_, rfl, fin.here A rfl⟩)
  · obtain ⟨x, rfl, wx⟩ := w1 w
    obtain rfl := wbl wx
    cases e
    exact call_int1 pins st σ H _ us Q I r (.inr ⟨_, rfl, fin.here A rfl⟩)
  · obtain ⟨x, rfl, wx⟩ := w1 w
    obtain rfl := wstr wx
    split at e
    · rename_i hl
      obtain ⟨n, e1, e2⟩ := Option.map_eq_some_iff.mp e
      subst e2
      exact call_int_str pins st σ H _ us Q I r ⟨_, _, rfl, e1, of_decide_eq_true hl, fin.here A rfl⟩
    · cases e
  · obtain ⟨x, rfl, wx⟩ := w1 w
    obtain ⟨p, vs, rfl, q1, r1⟩ := wx.lst A.gh
    obtain ⟨bs, e1, e2⟩ := Option.map_eq_some_iff.mp e
    subst e2
    have ev := blsV e1 r1
    subst ev
    exact cr_all hc pins st σ H _ us Q I r ⟨p, bs, rfl, SqL.of q1, fin.here A rfl⟩
  · obtain ⟨x, rfl, wx⟩ := w1 w
    obtain ⟨p, vs, rfl, q1, r1⟩ := wx.lst A.gh
    obtain ⟨bs, e1, e2⟩ := Option.map_eq_some_iff.mp e
    subst e2
    have ev := blsV e1 r1
    subst ev
    exact cr_any hc pins st σ H _ us Q I r ⟨p, bs, rfl, SqL.of q1, fin.here A rfl⟩
  · obtain ⟨x, y, rfl, wx, wy⟩ := w2 w
    obtain rfl := wint wx; obtain rfl := wint wy
    cases e
    exact call_max2 hc pins st σ H _ us Q I r ⟨_, _, rfl, fin.here A rfl⟩
  · obtain ⟨x, y, rfl, wx, wy⟩ := w2 w
    obtain rfl := wint wx; obtain rfl := wint wy
    cases e
    exact call_min2 hc pins st σ H _ us Q I r ⟨_, _, rfl, fin.here A rfl⟩
  · obtain ⟨x, rfl, wx⟩ := w1 w
    obtain ⟨p, vs, rfl, q1, r1⟩ := wx.lst A.gh
    cases e
    exact call_tuple_of pins st σ H _ us Q I r ⟨p, vs, rfl, .inl ⟨SqL.of q1, fun l hl => fin.tup A hl r1⟩⟩
  · obtain ⟨x, rfl, wx⟩ := w1 w
    obtain ⟨p, vs, rfl, q1, r1⟩ := wtup0 wx
    cases e
    exact call_tuple_of pins st σ H _ us Q I r ⟨p, vs, rfl, .inr ⟨.inl (.inl (A.gh _ _ q1)), fin.here A ⟨p, vs, rfl, q1, r1⟩⟩⟩
  · obtain ⟨x, rfl, wx⟩ := w1 w
    obtain rfl := wint wx
    split at e
    · rename_i hl
      cases e
      exact call_str_int pins st σ H _ us Q I r ⟨_, rfl, of_decide_eq_true hl, fin.here A rfl⟩
    · cases e
  · obtain ⟨x, rfl, wx⟩ := w1 w
    obtain ⟨p, vs, rfl, q1, r1⟩ := wx.lst A.gh
    obtain ⟨ns, e1, e2⟩ := Option.bind_eq_some_iff.mp e
    obtain ⟨m, e3, e4⟩ := Option.map_eq_some_iff.mp e2
    subst e4
    have ev := intsV e1 r1
    subst ev
    obtain ⟨its, rv, hl, _⟩ := I.list (SqL.of q1)
    obtain ⟨as, ra⟩ := reads_ints (h := st.heap) rv
    cases ns with
    | nil => cases e3
    | cons n ns =>
      cases e3
      rw [Vals.ref1 r]
      refine PySem.W.max_list_data (I.ok.hd hc) hl.isList ra (alike_ints (n :: ns)) (by have := depth_ints (n :: ns); rw [List.map_cons] at this; rw [this]; omega) fun i v h' tk bs _ rd hk => ?_
      rw [PySem.W.maxD_ints] at rd
      cases rd
      exact ⟨.int _, H, I.kept hk, ⟨_, rfl⟩, fin.here A rfl⟩
  · obtain ⟨x, rfl, wx⟩ := w1 w
    obtain ⟨p, vs, rfl, q1, r1⟩ := wtup wx
    obtain ⟨ns, e1, e2⟩ := Option.bind_eq_some_iff.mp e
    obtain ⟨m, e3, e4⟩ := Option.map_eq_some_iff.mp e2
    subst e4
    have ev := intsV e1 r1
    subst ev
    obtain ⟨its, rv, hl, _⟩ := I.tuple (sqT_sub A.gh q1)
    obtain ⟨as, ra⟩ := reads_ints (h := st.heap) rv
    cases ns with
    | nil => cases e3
    | cons n ns =>
      cases e3
      rw [Vals.ref1 r]
      refine PySem.W.max_tuple_data (I.ok.hd hc) hl ra (alike_ints (n :: ns)) (by have := depth_ints (n :: ns); rw [List.map_cons] at this; rw [this]; omega) fun i v h' tk bs _ rd hk => ?_
      rw [PySem.W.maxD_ints] at rd
      cases rd
      exact ⟨.int _, H, I.kept hk, ⟨_, rfl⟩, fin.here A rfl⟩
  · obtain ⟨x, rfl, wx⟩ := w1 w
    obtain ⟨p, vs, rfl, q1, r1⟩ := wx.lst A.gh
    obtain ⟨ns, e1, e2⟩ := Option.bind_eq_some_iff.mp e
    obtain ⟨m, e3, e4⟩ := Option.map_eq_some_iff.mp e2
    subst e4
    have ev := intsV e1 r1
    subst ev
    obtain ⟨its, rv, hl, _⟩ := I.list (SqL.of q1)
    obtain ⟨as, ra⟩ := reads_ints (h := st.heap) rv
    cases ns with
    | nil => cases e3
    | cons n ns =>
      cases e3
      rw [Vals.ref1 r]
      refine PySem.W.min_list_data (I.ok.hd hc) hl.isList ra (alike_ints (n :: ns)) (by have := depth_ints (n :: ns); rw [List.map_cons] at this; rw [this]; omega) fun i v h' tk bs _ rd hk => ?_
      rw [PySem.W.minD_ints] at rd
      cases rd
      exact ⟨.int _, H, I.kept hk, ⟨_, rfl⟩, fin.here A rfl⟩
  · obtain ⟨x, rfl, wx⟩ := w1 w
    obtain ⟨p, vs, rfl, q1, r1⟩ := wtup wx
    obtain ⟨ns, e1, e2⟩ := Option.bind_eq_some_iff.mp e
    obtain ⟨m, e3, e4⟩ := Option.map_eq_some_iff.mp e2
    subst e4
    have ev := intsV e1 r1
    subst ev
    obtain ⟨its, rv, hl, _⟩ := I.tuple (sqT_sub A.gh q1)
    obtain ⟨as, ra⟩ := reads_ints (h := st.heap) rv
    cases ns with
    | nil => cases e3
    | cons n ns =>
      cases e3
      rw [Vals.ref1 r]
      refine PySem.W.min_tuple_data (I.ok.hd hc) hl ra (alike_ints (n :: ns)) (by have := depth_ints (n :: ns); rw [List.map_cons] at this; rw [this]; omega) fun i v h' tk bs _ rd hk => ?_
      rw [PySem.W.minD_ints] at rd
      cases rd
      exact ⟨.int _, H, I.kept hk, ⟨_, rfl⟩, fin.here A rfl⟩
  · obtain ⟨x, rfl, wx⟩ := w1 w
    obtain ⟨p, vs, rfl, q1, r1⟩ := wx.lst A.gh
    obtain ⟨ns, e1, e2⟩ := Option.map_eq_some_iff.mp e
    subst e2
    have ev := intsV e1 r1
    subst ev
    exact cr_sum hc pins st σ H _ us Q I r ⟨p, ns, rfl, SqL.of q1, fin.here A rfl⟩
  · obtain ⟨x, rfl, wx⟩ := w1 w
    obtain ⟨p, vs, rfl, q1, r1⟩ := wtup wx
    obtain ⟨ns, e1, e2⟩ := Option.map_eq_some_iff.mp e
    subst e2
    have ev := intsV e1 r1
    subst ev
    obtain ⟨its, rv, hl, _⟩ := I.tuple (sqT_sub A.gh q1)
    have hi := rv.ints
    obtain ⟨xs, hx⟩ := hi.allInts.items
    have hn : numsOf its.toArray.toList = ns := by rw [show its.toArray.toList = its from rfl, hi.numsOf]
    rw [hx] at hl hn
    rw [PySem.nums_intItems] at hn
    rw [Vals.ref1 r]
    refine PySem.W.ktm_sumG (I.ok.hd hc) hl fun h' tk t' hk => ?_
    refine ⟨.int _, H, I.kept hk, ⟨_, rfl⟩, ?_⟩
    have es : preSum (numAt xs) xs.size = ns.sum := by rw [preSum_eq, List.take_of_length_le (by simp), hn]
    rw [es]
    exact fin.here A rfl
  · exact absurd rfl nr
  · cases e
def rFlC (T : Tx) (g : Gp) (b : Fl1) : List V → Hp → VK → Prop := fun xs H Q => ∃ σ s ds l, At g T s σ H ∧ wreps g s H ds xs ∧ opFl b ds = some l ∧ Fin2 g T s σ l Q
theorem call_list (hc : X.calm = true) : CallR X (.type "list") (rFlC T X.gp .list) := by
  intro pins st σ H xs us Q I r h
  obtain ⟨σ', s, ds, d, A, w, e, fin⟩ := h
  unfold opFl at e
  split at e
  · obtain ⟨x, rfl, wx⟩ := w1 w
    obtain ⟨p, vs, rfl, q1, r1⟩ := wx.lst A.gh
    cases e
    exact call_list_of pins st σ H _ us Q I r ⟨p, vs, rfl, .inl (SqL.of q1), fun l hl => fin.lst A hl r1⟩
  · obtain ⟨x, rfl, wx⟩ := w1 w
    obtain ⟨p, vs, rfl, q1, r1⟩ := wtup wx
    cases e
    exact call_list_of pins st σ H _ us Q I r ⟨p, vs, rfl, .inr (sqT_sub A.gh q1), fun l hl => fin.lst A hl r1⟩
  · obtain ⟨x, rfl, wx⟩ := w1 w
    obtain ⟨a, rfl, m⟩ := wx.dct A.gh
    obtain ⟨kvs, q, h1, h2⟩ := m
    cases e
    exact L2.call_listD hc pins st σ H _ us Q I r ⟨a, kvs, rfl, q, fun p hp => by
      have hr := keysK_rep (g := X.gp) (μ := s.μ) (G := s.G) h1
      rw [List.map_map] at hr
      exact fin.lst A hp hr⟩
  · rename_i hb; cases hb
  · cases e
theorem sortI_eq {ns ns' : List Int} (h1 : ns'.Perm ns) (h2 : ns'.Pairwise (· ≤ ·)) : ns' = sortI ns := by
  have h3 : (sortI ns).Pairwise (· ≤ ·) := by
    have := List.pairwise_mergeSort (le := fun a b : Int => decide (a ≤ b)) (fun a b c x y => by simp at x y ⊢; omega) (fun a b => by simp; omega) ns
    exact this.imp fun h => by simpa using h
  exact List.Perm.eq_of_pairwise (fun a b _ _ h h' => Int.le_antisymm h h') h2 h3 (h1.trans (List.mergeSort_perm ns _).symm)
theorem call_sorted : CallR X (.builtin "sorted") (rFlC T X.gp .sorted) := by
  intro pins st σ H xs us Q I r h
  obtain ⟨σ', s, ds, d, A, w, e, fin⟩ := h
  unfold opFl at e
  split at e
  · rename_i hb; cases hb
  · rename_i hb; cases hb
  · rename_i hb; cases hb
  · obtain ⟨x, rfl, wx⟩ := w1 w
    obtain ⟨p, vs, rfl, q1, r1⟩ := wx.lst A.gh
    obtain ⟨ns, e1, e2⟩ := Option.map_eq_some_iff.mp e
    subst e2
    have ev := intsV e1 r1
    subst ev
    exact cr_sortedI pins st σ H _ us Q I r ⟨p, ns, rfl, SqL.of q1, fun ns' l h1 h2 hl => by
      rw [sortI_eq h1 h2]
      exact fin.lst A hl (ints_rep _)⟩
  · cases e
/-! ### methods of texts -/
def rMt (T : Tx) (g : Gp) (m : Mt) : V → List V → Hp → VK → Prop := fun x xs H Q => ∃ σ s dx ds d, At g T s σ H ∧ wrep g s H dx x ∧ wreps g s H ds xs ∧ opMt m dx ds = some d ∧ Fin1 g T s σ d Q
theorem mt_join' : MtR X "str.join" (rMt T X.gp .join) := by
  intro pins st σ H x xs v us Q I rx r h
  obtain ⟨σ', s, dx, ds, d, A, wx, w, e, fin⟩ := h
  unfold opMt at e
  split at e
  · obtain rfl := wstr wx
    obtain ⟨y, rfl, wy⟩ := w1 w
    obtain ⟨p, vs, rfl, q1, r1⟩ := wy.lst A.gh
    obtain ⟨ys, e1, e2⟩ := Option.bind_eq_some_iff.mp e
    have ev := strsV e1 r1
    subst ev
    split at e2
    · rename_i hl
      cases e2
      exact mt_join pins st σ H _ _ v us Q I rx r ⟨_, p, ys, rfl, rfl, .inl (SqL.of q1), of_decide_eq_true hl, fin.here A rfl⟩
    · cases e2
  · cases e
def rMtF (T : Tx) (g : Gp) (m : MtF) : V → List V → Hp → VK → Prop := fun x xs H Q => ∃ σ s dx ds l, At g T s σ H ∧ wrep g s H dx x ∧ wreps g s H ds xs ∧ opMtF m dx ds = some l ∧ Fin2 g T s σ l Q
theorem mt_split' : MtR X "str.split" (rMtF T X.gp .split) := by
  intro pins st σ H x xs v us Q I rx r h
  obtain ⟨σ', s, dx, ds, l, A, wx, w, e, fin⟩ := h
  unfold opMtF at e
  split at e
  · obtain rfl := wstr wx
    obtain ⟨y, rfl, wy⟩ := w1 w
    obtain rfl := wstr wy
    split at e
    · rename_i hl
      cases e
      obtain ⟨h1, h2⟩ := Bool.and_eq_true_iff.mp hl
      exact mt_split pins st σ H _ _ v us Q I rx r ⟨_, _, rfl, rfl, by simpa using h1, okl h2, fun p hp => fin.lst A hp (strs_rep _)⟩
    · cases e
  · cases e
/-! ### isinstance -/
def tyOf : D → Option String
  | .non => some "NoneType"
  | .bl _ => some "bool"
  | .int _ => some "int"
  | .str _ => some "str"
  | .tup _ => some "tuple"
  | .lst _ => some "list"
  | .dct false _ _ => some "dict"
  | _ => none
end
end MP

namespace MP
open PySem PySem.Spec L2
/-- a call that the evaluator can do, done by the machine -/
def CallsR (T : Tx) (X : Cx) (W : WX) (cl : Calls) (ok : Str → Bool) : Prop :=
  ∀ (x : Str) (f : Addr) (pins : List (Addr × Obj)) (st : Shared) (σ : L2.St) (H : Hp) (ds kds : List D) (ks : List Str) (us ws : List Value) (vs zs : List V) (s : Sg) (Q : VK),
    ok x = true → X.mg x = some (.ref f) → Inv X pins σ H st → Vals vs us → Vals zs ws → kds.length = ks.length → At X.gp T s σ H → reps X.gp s.μ s.G ds vs → reps X.gp s.μ s.G kds zs →
    Aft X.gp T W (lift0 (cl.f x ds ks kds)) s σ (fun d s' H' => ∀ v, rep X.gp s'.μ s'.G d v → Q v H') →
    wpAny (model X.prog X.w) X.A (call (.ref f) us (ks.zip ws)) (EP X pins σ Q) X.xe st
section
variable {T : Tx} {W : WX} {X : Cx} {cl : Calls} {e a b : Expr} {pos : Pos}
theorem r_ret {d : D} {v : V} (h : PE X e (tC v)) (r : ∀ μ G, rep X.gp μ G d v) : SE T W X e (mret d) := h.weak fun σ H Q ⟨s, I, q⟩ => q.ret I v (r _ _)
theorem r_var {i : Nat} {x : Str} (hN : X.N[i]? = some x) (hv : Vis X.env.scope x) (hd : (x == ("__debug__" : Str)) = false) (hcd : (x == ("__classdict__" : Str)) = false) : SE T W X (.Name x pos) (take i) :=
  (pe_var hN hv hd hcd).weak fun σ H Q ⟨s, I, q⟩ => by
    unfold Aft take at q
    cases es : s.ρ[i]? with
    | none => simp only [es] at q
    | some sl =>
      cases sl with
      | none => simp only [es] at q
      | lck o => simp only [es] at q
      | val d =>
        simp only [es] at q
        obtain ⟨v, e1, r⟩ := I.slots i _ es
        exact ⟨v, e1, q s H (Le.refl _) rfl rfl I v r⟩
      | fdef _ => simp only [es] at q
      | clo _ _ => simp only [es] at q
      | exn _ => simp only [es] at q
      | own o =>
        cases hm : moD o with
        | none => simp only [es, hm] at q
        | some d =>
          simp only [es, hm] at q
          obtain ⟨p, vs, e1, sg, J, r⟩ := I.frzslot hm es
          exact ⟨_, e1, q { s with G := upd s.G p vs, ρ := s.ρ.set i (.val d) } H ⟨rfl, sg, fun _ _ h => h⟩ rfl rfl J _ r⟩
theorem r_peek {i : Nat} {x : Str} (hN : X.N[i]? = some x) (hv : Vis X.env.scope x) (hd : (x == ("__debug__" : Str)) = false) (hcd : (x == ("__classdict__" : Str)) = false) : SP T W X (.Name x pos) (peek i) :=
  (pe_var hN hv hd hcd).weak fun σ H Q ⟨s, I, q⟩ => by
    unfold Aft peek at q
    cases es : s.ρ[i]? with
    | none => simp only [es] at q
    | some sl =>
      cases sl with
      | none => simp only [es] at q
      | lck o =>
        simp only [es] at q
        obtain ⟨p, e1, _⟩ := I.slots i _ es
        exact ⟨_, e1, q s H (Le.refl _) rfl rfl I _ e1⟩
      | val d =>
        simp only [es] at q
        obtain ⟨v, e1, r⟩ := I.slots i _ es
        exact ⟨v, e1, q s H (Le.refl _) rfl rfl I v r⟩
      | own o =>
        simp only [es] at q
        obtain ⟨p, e1, _⟩ := I.slots i _ es
        exact ⟨_, e1, q s H (Le.refl _) rfl rfl I _ e1⟩
      | fdef _ => simp only [es] at q
      | clo _ _ => simp only [es] at q
      | exn _ => simp only [es] at q
variable {ma mb : M D} {pa pb pc : M PV}
theorem r_bin {o : Operator} (ha : SP T W X a pa) (hb : SP T W X b pb) : SE T W X (.BinOp a o b pos) (mbind pa fun p => mbind pb fun q => mbind (mval p) fun x => mbind (mval q) fun y => mopt (opBin o x y)) :=
  (pe_op (op_bin (T := T) o) ha hb).weak fun σ H Q ⟨s, I, q⟩ => ⟨s, I, q.bind.mono fun p s1 H1 le J q1 v hv => ⟨s1, J, q1.bind.mono fun p2 s2 H2 le2 J2 q2 u hu => by
    obtain ⟨dx, wx, q3⟩ := q2.val J2 (prep_le le2 hv)
    obtain ⟨dy, wy, q4⟩ := q3.val J2 hu
    obtain ⟨d, e, q5⟩ := q4.opt
    exact ⟨σ, s2, dx, dy, d, J2, wx, wy, e, fun s' H' v l e1 e2 J' r => q5.ret' l e1 e2 J' v r⟩⟩⟩
theorem r_binL {o : Operator} (ha : SP T W X a pa) (hb : SP T W X b pb) : SF T W X (.BinOp a o b pos) (mbind pa fun p => mbind pb fun q => mbind (mval p) fun x => mbind (mval q) fun y => mopt (opBinL o x y)) :=
  (pe_op (op_binL (T := T) o) ha hb).weak fun σ H Q ⟨s, I, q⟩ => ⟨s, I, q.bind.mono fun p s1 H1 le J q1 v hv => ⟨s1, J, q1.bind.mono fun p2 s2 H2 le2 J2 q2 u hu => by
    obtain ⟨dx, wx, q3⟩ := q2.val J2 (prep_le le2 hv)
    obtain ⟨dy, wy, q4⟩ := q3.val J2 hu
    obtain ⟨d, e, q5⟩ := q4.opt
    exact ⟨σ, s2, dx, dy, d, J2, wx, wy, e, fun s' H' v l e1 e2 J' r => q5.ret' l e1 e2 J' v r⟩⟩⟩
theorem r_cmp {o : CmpOp} (hu : X.A.units + 70 < cLine) (ha : SP T W X a pa) (hb : SP T W X b pb) (hm : behindInMarks o b = false) : SE T W X (.Compare a [o] [b] pos) (mbind pa fun p => mbind pb fun q => mbind (mval p) fun x => mbind (mval q) fun y => mopt ((opCmp o x y).map .bl)) :=
  (pe_cmpR (op_cmp (T := T) hu o) ha hb hm).weak fun σ H Q ⟨s, I, q⟩ => ⟨s, I, q.bind.mono fun p s1 H1 le J q1 v hv => ⟨s1, J, q1.bind.mono fun p2 s2 H2 le2 J2 q2 u hu => by
    obtain ⟨dx, wx, q3⟩ := q2.val J2 (prep_le le2 hv)
    obtain ⟨dy, wy, q4⟩ := q3.val J2 hu
    obtain ⟨d, e, q5⟩ := q4.opt
    obtain ⟨k, e1, e2⟩ := Option.map_eq_some_iff.mp e
    subst e2
    exact ⟨σ, s2, dx, dy, k, J2, wx, wy, e1, q5.ret J2 _ rfl⟩⟩⟩
theorem t_cmp {o : CmpOp} (hu : X.A.units + 70 < cLine) (ha : SP T W X a pa) (hb : SP T W X b pb) (hm : behindInMarks o b = false) : SB T W X (.Compare a [o] [b] pos) (mbind pa fun p => mbind pb fun q => mbind (mval p) fun x => mbind (mval q) fun y => mopt (opCmp o x y)) :=
  (pt_cmpR (op_cmp (T := T) hu o) ha hb hm).weak fun σ H Q ⟨s, I, q⟩ => ⟨s, I, q.bind.mono fun p s1 H1 le J q1 v hv => ⟨s1, J, q1.bind.mono fun p2 s2 H2 le2 J2 q2 u hu => by
    obtain ⟨dx, wx, q3⟩ := q2.val J2 (prep_le le2 hv)
    obtain ⟨dy, wy, q4⟩ := q3.val J2 hu
    obtain ⟨k, e, q5⟩ := q4.opt
    exact ⟨σ, s2, dx, dy, k, J2, wx, wy, e, k, rfl, q5.ret J2⟩⟩⟩
/-- a comparison in a chain: the state goes on -/
def rCh (T : Tx) (g : Gp) (σ : L2.St) (o : CmpOp) (K : Sg → Bool → Hp → Prop) : V → V → Hp → Prop := fun x y H => ∃ s dx dy b, At g T s σ H ∧ wrep g s H dx x ∧ wrep g s H dy y ∧ opCmp o dx dy = some b ∧ K s b H
theorem r_cmp2 {o o' : CmpOp} {c : Expr} (hu : X.A.units + 70 < cLine) (ha : SP T W X a pa) (hb : SP T W X b pb) (hc : SP T W X c pc) (hm : lastMarks [o, o'] [b, c] = false) : SE T W X (.Compare a [o, o'] [b, c] pos)
    (mbind pa fun p => mbind pb fun q => mbind (mval p) fun x => mbind (mval q) fun y => mbind (mopt (opCmp o x y)) fun k =>
      if k then mbind pc fun r => mbind (mval q) fun y => mbind (mval r) fun z => mopt ((opCmp o' y z).map .bl) else mret (.bl false)) :=
  (pe_chain (op_cmp (T := T) hu o) (op_cmp (T := T) hu o') ha hb hc hm).weak fun σ H Q ⟨s, I, q⟩ => ⟨s, I, q.bind.mono fun p s1 H1 le J q1 v hv => ⟨s1, J, q1.bind.mono fun p2 s2 H2 le2 J2 q2 u hu => by
    obtain ⟨dx, wx, q3⟩ := q2.val J2 (prep_le le2 hv)
    obtain ⟨dy, wy, q4⟩ := q3.val J2 hu
    obtain ⟨k, e, q5⟩ := q4.bind.opt
    refine ⟨σ, s2, dx, dy, k, J2, wx, wy, e, k, rfl, ?_⟩
    have q6 := q5.ret J2
    cases k with
    | false => exact q6.ret J2 _ rfl
    | true =>
      exact ⟨s2, J2, q6.bind.mono fun p3 s3 H3 le3 J3 q7 w hw => by
        obtain ⟨dy', wy', q8⟩ := q7.val J3 (prep_le le3 hu)
        obtain ⟨dz, wz, q9⟩ := q8.val J3 hw
        obtain ⟨d, e', q10⟩ := q9.opt
        obtain ⟨k', e1, e2⟩ := Option.map_eq_some_iff.mp e'
        subst e2
        exact ⟨σ, s3, dy', dz, k', J3, wy', wz, e1, q10.ret J3 _ rfl⟩⟩⟩⟩
theorem t_cmp2 {o o' : CmpOp} {c : Expr} (hu : X.A.units + 70 < cLine) (ha : SP T W X a pa) (hb : SP T W X b pb) (hc : SP T W X c pc) (hm : lastMarks [o, o'] [b, c] = false) : SB T W X (.Compare a [o, o'] [b, c] pos)
    (mbind pa fun p => mbind pb fun q => mbind (mval p) fun x => mbind (mval q) fun y => mbind (mopt (opCmp o x y)) fun k =>
      if k then mbind pc fun r => mbind (mval q) fun y => mbind (mval r) fun z => mopt (opCmp o' y z) else mret false) :=
  (pt_chain (op_cmp (T := T) hu o) (op_cmp (T := T) hu o') ha hb hc hm).weak fun σ H Q ⟨s, I, q⟩ => ⟨s, I, q.bind.mono fun p s1 H1 le J q1 v hv => ⟨s1, J, q1.bind.mono fun p2 s2 H2 le2 J2 q2 u hu => by
    obtain ⟨dx, wx, q3⟩ := q2.val J2 (prep_le le2 hv)
    obtain ⟨dy, wy, q4⟩ := q3.val J2 hu
    obtain ⟨k, e, q5⟩ := q4.bind.opt
    refine ⟨σ, s2, dx, dy, k, J2, wx, wy, e, k, rfl, ?_⟩
    have q6 := q5.ret J2
    cases k with
    | false => exact ⟨false, rfl, q6.ret J2⟩
    | true =>
      exact ⟨s2, J2, q6.bind.mono fun p3 s3 H3 le3 J3 q7 w hw => by
        obtain ⟨dy', wy', q8⟩ := q7.val J3 (prep_le le3 hu)
        obtain ⟨dz, wz, q9⟩ := q8.val J3 hw
        obtain ⟨k', e1, q10⟩ := q9.opt
        exact ⟨σ, s3, dy', dz, k', J3, wy', wz, e1, k', rfl, q10.ret J3⟩⟩⟩⟩
theorem r_not (ha : SE T W X a ma) : SE T W X (.UnaryOp .Not a pos) (mbind ma fun d => match d with
    | .bl b => mret (.bl (!b))
    | _ => mstk) := (pe_not ha).weak fun σ H Q ⟨s, I, q⟩ => ⟨s, I, q.bind.mono fun d s1 H1 le J q1 v hv => by
  cases d with
  | bl k => exact ⟨k, hv, q1.ret J _ rfl⟩
  | _ => exact q1.stk.elim⟩
theorem r_neg (ha : SE T W X a ma) : SE T W X (.UnaryOp .USub a pos) (mbind ma fun d => match d with
    | .int i => mret (.int (-i))
    | _ => mstk) := (pe_un un_neg ha).weak fun σ H Q ⟨s, I, q⟩ => ⟨s, I, q.bind.mono fun d s1 H1 le J q1 v hv => by
  cases d with
  | int k => exact ⟨k, hv, q1.ret J _ rfl⟩
  | _ => exact q1.stk.elim⟩
theorem r_ite {c : Expr} {mt : M Bool} (hc : SB T W X c mt) (ha : SE T W X a ma) (hb : SE T W X b mb) : SE T W X (.IfExp c a b pos) (mbind mt fun k => if k then ma else mb) :=
  (pe_ifExp hc ha hb).weak fun σ H Q ⟨s, I, q⟩ => ⟨s, I, q.bind.mono fun k s1 H1 le J q1 => by
    cases k with
    | true => exact ⟨s1, J, q1⟩
    | false => exact ⟨s1, J, q1⟩⟩
theorem r_one {o : BoolOp} (ha : SE T W X a ma) : SE T W X (.BoolOp o [a] pos) ma := pe_one ha
theorem r_and {rest : List Expr} (ha : SE T W X a ma) (hb : SE T W X (.BoolOp .And (b :: rest) pos) mb) : SE T W X (.BoolOp .And (a :: b :: rest) pos) (mbind ma fun d => match d with
    | .bl true => mb
    | .bl false => mret (.bl false)
    | _ => mstk) := (pe_and ha hb).weak fun σ H Q ⟨s, I, q⟩ => ⟨s, I, q.bind.mono fun d s1 H1 le J q1 v hv => by
  cases d with
  | bl k =>
    refine ⟨k, hv, ?_⟩
    cases k with
    | true => exact ⟨s1, J, q1⟩
    | false => exact q1.ret J _ rfl
  | _ => exact q1.stk.elim⟩
theorem r_or {rest : List Expr} (ha : SE T W X a ma) (hb : SE T W X (.BoolOp .Or (b :: rest) pos) mb) : SE T W X (.BoolOp .Or (a :: b :: rest) pos) (mbind ma fun d => match d with
    | .bl true => mret (.bl true)
    | .bl false => mb
    | _ => mstk) := (pe_or ha hb).weak fun σ H Q ⟨s, I, q⟩ => ⟨s, I, q.bind.mono fun d s1 H1 le J q1 v hv => by
  cases d with
  | bl k =>
    refine ⟨k, hv, ?_⟩
    cases k with
    | true => exact q1.ret J _ rfl
    | false => exact ⟨s1, J, q1⟩
  | _ => exact q1.stk.elim⟩
/-! ### lists of expressions -/
theorem a_nil : SA T W X [] (mret []) := pa_nil.weak fun σ H Q ⟨s, I, q⟩ => q.ret I [] rfl
theorem a_cons {es : List Expr} {ml : M (List D)} (ha : SE T W X a ma) (hr : SA T W X es ml) (hs : starEach (a :: es) X.env = (false, eval a X.env) :: starEach es X.env) : SA T W X (a :: es) (mbind ma fun d => mbind ml fun l => mret (d :: l)) :=
  (pa_cons ha hr hs).weak fun σ H Q ⟨s, I, q⟩ => ⟨s, I, q.bind.mono fun d s1 H1 le J q1 v hv => ⟨s1, J, q1.bind.mono fun l s2 H2 le2 J2 q2 vs hvs => q2.ret J2 _ ⟨v, vs, rfl, rep_le le2 hv, hvs⟩⟩⟩
theorem ps_nil : SPs T W X [] (mret []) := pa_nil.weak fun σ H Q ⟨s, I, q⟩ => q.ret I [] .nil
theorem paired_le {s s' : Sg} {σ : L2.St} (l : Le s s') {ps : List PV} {vs : List V} (h : Paired (fun p v => prep X.gp s σ p v) ps vs) : Paired (fun p v => prep X.gp s' σ p v) ps vs := Paired.mapP h fun p v => prep_le l
theorem ps_cons' {es : List Expr} {ml : M (List PV)} (ha : SP T W X a pa) (hr : SPs T W X es ml) (hs : starEach (a :: es) X.env = (false, eval a X.env) :: starEach es X.env) : SPs T W X (a :: es) (mbind pa fun d => mbind ml fun l => mret (d :: l)) :=
  (pa_cons ha hr hs).weak fun σ H Q ⟨s, I, q⟩ => ⟨s, I, q.bind.mono fun d s1 H1 le J q1 v hv => ⟨s1, J, q1.bind.mono fun l s2 H2 le2 J2 q2 vs hvs => q2.ret J2 _ (.cons (prep_le le2 hv) hvs)⟩⟩
theorem Aft.vals {σ : L2.St} {g : Gp} {β : Type} : ∀ {ps : List PV} {vs : List V} {k : List D → M β} {Q : β → Sg → Hp → Prop} {s : Sg} {H : Hp}, Aft g T W (mbind (mvals ps) k) s σ Q → At g T s σ H → Paired (fun p v => prep g s σ p v) ps vs → ∃ ds, wreps g s H ds vs ∧ Aft g T W (k ds) s σ Q
  | [], _, k, Q, s, H, h, I, .nil => ⟨[], .nil, h⟩
  | p :: ps, _, k, Q, s, H, h, I, .cons hp hps => by
    have e : mbind (mvals (p :: ps)) k = mbind (mval p) fun d => mbind (mvals ps) fun l => k (d :: l) := by
      funext ρ S
      show mbind (mbind (mval p) fun d => mbind (mvals ps) fun l => mret (d :: l)) k ρ S = _
      unfold mbind
      cases mval p ρ S with
      | ok a ρ S => 
        dsimp only
        cases mvals ps ρ S <;> rfl
      | exc c ρ S => rfl
      | stk => rfl
    rw [e] at h
    obtain ⟨d, w, h⟩ := h.val I hp
    obtain ⟨ds, w2, h⟩ := Aft.vals h I hps
    exact ⟨d :: ds, .cons w w2, h⟩
theorem r_tup {es : List Expr} {x1 : Nat} {ml : M (List D)} (h : SA T W X es ml) : SE T W X (.Tuple es x1 pos) (mbind ml fun l => if okLen l.length then mret (.tup l) else mstk) :=
  (pe_tup h).weak fun σ H Q ⟨s, I, q⟩ => ⟨s, I, q.bind.mono fun l s1 H1 le J q1 vs hv => by
    cases hl : okLen l.length with
    | false => rw [hl] at q1; exact (Aft.stk q1).elim
    | true =>
      rw [hl] at q1
      refine ⟨by rw [← reps_len hv]; exact okl hl, fun p hp => ?_⟩
      obtain ⟨s', l', e1, e2, J', r⟩ := J.newtup hp hv
      exact q1.ret' l' e1 e2 J' _ r⟩
theorem r_lst {es : List Expr} {ml : M (List D)} (h : SA T W X es ml) : SF T W X (.List es pos) (mbind ml fun l => if okLen l.length then mret l else mstk) :=
  (pe_lst h).weak fun σ H Q ⟨s, I, q⟩ => ⟨s, I, q.bind.mono fun l s1 H1 le J q1 vs hv => by
    cases hl : okLen l.length with
    | false => rw [hl] at q1; exact (Aft.stk q1).elim
    | true =>
      rw [hl] at q1
      refine ⟨by rw [← reps_len hv]; exact okl hl, fun p hp => ?_⟩
      obtain ⟨J', f⟩ := J.newlst hp hv
      exact q1.ret' (Le.refl _) rfl rfl J' _ f⟩
/-- a list that is kept in the store -/
theorem r_new {es : List Expr} {ml : M (List D)} (h : SA T W X es ml) : SE T W X (.List es pos) (mbind ml fun l => if okLen l.length then (fun ρ S => .ok (.ref S.length) ρ (S ++ [.lst l])) else mstk) :=
  (pe_lst h).weak fun σ H Q ⟨s, I, q⟩ => ⟨s, I, q.bind.mono fun l s1 H1 le J q1 vs hv => by
    cases hl : okLen l.length with
    | false => rw [hl] at q1; exact (Aft.stk q1).elim
    | true =>
      rw [hl] at q1
      refine ⟨by rw [← reps_len hv]; exact okl hl, fun p hp => ?_⟩
      have J' := J.stnew (m := .lst l) (o := .lst vs) hp fun μ' hμ => ⟨vs, upd_same, reps_mono (Sub.refl _) hμ _ _ hv⟩
      have q2 : ∀ s' H', Le s1 s' → s'.ρ = s1.ρ → s'.S = s1.S ++ [.lst l] → At X.gp T s' σ H' → ∀ v, rep X.gp s'.μ s'.G (.ref s1.S.length) v → Q v H' := q1
      refine q2 { s1 with μ := s1.μ ++ [p], S := s1.S ++ [.lst l] } _ ⟨rfl, Sub.refl _, fun n b e => ?_⟩ rfl rfl J' _ ⟨p, rfl, ?_⟩
      · show (s1.μ ++ [p])[n]? = some b
        rw [List.getElem?_append_left (List.getElem?_eq_some_iff.mp e).1]; exact e
      · show (s1.μ ++ [p])[s1.S.length]? = some p
        have e := J.slen
        rw [e, List.getElem?_append_right (Nat.le_refl _)]
        simp⟩
/-! ### subscripts -/
theorem r_idx (hu : X.A.units + 70 < cLine) (ha : SP T W X a pa) (hb : SE T W X b mb) (hs : PlainIx b) : SE T W X (.Subscript a b pos) (mbind pa fun p => mbind mb fun i => mbind (mval p) fun x => mopt (opIdx x i)) :=
  (pe_ix (ix_idx (T := T) hu) ha hb hs).weak fun σ H Q ⟨s, I, q⟩ => ⟨s, I, q.bind.mono fun p s1 H1 le J q1 v hv => ⟨s1, J, q1.bind.mono fun i s2 H2 le2 J2 q2 u hu => by
    obtain ⟨dx, wx, q3⟩ := q2.val J2 (prep_le le2 hv)
    obtain ⟨d, e, q4⟩ := q3.opt
    exact ⟨σ, s2, dx, i, d, J2, wx, .inl hu, e, fun s' H' v l e1 e2 J' r => q4.ret' l e1 e2 J' v r⟩⟩⟩
/-- a part of a slice -/
abbrev SO (T : Tx) (W : WX) (X : Cx) (e : Option Expr) (m : M D) : Prop := PO X e fun σ H Q => ∃ s, At X.gp T s σ H ∧ Aft X.gp T W m s σ fun d s' H' => ∀ o, partD d o → Q o H'
theorem o_nil : SO T W X none (mret .non) := ⟨fun pins st σ H Q I ⟨s, A, q⟩ => po_none.run pins st σ H Q I (q.ret A none rfl)⟩
theorem o_some (h : SE T W X a ma) : SO T W X (some a) (mbind ma fun d => match d with
    | .int i => mret (.int i)
    | _ => mstk) := ⟨fun pins st σ H Q I ⟨s, A, q⟩ => (po_some h).run pins st σ H Q I ⟨s, A, q.bind.mono fun d s1 H1 le J q1 v hv => by
  cases d with
  | int i => exact ⟨i, hv, q1.ret J _ rfl⟩
  | _ => exact (Aft.stk q1).elim⟩⟩
theorem r_sl {lo hi : Option Expr} {p2 : Pos} {ml mh : M D} (ha : SP T W X a pa) (hl : SO T W X lo ml) (hh : SO T W X hi mh) : SE T W X (.Subscript a (.Slice lo hi none p2) pos) (mbind pa fun p => mbind ml fun i => mbind mh fun j => mbind (mval p) fun x => match x with
    | .tup l => mopt ((cutD l i j).map .tup)
    | _ => mstk) :=
  (pe_slice (sl_slc (T := T)) ha hl hh).weak fun σ H Q ⟨s, I, q⟩ => ⟨s, I, q.bind.mono fun p s1 H1 le J q1 v hv => ⟨s1, J, q1.bind.mono fun i s2 H2 le2 J2 q2 o1 h1 => ⟨s2, J2, q2.bind.mono fun j s3 H3 le3 J3 q3 o2 h2 => by
    obtain ⟨dx, wx, q4⟩ := q3.val J3 (prep_le (le2.trans le3) hv)
    cases dx with
    | tup l =>
      obtain ⟨d, e, q5⟩ := q4.opt
      obtain ⟨l', e1, e2⟩ := Option.map_eq_some_iff.mp e
      subst e2
      exact ⟨σ, s3, l, i, j, l', J3, wx, h1, h2, e1, fun s' H' v l e1 e2 J' r => q5.ret' l e1 e2 J' v r⟩
    | _ => exact (Aft.stk q4).elim⟩⟩⟩
theorem r_slL {lo hi : Option Expr} {p2 : Pos} {ml mh : M D} (ha : SP T W X a pa) (hl : SO T W X lo ml) (hh : SO T W X hi mh) : SF T W X (.Subscript a (.Slice lo hi none p2) pos) (mbind pa fun p => mbind ml fun i => mbind mh fun j => mbind (mval p) fun x => match x with
    | .lst l => mopt (cutD l i j)
    | _ => mstk) :=
  (pe_slice (sl_slcL (T := T)) ha hl hh).weak fun σ H Q ⟨s, I, q⟩ => ⟨s, I, q.bind.mono fun p s1 H1 le J q1 v hv => ⟨s1, J, q1.bind.mono fun i s2 H2 le2 J2 q2 o1 h1 => ⟨s2, J2, q2.bind.mono fun j s3 H3 le3 J3 q3 o2 h2 => by
    obtain ⟨dx, wx, q4⟩ := q3.val J3 (prep_le (le2.trans le3) hv)
    cases dx with
    | lst l =>
      obtain ⟨l', e1, q5⟩ := q4.opt
      exact ⟨σ, s3, l, i, j, l', J3, wx, h1, h2, e1, fun s' H' v l e1 e2 J' r => q5.ret' l e1 e2 J' v r⟩
    | _ => exact (Aft.stk q4).elim⟩⟩⟩
/-! ### built-ins -/
theorem starAny {Y : Env} : ∀ {es : List Expr}, (∀ e ∈ es, ∀ x p, e ≠ .Starred x p) → ∀ pos, (backTo pos (starEach es Y)).any (·.1) = false
  | [], _, pos => rfl
  | e :: es, h, pos => by
    have hs : starEach (e :: es) Y = (false, eval e Y) :: starEach es Y := by
      have := h e List.mem_cons_self
      cases e <;> first | rfl | exact absurd rfl (this _ _)
    rw [hs]
    exact starAny (es := es) (fun e' he => h e' (List.mem_cons_of_mem _ he)) pos
theorem starCons {Y : Env} {e : Expr} {es : List Expr} (h : ∀ x p, e ≠ .Starred x p) : starEach (e :: es) Y = (false, eval e Y) :: starEach es Y := by
  cases e <;> first | rfl | exact absurd rfl (h _ _)
theorem bl_boot (b : Bl) : bootBuiltins (blName b).1 = some (blName b).2 := by cases b <;> decide +kernel
theorem bl_nn (b : Bl) : (blName b).1 ≠ "__name__" ∧ ((blName b).1 == ("__debug__" : Str)) = false := by cases b <;> exact ⟨by decide, by decide⟩
theorem r_bl {bb : Bl} {p : Pos} {es : List Expr} {ml : M (List PV)} (hc : X.calm = true) (hu : X.A.units + 70 < cLine) (nr : bb ≠ .repr) (hg : Gl X (blName bb).1) (hm : X.mg (blName bb).1 = none) (hn : ∀ e ∈ a :: es, ∀ x p, e ≠ .Starred x p) (h : SPs T W X (a :: es) ml) :
    SE T W X (.Call (.Name (blName bb).1 p) (a :: es) [] pos) (mbind ml fun ps => mbind (mvals ps) fun ds => mopt (opBl bb ds)) := by
  have hr := call_bl (T := T) hc hu bb nr
  have hb := bl_boot bb
  obtain ⟨n1, n2⟩ := bl_nn bb
  have h1 := starCons (Y := X.env) (es := es) (hn a List.mem_cons_self)
  have h2 := starAny (Y := X.env) (es := es) (fun e he => hn e (List.mem_cons_of_mem _ he)) pos
  have k : ∀ σ H Q, tE T W X.gp (mbind ml fun ps => mbind (mvals ps) fun ds => mopt (opBl bb ds)) σ H Q → tCB (rBl T X.gp bb) (tPs T W X.gp ml) σ H Q := fun σ H Q ⟨s, I, q⟩ => ⟨s, I, q.bind.mono fun ps s1 H1 le J q1 vs hv => by
    obtain ⟨ds, w, q2⟩ := q1.vals J hv
    obtain ⟨d, e, q3⟩ := q2.opt
    exact ⟨σ, s1, ds, d, J, w, e, fun s' H' v l e1 e2 J' r => q3.ret' l e1 e2 J' v r⟩⟩
  cases hv : (blName bb).2 with
  | builtin id => rw [hv] at hr hb; exact (pe_callB hr hg hm hb h n1 n2 h1 h2).weak k
  | type id => rw [hv] at hr hb; exact (pe_callTy hr hg hm hb h n1 n2 h1 h2).weak k
  | _ => exfalso; cases bb <;> cases hv
theorem r_list {p : Pos} {es : List Expr} {ml : M (List PV)} (hc : X.calm = true) (hg : Gl X "list") (hm : X.mg "list" = none) (hn : ∀ e ∈ a :: es, ∀ x p, e ≠ .Starred x p) (h : SPs T W X (a :: es) ml) :
    SF T W X (.Call (.Name "list" p) (a :: es) [] pos) (mbind ml fun ps => mbind (mvals ps) fun ds => mopt (opFl .list ds)) :=
  (pe_callTy (call_list (T := T) hc) hg hm PyProof.Rows.boot_list h (by decide) (by decide) (starCons (hn a List.mem_cons_self)) (starAny (fun e he => hn e (List.mem_cons_of_mem _ he)) pos)).weak fun σ H Q ⟨s, I, q⟩ => ⟨s, I, q.bind.mono fun ps s1 H1 le J q1 vs hv => by
    obtain ⟨ds, w, q2⟩ := q1.vals J hv
    obtain ⟨d, e, q3⟩ := q2.opt
    exact ⟨σ, s1, ds, d, J, w, e, fun s' H' v l e1 e2 J' r => q3.ret' l e1 e2 J' v r⟩⟩
theorem r_sorted {p : Pos} {es : List Expr} {ml : M (List PV)} (hg : Gl X "sorted") (hm : X.mg "sorted" = none) (hn : ∀ e ∈ a :: es, ∀ x p, e ≠ .Starred x p) (h : SPs T W X (a :: es) ml) :
    SF T W X (.Call (.Name "sorted" p) (a :: es) [] pos) (mbind ml fun ps => mbind (mvals ps) fun ds => mopt (opFl .sorted ds)) :=
  (pe_callB (call_sorted (T := T)) hg hm (by decide +kernel) h (by decide) (by decide) (starCons (hn a List.mem_cons_self)) (starAny (fun e he => hn e (List.mem_cons_of_mem _ he)) pos)).weak fun σ H Q ⟨s, I, q⟩ => ⟨s, I, q.bind.mono fun ps s1 H1 le J q1 vs hv => by
    obtain ⟨ds, w, q2⟩ := q1.vals J hv
    obtain ⟨d, e, q3⟩ := q2.opt
    exact ⟨σ, s1, ds, d, J, w, e, fun s' H' v l e1 e2 J' r => q3.ret' l e1 e2 J' v r⟩⟩
/-! ### tests -/
theorem t_val (ha : SP T W X a pa) (he : ∀ whole, isTrue a X.env whole = (do let v ← whole; standAt a.pos; holding [v] (truthy v))) : SB T W X a (mbind pa fun p => mbind (mval p) fun d => mopt (tru d)) :=
  (pt_truth ha he).weak fun σ H Q ⟨s, I, q⟩ => ⟨s, I, q.bind.mono fun p s1 H1 le J q1 v hv => by
    obtain ⟨d, w, q2⟩ := q1.val J hv
    obtain ⟨k, e, q3⟩ := q2.opt
    exact ⟨k, tru_of J.gh w e, q3.ret J⟩⟩
theorem t_not {mt : M Bool} (ha : SB T W X a mt) : SB T W X (.UnaryOp .Not a pos) (mbind mt fun b => mret (!b)) :=
  (pt_not ha).weak fun σ H Q ⟨s, I, q⟩ => ⟨s, I, q.bind.mono fun b s1 H1 le J q1 => q1.ret J⟩
abbrev SW (T : Tx) (W : WX) (X : Cx) (e : Expr) (m : M Bool) : Prop := PW X e (tB T W X.gp m)
theorem _root_.L2.PW.weak {X : Cx} {e : Expr} {t t' : TT} (h : PW X e t) (k : ∀ σ H Q, t' σ H Q → t σ H Q) : PW X e t' := ⟨fun wh pins s σ H Q I q => h.run wh pins s σ H Q I (k σ H Q q)⟩
theorem w_and1 {mt : M Bool} (ha : SB T W X a mt) : SW T W X (.BoolOp .And [a] pos) (mbind mt fun b => if b then mret true else mret false) :=
  (pw_and1 ha).weak fun σ H Q ⟨s, I, q⟩ => ⟨s, I, q.bind.mono fun b s1 H1 le J q1 => by cases b <;> exact q1.ret J⟩
theorem w_or1 {mt : M Bool} (ha : SB T W X a mt) : SW T W X (.BoolOp .Or [a] pos) (mbind mt fun b => if b then mret true else mret false) :=
  (pw_or1 ha).weak fun σ H Q ⟨s, I, q⟩ => ⟨s, I, q.bind.mono fun b s1 H1 le J q1 => by cases b <;> exact q1.ret J⟩
theorem w_and {rest : List Expr} {mt mt' : M Bool} (ha : SB T W X a mt) (hb : SW T W X (.BoolOp .And (b :: rest) pos) mt') : SW T W X (.BoolOp .And (a :: b :: rest) pos) (mbind mt fun b => if b then mt' else mret false) :=
  (pw_and ha hb).weak fun σ H Q ⟨s, I, q⟩ => ⟨s, I, q.bind.mono fun b s1 H1 le J q1 => by
    cases b with
    | true => exact ⟨s1, J, q1⟩
    | false => exact q1.ret J⟩
theorem w_or {rest : List Expr} {mt mt' : M Bool} (ha : SB T W X a mt) (hb : SW T W X (.BoolOp .Or (b :: rest) pos) mt') : SW T W X (.BoolOp .Or (a :: b :: rest) pos) (mbind mt fun b => if b then mret true else mt') :=
  (pw_or ha hb).weak fun σ H Q ⟨s, I, q⟩ => ⟨s, I, q.bind.mono fun b s1 H1 le J q1 => by
    cases b with
    | true => exact q1.ret J
    | false => exact ⟨s1, J, q1⟩⟩
end
end MP

namespace MP
open PySem PySem.Spec L2
section
variable {T : Tx} {W : WX} {X : Cx} {Γ : Gam} {cl : Calls} {e a b : Expr} {pos : Pos} {ma mb : M D} {pa pb pc : M PV}
/-! ### calls of defs -/
theorem calls_plain {s : Sg} {x : Str} {ds : List D} {σ : L2.St} {Q : VK} (q : Aft X.gp T W (mbind (mret []) fun kds => lift0 (cl.f x ds [] kds)) s σ fun d s' H' => ∀ v, rep X.gp s'.μ s'.G d v → Q v H') :
    Aft X.gp T W (lift0 (cl.f x ds [] [])) s σ fun d s' H' => ∀ v, rep X.gp s'.μ s'.G d v → Q v H' := q
theorem r_call {x : Str} {f : Addr} {p : Pos} {es : List Expr} {ml : M (List D)} (hg : Gl X x) (hm : X.mg x = some (.ref f)) (hk : PySem.W.keepIn X.K (.ref f) = true) {ok : Str → Bool} (hok : ok x = true) (hC : CallsR T X W cl ok) (hd : (x == ("__debug__" : Str)) = false)
    (hn : ∀ e ∈ a :: es, ∀ x p, e ≠ .Starred x p) (h : SA T W X (a :: es) ml) :
    SE T W X (.Call (.Name x p) (a :: es) [] pos) (mbind ml fun ds => mbind (mret []) fun kds => lift0 (cl.f x ds [] kds)) := by
  refine ⟨fun pins st σ H Q I ⟨s, A, q⟩ => ?_⟩
  refine PySem.wpAny_Call_Name_kw (ld_glob I hg hm ?_ hd)
  refine PySem.W.callWith_K (h₀ := X.base) I.ok.mod.kin hk (thn (h.run pos pins st σ H (fun vs H1 => ∃ s1 ds, At X.gp T s1 σ H1 ∧ reps X.gp s1.μ s1.G ds vs ∧ Aft X.gp T W (lift0 (cl.f x ds [] [])) s1 σ fun d s' H' => ∀ v, rep X.gp s'.μ s'.G d v → Q v H') I ⟨s, A, q.bind.mono fun ds s1 H1 le J q1 vs hv => ⟨s1, ds, J, hv, q1⟩⟩)
    fun us s1 ⟨vs, H1, I1, r, s2, ds, J, hv, q2⟩ => ⟨I1.kIn, ?_⟩) (starCons (hn a List.mem_cons_self)) (starAny (fun e he => hn e (List.mem_cons_of_mem _ he)) pos)
  exact hC x f pins s1 σ H1 ds [] [] us [] vs [] s2 Q hok hm I1 r .nil rfl J hv rfl q2
theorem r_call0 {x : Str} {f : Addr} {p : Pos} (hg : Gl X x) (hm : X.mg x = some (.ref f)) (hk : PySem.W.keepIn X.K (.ref f) = true) {ok : Str → Bool} (hok : ok x = true) (hC : CallsR T X W cl ok) (hd : (x == ("__debug__" : Str)) = false) :
    SE T W X (.Call (.Name x p) [] [] pos) (mbind (mret []) fun ds => mbind (mret []) fun kds => lift0 (cl.f x ds [] kds)) := by
  refine ⟨fun pins st σ H Q I ⟨s, A, q⟩ => ?_⟩
  refine PySem.wpAny_Call_Name_kw (ld_glob I hg hm ?_ hd)
  exact PySem.W.callWith_K0 I.kIn hk (hC x f pins st σ H [] [] [] [] [] [] [] s Q hok hm I .nil .nil rfl A rfl rfl q)
/-! ### keywords -/
abbrev SK (T : Tx) (W : WX) (X : Cx) (kws : List Keyword) (m : M (List D)) : Prop := PK X kws (tA T W X.gp m)
theorem _root_.L2.PK.weak {X : Cx} {e : List Keyword} {t t' : TA} (h : PK X e t) (k : ∀ σ H Q, t' σ H Q → t σ H Q) : PK X e t' := ⟨fun pos pins s σ H Q I q => h.run pos pins s σ H Q I (k σ H Q q)⟩
theorem k_nil : SK T W X [] (mret []) := pk_nil.weak fun σ H Q ⟨s, I, q⟩ => q.ret I [] rfl
theorem k_cons {nm : Option Str} {kpos : Pos} {kws : List Keyword} {ml : M (List D)} (ha : SE T W X a ma) (hr : SK T W X kws ml) : SK T W X (⟨nm, a, kpos⟩ :: kws) (mbind ma fun d => mbind ml fun l => mret (d :: l)) :=
  (pk_cons ha hr).weak fun σ H Q ⟨s, I, q⟩ => ⟨s, I, q.bind.mono fun d s1 H1 le J q1 v hv => ⟨s1, J, q1.bind.mono fun l s2 H2 le2 J2 q2 vs hvs => q2.ret J2 _ ⟨v, vs, rfl, rep_le le2 hv, hvs⟩⟩⟩
theorem kw_facts {Y : Env} : ∀ {kws : List Keyword} {ks : List Str}, kws.map (·.arg) = ks.map some → ∀ pos, (backToKw pos (keywordEach kws Y)).all (·.1.isSome) = true ∧ (backToKw pos (keywordEach kws Y)).filterMap (·.1) = ks ∧ (backToKw pos (keywordEach kws Y)).any (·.1.isNone) = false
  | [], ks, h, pos => by
    cases ks with
    | nil => exact ⟨rfl, rfl, rfl⟩
    | cons k ks => cases h
  | ⟨n, v, p⟩ :: kws, ks, h, pos => by
    cases ks with
    | nil => cases h
    | cons k ks =>
      have h1 : n = some k ∧ kws.map (·.arg) = ks.map some := by simpa using h
      obtain ⟨rfl, h2⟩ := h1
      obtain ⟨q1, q2, q3⟩ := kw_facts (Y := Y) h2 pos
      exact ⟨q1, congrArg (k :: ·) q2, q3⟩
theorem r_callK {x : Str} {f : Addr} {p : Pos} {es : List Expr} {ml mk : M (List D)} {kws : List Keyword} {ks : List Str} (hg : Gl X x) (hm : X.mg x = some (.ref f)) (hk : PySem.W.keepIn X.K (.ref f) = true) {ok : Str → Bool} (hok : ok x = true) (hC : CallsR T X W cl ok) (hd : (x == ("__debug__" : Str)) = false)
    (hn : ∀ e ∈ a :: es, ∀ x p, e ≠ .Starred x p) (h : SA T W X (a :: es) ml) (hks : kws.map (·.arg) = ks.map some) (hkw : SK T W X kws mk) (hl : ∀ ρ S l ρ' S', mk ρ S = .ok l ρ' S' → l.length = ks.length) :
    SE T W X (.Call (.Name x p) (a :: es) kws pos) (mbind ml fun ds => mbind mk fun kds => lift0 (cl.f x ds ks kds)) := by
  refine ⟨fun pins st σ H Q I ⟨s, A, q⟩ => ?_⟩
  obtain ⟨q1, q2, q3⟩ := kw_facts (Y := X.env) hks pos
  refine PySem.wpAny_Call_Name_kw (ld_glob I hg hm ?_ hd)
  have hs := starCons (Y := X.env) (es := es) (hn a List.mem_cons_self)
  have hs2 := starAny (Y := X.env) (es := es) (fun e he => hn e (List.mem_cons_of_mem _ he)) pos
  refine PySem.W.callWith_KW (h₀ := X.base) I.ok.mod.kin hk q1 (thn (h.run pos pins st σ H (fun vs H1 => ∃ s1 ds, At X.gp T s1 σ H1 ∧ reps X.gp s1.μ s1.G ds vs ∧ Aft X.gp T W (mbind mk fun kds => lift0 (cl.f x ds ks kds)) s1 σ fun d s' H' => ∀ v, rep X.gp s'.μ s'.G d v → Q v H') I ⟨s, A, q.bind.mono fun ds s1 H1 le J q1 vs hv => ⟨s1, ds, J, hv, q1⟩⟩)
    fun us s1 ⟨vs, H1, I1, r, s2, ds, J, hv, q4⟩ => ?_) (by rw [q3, hs]; show ((false || (backTo pos (starEach es X.env)).any (·.1)) || false) = false; rw [hs2]; rfl) hs
  refine thn (hkw.run pos pins s1 σ H1 (fun zs H2 => ∃ s3 kds, At X.gp T s3 σ H2 ∧ Le s2 s3 ∧ reps X.gp s3.μ s3.G kds zs ∧ kds.length = ks.length ∧ Aft X.gp T W (lift0 (cl.f x ds ks kds)) s3 σ fun d s' H' => ∀ v, rep X.gp s'.μ s'.G d v → Q v H') I1 ⟨s2, J, ?_⟩) fun ws s5 ⟨zs, H2, I2, rz, s3, kds, J3, le3, hz, lz, q5⟩ => ⟨I2.kIn, ?_⟩
  · have q6 := q4.bind
    unfold Aft at q6 ⊢
    cases em : mk s2.ρ s2.S with
    | ok l ρ' S' =>
      rw [em] at q6
      exact fun s' H' le e1 e2 J' vs hvs => ⟨s', l, J', le, hvs, hl _ _ _ _ _ em, q6 s' H' le e1 e2 J'⟩
    | exc c ρ' S' => rw [em] at q6; exact q6
    | stk => rw [em] at q6; exact q6
  · rw [q2]
    exact hC x f pins s5 σ H2 ds kds ks us ws vs zs s3 Q hok hm I2 r rz lz J3 (reps_le le3 hv) hz q5
/-! ### calls of a value -/
/-- a call of an inner def that was handed in -/
def CallsC (T : Tx) (X : Cx) (W : WX) (cl : Calls) : Prop :=
  ∀ (k : Nat) (caps : List D) (f : Addr) (pins : List (Addr × Obj)) (st : Shared) (σ : L2.St) (H : Hp) (ds : List D) (us : List Value) (vs : List V) (s : Sg) (Q : VK),
    Inv X pins σ H st → Vals vs us → At X.gp T s σ H → CloOk X.gp T.nfs s.μ s.G k caps f → reps X.gp s.μ s.G ds vs →
    Aft X.gp T W (lift0 (cl.c k caps ds)) s σ (fun d s' H' => ∀ v, rep X.gp s'.μ s'.G d v → Q v H') →
    wpAny (model X.prog X.w) X.A (call (.ref f) us) (EP X pins σ Q) X.xe st
theorem CloOk.fnAt {pins : List (Addr × Obj)} {st : Shared} {σ : L2.St} {H : Hp} {s : Sg} {k : Nat} {caps : List D} {f : Addr} (h : CloOk X.gp T.nfs s.μ s.G k caps f) (A : At X.gp T s σ H) (I : Inv X pins σ H st) : PySem.W.FnAt f st.heap := by
  obtain ⟨⟨d, cl, c', h1, h2, _⟩⟩ := h
  exact NdefX.fnAt_of I (A.gh _ _ h2)
theorem r_callv {i : Nat} {y : Str} {p : Pos} {es : List Expr} {ml : M (List D)} (hN : X.N[i]? = some y) (hv : Vis X.env.scope y) (hd : (y == ("__debug__" : Str)) = false) (hcd : (y == ("__classdict__" : Str)) = false)
    {ok : Str → Bool} (hok : ∀ x, ok x = true) (hC : CallsR T X W cl ok) (hC2 : CallsC T X W cl) (hn : ∀ e ∈ a :: es, ∀ x p, e ≠ .Starred x p) (h : SA T W X (a :: es) ml) :
    SE T W X (.Call (.Name y p) (a :: es) [] pos) (fun ρ S => match ρ[i]? with
    | some (.val (.fn x)) => (mbind ml fun ds => lift0 (cl.f x ds [] [])) ρ S
    | some (.clo k caps) => (mbind ml fun ds => lift0 (cl.c k caps ds)) ρ S
    | _ => .stk) := by
  refine ⟨fun pins st σ H Q I ⟨s, A, q⟩ => ?_⟩
  have stuck : ∀ {sl : Slot}, s.ρ[i]? = some sl → (∀ x, sl ≠ .val (.fn x)) → (∀ k caps, sl ≠ .clo k caps) → False := fun {sl} es n1 n2 => by
    unfold Aft at q
    simp only [es] at q
    cases sl with
    | val d => cases d <;> first | exact n1 _ rfl | exact q
    | clo k caps => exact n2 _ _ rfl
    | _ => exact q
  cases es0 : s.ρ[i]? with
  | none =>
    unfold Aft at q
    simp only [es0] at q
  | some sl =>
    have hs := A.slots i sl es0
    by_cases h1 : ∃ x, sl = .val (.fn x)
    · obtain ⟨x, rfl⟩ := h1
      obtain ⟨v, e1, f, e2, hm, hkeep⟩ := hs
      subst e2
      have q1 : Aft X.gp T W (mbind ml fun ds => lift0 (cl.f x ds [] [])) s σ fun d s' H' => ∀ v, rep X.gp s'.μ s'.G d v → Q v H' := by
        unfold Aft at q ⊢
        simp only [es0] at q
        exact q
      refine PySem.wpAny_Call_Name_kw (thn ((pe_var (pos := p) hN hv hd hcd).run pins st σ H (fun v H1 => v = .ref f ∧ H1 = H) I ⟨_, e1, rfl, rfl⟩) fun u st1 ⟨v, H1, I1, r1, ev, eH⟩ => ?_)
      subst ev eH
      cases r1
      refine PySem.W.callWith_K (h₀ := X.base) I1.ok.mod.kin hkeep (thn (h.run pos pins st1 σ H1 (fun vs H2 => ∃ s2 ds, At X.gp T s2 σ H2 ∧ reps X.gp s2.μ s2.G ds vs ∧ Aft X.gp T W (lift0 (cl.f x ds [] [])) s2 σ fun d s' H' => ∀ v, rep X.gp s'.μ s'.G d v → Q v H') I1 ⟨s, A, q1.bind.mono fun ds s2 H2 le J q2 vs hv => ⟨s2, ds, J, hv, q2⟩⟩)
        fun us s3 ⟨vs, H2, I2, r, s2, ds, J, hv, q2⟩ => ⟨I2.kIn, ?_⟩) (starCons (hn a List.mem_cons_self)) (starAny (fun e he => hn e (List.mem_cons_of_mem _ he)) pos)
      exact hC x f pins s3 σ H2 ds [] [] us [] vs [] s2 Q (hok x) hm I2 r .nil rfl J hv rfl q2
    · by_cases h2 : ∃ k caps, sl = .clo k caps
      · obtain ⟨k, caps, rfl⟩ := h2
        obtain ⟨v, e1, f, e2, co⟩ := hs
        subst e2
        have q1 : Aft X.gp T W (mbind ml fun ds => lift0 (cl.c k caps ds)) s σ fun d s' H' => ∀ v, rep X.gp s'.μ s'.G d v → Q v H' := by
          unfold Aft at q ⊢
          simp only [es0] at q
          exact q
        refine PySem.wpAny_Call_Name_kw (thn ((pe_var (pos := p) hN hv hd hcd).run pins st σ H (fun v H1 => v = .ref f ∧ H1 = H) I ⟨_, e1, rfl, rfl⟩) fun u st1 ⟨v, H1, I1, r1, ev, eH⟩ => ?_)
        subst ev eH
        cases r1
        refine PySem.W.callWith_F (first := []) (co.fnAt A I1) (thn (h.run pos pins st1 σ H1 (fun vs H2 => ∃ s2 ds, Le s s2 ∧ At X.gp T s2 σ H2 ∧ reps X.gp s2.μ s2.G ds vs ∧ Aft X.gp T W (lift0 (cl.c k caps ds)) s2 σ fun d s' H' => ∀ v, rep X.gp s'.μ s'.G d v → Q v H') I1 ⟨s, A, q1.bind.mono fun ds s2 H2 le J q2 vs hv => ⟨s2, ds, le, J, hv, q2⟩⟩)
          fun us s3 ⟨vs, H2, I2, r, s2, ds, le, J, hv, q2⟩ => ?_) (starCons (hn a List.mem_cons_self)) (starAny (fun e he => hn e (List.mem_cons_of_mem _ he)) pos)
        have co2 := CloOk.mono le.G le.μ co
        exact ⟨co2.fnAt J I2, hC2 k caps f pins s3 σ H2 ds us vs s2 Q I2 r J co2 hv q2⟩
      · exact (stuck es0 (fun x e => h1 ⟨x, e⟩) fun k caps e => h2 ⟨k, caps, e⟩).elim
/-! ### methods of texts -/
theorem noAttrB {o : Expr} {m : Str} {Y : Env} (h : ∀ f as ks p, o ≠ .Call f as ks p) : attributeBase o m Y (eval o Y) = eval o Y := by
  cases o <;> first | rfl | exact absurd rfl (h _ _ _ _)
theorem few_of {Y : Env} {es : List Expr} (hn : ∀ e ∈ a :: es, ∀ x p, e ≠ .Starred x p) (hl : es.length < 20) : ((backTo pos (starEach (a :: es) Y)).all (fun x => !x.1) && (backToKw pos (keywordEach [] Y)).all (fun x => x.1.isSome)
      && decide ((a :: es).length + ([] : List Keyword).length + (if ([] : List Keyword).isEmpty then 0 else 1) < 30)) = true := by
  have h1 : (backTo pos (starEach (a :: es) Y)).all (fun x => !x.1) = true := by
    have := starAny (Y := Y) (es := a :: es) hn pos
    rw [List.any_eq_false] at this
    rw [List.all_eq_true]
    intro x hx
    have := this x hx
    simpa using this
  rw [h1]
  show (true && true && decide (es.length + 1 + 0 + 0 < 30)) = true
  rw [decide_eq_true (by omega)]
  rfl
def mtName : Mt → Str × String
  | .join => ("join", "str.join")
def mtFName : MtF → Str × String
  | .split => ("split", "str.split")
theorem r_mt {m : Mt} {es : List Expr} {ml : M (List PV)} {apos : Pos} (hn : ∀ e ∈ b :: es, ∀ x p, e ≠ .Starred x p) (hl : es.length < 20) (hb : ∀ f as ks p, a ≠ .Call f as ks p) (hline : (apos.endLine == pos.line) = true) (ha : SE T W X a ma) (h : SPs T W X (b :: es) ml) :
    SE T W X (.Call (.Attribute a (mtName m).1 apos) (b :: es) [] pos) (mbind ma fun x => match x with
      | .str a => mbind ml fun ps => mbind (mvals ps) fun ds => mopt (opMt m (.str a) ds)
      | _ => mstk) := by
  have k : ∀ σ H Q, tE T W X.gp (mbind ma fun x => match x with
      | .str a => mbind ml fun ps => mbind (mvals ps) fun ds => mopt (opMt m (.str a) ds)
      | _ => mstk) σ H Q → tBM X.K "str" (rMt T X.gp m) (tE T W X.gp ma) (tPs T W X.gp ml) σ H Q := fun σ H Q ⟨s, I, q⟩ => ⟨s, I, q.bind.mono fun d s1 H1 le J q1 v hv => by
    cases d with
    | str z =>
      have e : v = .str z := hv
      subst e
      refine ⟨rfl, s1, J, q1.bind.mono fun ps s2 H2 le2 J2 q2 vs hvs => ?_⟩
      obtain ⟨ds, w, q3⟩ := q2.vals J2 hvs
      obtain ⟨d, e, q4⟩ := q3.opt
      exact ⟨σ, s2, .str z, ds, d, J2, .inl rfl, w, e, fun s' H' v l e1 e2 J' r => q4.ret' l e1 e2 J' v r⟩
    | _ => exact (Aft.stk q1).elim⟩
  cases m with
  | join => exact (pe_bm PySem.F.plainAttrs_str PySem.F.slot_str_join PySem.F.type_str_join (mt_join' (T := T)) ha h (noAttrB hb) (few_of hn hl) hline (starCons (hn b List.mem_cons_self)) (starAny (fun e he => hn e (List.mem_cons_of_mem _ he)) pos)).weak k
theorem r_mtF {m : MtF} {es : List Expr} {ml : M (List PV)} {apos : Pos} (hn : ∀ e ∈ b :: es, ∀ x p, e ≠ .Starred x p) (hl : es.length < 20) (hb : ∀ f as ks p, a ≠ .Call f as ks p) (hline : (apos.endLine == pos.line) = true) (ha : SE T W X a ma) (h : SPs T W X (b :: es) ml) :
    SF T W X (.Call (.Attribute a (mtFName m).1 apos) (b :: es) [] pos) (mbind ma fun x => match x with
      | .str a => mbind ml fun ps => mbind (mvals ps) fun ds => mopt (opMtF m (.str a) ds)
      | _ => mstk) := by
  have k : ∀ σ H Q, tF T W X.gp (mbind ma fun x => match x with
      | .str a => mbind ml fun ps => mbind (mvals ps) fun ds => mopt (opMtF m (.str a) ds)
      | _ => mstk) σ H Q → tBM X.K "str" (rMtF T X.gp m) (tE T W X.gp ma) (tPs T W X.gp ml) σ H Q := fun σ H Q ⟨s, I, q⟩ => ⟨s, I, q.bind.mono fun d s1 H1 le J q1 v hv => by
    cases d with
    | str z =>
      have e : v = .str z := hv
      subst e
      refine ⟨rfl, s1, J, q1.bind.mono fun ps s2 H2 le2 J2 q2 vs hvs => ?_⟩
      obtain ⟨ds, w, q3⟩ := q2.vals J2 hvs
      obtain ⟨d, e, q4⟩ := q3.opt
      exact ⟨σ, s2, .str z, ds, d, J2, .inl rfl, w, e, fun s' H' v l e1 e2 J' r => q4.ret' l e1 e2 J' v r⟩
    | _ => exact (Aft.stk q1).elim⟩
  cases m with
  | split => exact (pe_bm PySem.F.plainAttrs_str PySem.F.slot_str_split PySem.F.type_str_split (mt_split' (T := T)) ha h (noAttrB hb) (few_of hn hl) hline (starCons (hn b List.mem_cons_self)) (starAny (fun e he => hn e (List.mem_cons_of_mem _ he)) pos)).weak k
/-! ### f-strings -/
theorem r_fmt (ha : SE T W X a ma) : SE T W X (.FormattedValue a (-1) none pos) (mbind ma fun d => match d with
    | .str y => if okLen y.length then mret (.str y) else mstk
    | .int i => if decide (i.natAbs.log2 < 1920) then mret (.str (toString i)) else mstk
    | _ => mstk) := (pe_fmt ha).weak fun σ H Q ⟨s, I, q⟩ => ⟨s, I, q.bind.mono fun d s1 H1 le J q1 v hv => by
  cases d with
  | str y =>
    dsimp only at q1
    cases hl : okLen y.length with
    | false => rw [hl] at q1; exact (Aft.stk q1).elim
    | true => rw [hl] at q1; exact .inl ⟨y, hv, okl hl, q1.ret J _ rfl⟩
  | int i =>
    dsimp only at q1
    by_cases hl : i.natAbs.log2 < 1920
    · rw [decide_eq_true hl] at q1; exact .inr ⟨i, hv, hl, q1.ret J _ rfl⟩
    · rw [decide_eq_false hl] at q1; exact (Aft.stk q1).elim
  | _ => exact (Aft.stk q1).elim⟩
/-- the parts of an f-string -/
inductive SJ (T : Tx) (W : WX) (X : Cx) : List Expr → (Str → M Str) → Prop where
  | nil : SJ T W X [] mret
  | cons {e : Expr} {es : List Expr} {ma : M D} {mj : Str → M Str} (h : SE T W X e ma) (r : SJ T W X es mj) : SJ T W X (e :: es) (fun acc => mbind ma fun d => match d with
    | .str y => if okLen (acc ++ y).length then mj (acc ++ y) else mstk
    | _ => mstk)
theorem sj_pj {es : List Expr} {mj : Str → M Str} (h : SJ T W X es mj) : ∃ ts, PJ X es ts ∧ ∀ (acc : Str) (σ : L2.St) (H : Hp) (Q : Str → Hp → Prop) (s : Sg), At X.gp T s σ H →
    Aft X.gp T W (mj acc) s σ (fun y s' H' => Q y H') → tJs ts acc σ H Q := by
  induction h with
  | nil => exact ⟨[], .nil, fun acc σ H Q s I q => q.ret I⟩
  | @cons e es ma mj h r ih =>
    obtain ⟨ts, hp, k⟩ := ih
    refine ⟨_ :: ts, .cons h hp, fun acc σ H Q s I q => ⟨s, I, ?_⟩⟩
    refine q.bind.mono fun d s1 H1 le J q1 v hv => ?_
    cases d with
    | str y =>
      dsimp only at q1
      cases hl : okLen (acc ++ y).length with
      | false => rw [hl] at q1; exact (Aft.stk q1).elim
      | true => rw [hl] at q1; exact ⟨y, hv, okl hl, k (acc ++ y) σ H1 Q s1 J q1⟩
    | _ => exact (Aft.stk q1).elim
theorem r_fs {v1 v2 : Expr} {rest : List Expr} {mj : Str → M Str} (h : SJ T W X (v1 :: v2 :: rest) mj) : SE T W X (.JoinedStr (v1 :: v2 :: rest) pos) (mbind (mj Str.empty) fun y => mret (.str y)) := by
  obtain ⟨ts, hp, k⟩ := sj_pj h
  exact (pe_joined hp).weak fun σ H Q ⟨s, I, q⟩ => k _ _ _ _ s I (q.bind.mono fun y s1 H1 le J q1 => q1.ret J _ rfl)
/-! ### isinstance -/
theorem isi_ty {g : Gp} {s : Sg} {H : Hp} {d : D} {v : V} {t : String} (hs : Sub s.G H) (h : wrep g s H d v) (e : tyOf d = some t) : TyX g.K H v (.type t) := by
  cases d with
  | non => cases e; rw [wnon h]; exact .base .non
  | bl b => cases e; rw [wbl h]; exact .base (.bl b)
  | int b => cases e; rw [wint h]; exact .base (.int b)
  | str b => cases e; rw [wstr h]; exact .base (.str b)
  | tup l =>
    cases e
    obtain ⟨a, vs, rfl, q, r⟩ := wtup h
    rcases q with (q | ⟨o, q⟩) | ⟨o, its, n, q, hc, _⟩
    · exact .base (.tup (hs _ _ q))
    · exact .fTuple (hs _ _ q)
    · exact .kTuple q hc
  | lst l =>
    cases e
    obtain ⟨a, vs, rfl, q, r⟩ := h.lst hs
    exact .base (.lst q)
  | dct t ks vs =>
    cases t with
    | false =>
      cases e
      obtain ⟨a, rfl, kvs, q | ⟨o, q⟩, _⟩ := h.dct hs
      · exact .base (.dK q)
      · exact .fDict q
    | true => cases e
  | _ => cases e
def tyName : Ty → Option String
  | .int => some "int"
  | .bool => some "bool"
  | .str => some "str"
  | .tuple => some "tuple"
  | .list => some "list"
  | .cls _ => none
theorem isi_kit {d : D} {ty : Ty} {b : Bool} (h : isiD d ty = some b) : ∃ t u, tyOf d = some t ∧ tyName ty = some u ∧ kitB t u = some b := by
  cases d <;> (try (rename_i t _ _; cases t)) <;> cases ty <;> first
    | (cases h; done)
    | (cases h; exact ⟨_, _, rfl, rfl, by decide +kernel⟩)
theorem tyV_boot {ty : Ty} {u : String} (h : tyName ty = some u) : bootBuiltins u = some (.type u) := by
  cases ty <;> cases h <;> first
    | exact PyProof.Rows.boot_int
    | exact PyProof.Rows.boot_bool
    | exact PyProof.Rows.boot_str
    | exact PyProof.Rows.boot_tuple
    | exact PyProof.Rows.boot_list
theorem ty_nn {ty : Ty} {u : String} (h : tyName ty = some u) : (u : Str) ≠ "__name__" ∧ ((u : Str) == ("__debug__" : Str)) = false := by
  cases ty <;> cases h <;> exact ⟨by decide, by decide⟩
/-- isinstance(e, T) -/
theorem r_isi {ty : Ty} {u : String} {p p2 : Pos} (hg : Gl X "isinstance") (hm : X.mg "isinstance" = none) (hu : tyName ty = some u) (hg2 : Gl X u) (hm2 : X.mg u = none) (hn : ∀ x p, a ≠ .Starred x p) (ha : SP T W X a pa) :
    SE T W X (.Call (.Name "isinstance" p) [a, .Name u p2] [] pos) (mbind pa fun p => mbind (mval p) fun d => mopt ((isiAny d [ty]).map .bl)) := by
  obtain ⟨n1, n2⟩ := ty_nn hu
  have hT : PE X (.Name u p2) (tC (.ty u)) := pe_bltn hg2 hm2 (tyV_boot hu) rfl n1 n2
  refine (pe_callB call_isi hg hm PyProof.Rows.boot_isinstance (pa_cons ha (pa_cons hT pa_nil) (starCons hn)) (by decide) (by decide) (starCons hn) rfl).weak fun σ H Q ⟨s, I, q⟩ => ⟨s, I, q.bind.mono fun p s1 H1 le J q1 v hv => ?_⟩
  obtain ⟨d, w, q2⟩ := q1.val J hv
  obtain ⟨k, e, q3⟩ := q2.opt
  obtain ⟨b, e1, e2⟩ := Option.map_eq_some_iff.mp e
  subst e2
  unfold isiAny at e1
  obtain ⟨b', e3, e4⟩ := Option.bind_eq_some_iff.mp e1
  have eb : b = b' := by
    cases b' with
    | true => cases e4; rfl
    | false => cases e4; rfl
  subst eb
  obtain ⟨t, u', h1, h2, h3⟩ := isi_kit e3
  rw [hu] at h2
  cases h2
  exact ⟨v, .ty u, .type t, .type u, b, rfl, .ty u, isi_ty J.gh w h1, kit_ty h3, q3.ret J _ rfl⟩
theorem isi_any {K : PySem.W.Frag} {d : D} {t : String} (ht : tyOf d = some t) : ∀ {ts : List Ty} {us : List String} {b : Bool}, isiAny d ts = some b → ts.map tyName = us.map some → PySem.W.kitAny K (.type t) (us.map Value.type) = some b
  | [], us, b, h, hu => by
    cases us with
    | nil => cases h; rfl
    | cons _ _ => cases hu
  | ty :: ts, us, b, h, hu => by
    cases us with
    | nil => cases hu
    | cons u us =>
      have hu' : tyName ty = some u ∧ ts.map tyName = us.map some := by simpa using hu
      unfold isiAny at h
      obtain ⟨b', e1, e2⟩ := Option.bind_eq_some_iff.mp h
      obtain ⟨t', u', h1, h2, h3⟩ := isi_kit e1
      rw [ht] at h1; cases h1
      rw [hu'.1] at h2; cases h2
      refine kitAny_cons (kit_ty h3) (fun z => ?_) fun z => ?_
      · subst z; exact isi_any ht e2 hu'.2
      · subst z; cases e2; rfl
/-- the names of built-in types, as a tuple's items -/
inductive TyEs (X : Cx) : List Expr → List String → Prop where
  | nil : TyEs X [] []
  | cons {u : String} {p : Pos} {es : List Expr} {us : List String} (h : PE X (.Name u p) (tC (.ty u))) (r : TyEs X es us) : TyEs X (.Name u p :: es) (u :: us)
theorem tyEs_pa {es : List Expr} {us : List String} (h : TyEs X es us) : PA X es fun σ H Q => Q (us.map V.ty) H := by
  induction h with
  | nil => exact pa_nil
  | cons h r ih => exact pa_cons h ih
theorem ty_of_isi {d : D} {ty : Ty} {ts : List Ty} {b : Bool} (h : isiAny d (ty :: ts) = some b) : ∃ t, tyOf d = some t := by
  unfold isiAny at h
  obtain ⟨b', e1, e2⟩ := Option.bind_eq_some_iff.mp h
  obtain ⟨t', u', h1, h2, h3⟩ := isi_kit e1
  exact ⟨t', h1⟩
theorem clsVs : ∀ us : List String, Paired ClsV (us.map V.ty) (us.map Value.type)
  | [] => .nil
  | u :: us => .cons (.ty u) (clsVs us)
theorem r_isiT {ty : Ty} {ts : List Ty} {us : List String} {p p2 : Pos} {k2 : Nat} {es : List Expr} (hg : Gl X "isinstance") (hm : X.mg "isinstance" = none) (hu : (ty :: ts).map tyName = us.map some) (hes : TyEs X es us) (hl : us.length ≤ 100) (hn : ∀ x p, a ≠ .Starred x p) (ha : SP T W X a pa) :
    SE T W X (.Call (.Name "isinstance" p) [a, .Tuple es k2 p2] [] pos) (mbind pa fun p => mbind (mval p) fun d => mopt ((isiAny d (ty :: ts)).map .bl)) := by
  refine (pe_callB call_isiT hg hm PyProof.Rows.boot_isinstance (pa_cons ha (pa_cons (pe_tup (tyEs_pa hes)) pa_nil) (starCons hn)) (by decide) (by decide) (starCons hn) rfl).weak fun σ H Q ⟨s, I, q⟩ => ⟨s, I, q.bind.mono fun p s1 H1 le J q1 v hv => ?_⟩
  obtain ⟨d, w, q2⟩ := q1.val J hv
  obtain ⟨k, e, q3⟩ := q2.opt
  obtain ⟨b, e1, e2⟩ := Option.map_eq_some_iff.mp e
  subst e2
  obtain ⟨t, ht⟩ := ty_of_isi e1
  refine ⟨by rw [List.length_map, sizeLine_eq]; omega, fun tp htp => ?_⟩
  have J2 := J.fresh (o := .tup (us.map V.ty)) htp
  have w2 : wrep X.gp s1 (upd H1 tp (.tup (us.map V.ty))) d v := by
    rcases w with w | ⟨l, a, vs, z1, z2, z3, z4⟩ | ⟨t, ks, vs, a, z1, z2, z3⟩
    · exact .inl w
    · exact .inr (.inl ⟨l, a, vs, z1, z2, Sub.add htp _ _ z3, z4⟩)
    · obtain ⟨u, q, _⟩ := mrepL_some z3
      exact .inr (.inr ⟨t, ks, vs, a, z1, z2, mrepL_mono (Sub.refl _) (fun _ _ h => h) ((Sub.add htp _ _ q).trans q.symm) z3⟩)
  exact ⟨v, tp, us.map V.ty, .type t, us.map Value.type, b, rfl, upd_same, clsVs us, isi_ty J2.gh w2 ht, isi_any ht e1 hu, q3.ret J2 _ rfl⟩
end
end MP

namespace MP
open PySem PySem.Spec L2
/-- a later place of the same block; what is being built there may differ -/
structure Lp (s s' : Sg) : Prop where
  H0 : s'.B.H0 = s.B.H0
  G0 : s'.B.G0 = s.B.G0
  μ0 : s'.B.μ0 = s.B.μ0
  G : Sub s.G s'.G
  μ : ∀ (n : Nat) (a : Addr), s.μ[n]? = some a → s'.μ[n]? = some a
theorem Lp.refl (s : Sg) : Lp s s := ⟨rfl, rfl, rfl, Sub.refl _, fun _ _ h => h⟩
theorem Lp.trans {s s1 s2 : Sg} (a : Lp s s1) (b : Lp s1 s2) : Lp s s2 := ⟨b.H0.trans a.H0, b.G0.trans a.G0, b.μ0.trans a.μ0, a.G.trans b.G, fun n x h => b.μ n x (a.μ n x h)⟩
theorem Le.lp {s s' : Sg} (h : Le s s') : Lp s s' := ⟨by rw [h.B], by rw [h.B], by rw [h.B], h.G, h.μ⟩
theorem rep_lp {g : Gp} {s s' : Sg} (l : Lp s s') {d : D} {v : V} (h : rep g s.μ s.G d v) : rep g s'.μ s'.G d v := rep_mono l.G l.μ d v h
theorem reps_lp {g : Gp} {s s' : Sg} (l : Lp s s') {d : List D} {v : List V} (h : reps g s.μ s.G d v) : reps g s'.μ s'.G d v := reps_mono l.G l.μ d v h
/-- J walks the list l from the place s on -/
structure Wk (g : Gp) (T : Tx) (J : L2.It) (l : List D) (s : Sg) : Prop where
  go : ∀ i s' σ H, i < l.length → Lp s s' → At g T s' σ H → J.go i H
  stop : ∀ s' σ H, Lp s s' → At g T s' σ H → J.stop l.length H
  yld : ∀ i s' σ H x H', i < l.length → Lp s s' → At g T s' σ H → J.yld i H x H' → ∃ d s'', l[i]? = some d ∧ Le s' s'' ∧ s''.ρ = s'.ρ ∧ s''.S = s'.S ∧ At g T s'' σ H' ∧ rep g s''.μ s''.G d x
/-- a value that stays -/
def Stay (g : Gp) (T : Tx) (s : Sg) (d : D) (v : V) : Prop := ∀ s' σ H, Lp s s' → At g T s' σ H → wrep g s' H d v
section
variable {g : Gp} {T : Tx} {W : WX} {s : Sg} {σ : L2.St} {H : Hp}
theorem SqT.mono {K : PySem.W.Frag} {G H : Hp} {a : Addr} {vs : List V} (h : Sub G H) (q : SqT K G a vs) : SqT K H a vs := by
  rcases q with (q | ⟨o, q⟩) | q
  · exact .inl (.inl (h _ _ q))
  · exact .inl (.inr ⟨o, h _ _ q⟩)
  · exact .inr q
theorem SqL.mono {K : PySem.W.Frag} {G H : Hp} {a : Addr} {vs : List V} (h : Sub G H) (q : SqL K G a vs) : SqL K H a vs := by
  rcases q with (q | ⟨o, q⟩) | q
  · exact .inl (.inl (h _ _ q))
  · exact .inl (.inr ⟨o, h _ _ q⟩)
  · exact .inr q
theorem Aft.resL {p : PV} {v : V} {β : Type} {k : D → M β} {Q : β → Sg → Hp → Prop} (h : Aft g T W (mbind (mresL p) k) s σ Q) (I : At g T s σ H) (hp : prep g s σ p v) : ∃ d, Stay g T s d v ∧ Aft g T W (k d) s σ Q := by
  cases p with
  | v d => exact ⟨d, fun s' σ' H' l J => .inl (rep_lp l hp), h⟩
  | s i =>
    have hp : σ[i]? = some (some v) := hp
    unfold Aft mbind mresL at h
    cases es : s.ρ[i]? with
    | none => simp only [es] at h
    | some sl =>
      cases sl with
      | none => simp only [es] at h
      | val d => simp only [es] at h
      | own o => simp only [es] at h
      | fdef _ => simp only [es] at h
      | clo _ _ => simp only [es] at h
      | exn _ => simp only [es] at h
      | lck o =>
        cases o with
        | dct t ks vs =>
          simp only [es, moD] at h
          refine ⟨.dct t ks vs, fun s' σ' H' le J => ?_, h⟩
          obtain ⟨a, e1, r, nm⟩ := I.slots i _ es
          rw [hp] at e1; cases e1
          obtain ⟨u, q, nt⟩ := mrepL_some r
          exact .inr (.inr ⟨t, ks, vs, a, rfl, rfl, mrepL_mono le.G le.μ ((J.base a u (by rw [le.H0]; exact q) (by rw [le.μ0]; exact nm) nt).trans q.symm) r⟩)
        | ins _ _ => simp only [es, moD] at h
        | lst l =>
          simp only [es, moD] at h
          refine ⟨.lst l, fun s' σ' H' le J => ?_, h⟩
          obtain ⟨a, e1, ⟨vs, e2, r⟩, nm⟩ := I.slots i _ es
          rw [hp] at e1; cases e1
          exact .inr (.inl ⟨l, a, vs, rfl, rfl, J.base a _ (by rw [le.H0]; exact e2) (by rw [le.μ0]; exact nm) (fun ps z => nomatch z), reps_lp le r⟩)
theorem reps_at {μ : List Addr} {G : Hp} {l : List D} {vs : List V} {i : Nat} (h : reps g μ G l vs) (hi : i < l.length) : ∃ d v, l[i]? = some d ∧ vs[i]? = some v ∧ rep g μ G d v := by
  obtain ⟨v, e, r⟩ := reps_get h (List.getElem?_eq_getElem hi)
  exact ⟨_, v, List.getElem?_eq_getElem hi, e, r⟩
/-- lists and tuples that stay -/
def StL (g : Gp) (T : Tx) (s : Sg) (l : List D) (a : Addr) : Prop := ∀ s' σ H, Lp s s' → At g T s' σ H → ∃ vs, SqL g.K H a vs ∧ reps g s'.μ s'.G l vs
def StT (g : Gp) (T : Tx) (s : Sg) (l : List D) (a : Addr) : Prop := ∀ s' σ H, Lp s s' → At g T s' σ H → ∃ vs, SqT g.K H a vs ∧ reps g s'.μ s'.G l vs
theorem Stay.lst {l : List D} {v : V} (h : Stay g T s (.lst l) v) (I : At g T s σ H) : ∃ a, v = .ref a ∧ StL g T s l a := by
  obtain ⟨a, vs, e, _, _⟩ := (h s σ H (Lp.refl s) I).lst I.gh
  refine ⟨a, e, fun s' σ' H' le J => ?_⟩
  obtain ⟨a', vs', e', q, r⟩ := (h s' σ' H' le J).lst J.gh
  rw [e] at e'; cases e'
  exact ⟨vs', SqL.of q, r⟩
theorem Stay.fz {l : List D} {v : V} (h : Stay g T s (.fz l) v) (I : At g T s σ H) : ∃ a, v = .ref a ∧ StL g T s l a := by
  obtain ⟨a, vs, e, _, _⟩ := (h s σ H (Lp.refl s) I).rep (fun _ z => nomatch z)
  refine ⟨a, e, fun s' σ' H' le J => ?_⟩
  obtain ⟨a', vs', e', q, r⟩ := (h s' σ' H' le J).rep (fun _ z => nomatch z)
  rw [e] at e'; cases e'
  exact ⟨vs', SqL.mono J.gh q, r⟩
theorem Stay.tup {l : List D} {v : V} (h : Stay g T s (.tup l) v) (I : At g T s σ H) : ∃ a, v = .ref a ∧ StT g T s l a := by
  obtain ⟨a, vs, e, _, _⟩ := wtup (h s σ H (Lp.refl s) I)
  refine ⟨a, e, fun s' σ' H' le J => ?_⟩
  obtain ⟨a', vs', e', q, r⟩ := wtup (h s' σ' H' le J)
  rw [e] at e'; cases e'
  exact ⟨vs', SqT.mono J.gh q, r⟩
theorem wk_list {l : List D} {a : Addr} (h : StL g T s l a) : Wk g T (Itl g.K a) l s where
  go := fun i s' σ H hi le J => by
    obtain ⟨vs, q, r⟩ := h s' σ H le J
    obtain ⟨d, v, _, e, _⟩ := reps_at r hi
    exact ⟨vs, v, q, e⟩
  stop := fun s' σ H le J => by
    obtain ⟨vs, q, r⟩ := h s' σ H le J
    exact ⟨vs, q, Nat.le_of_eq (reps_len r).symm⟩
  yld := fun i s' σ H x H' hi le J y => by
    obtain ⟨vs, q, r⟩ := h s' σ H le J
    obtain ⟨e, y⟩ := y
    subst e
    obtain ⟨d, v, e1, e2, r1⟩ := reps_at r hi
    have := y vs q
    rw [e2] at this
    cases this
    exact ⟨d, s', e1, Le.refl _, rfl, rfl, J, r1⟩
theorem wk_tup {l : List D} {a : Addr} (h : StT g T s l a) : Wk g T (Itt g.K a) l s where
  go := fun i s' σ H hi le J => by
    obtain ⟨vs, q, r⟩ := h s' σ H le J
    obtain ⟨d, v, _, e, _⟩ := reps_at r hi
    exact ⟨vs, v, q, e⟩
  stop := fun s' σ H le J => by
    obtain ⟨vs, q, r⟩ := h s' σ H le J
    exact ⟨vs, q, Nat.le_of_eq (reps_len r).symm⟩
  yld := fun i s' σ H x H' hi le J y => by
    obtain ⟨vs, q, r⟩ := h s' σ H le J
    obtain ⟨e, y⟩ := y
    subst e
    obtain ⟨d, v, e1, e2, r1⟩ := reps_at r hi
    have := y vs q
    rw [e2] at this
    cases this
    exact ⟨d, s', e1, Le.refl _, rfl, rfl, J, r1⟩
theorem wk_str {z : Str} : Wk g T (Its z) (z.cps.toList.map fun c => .str ⟨#[c]⟩) s where
  go := fun i s' σ H hi le J => by
    rw [List.length_map, Array.length_toList] at hi
    exact hi
  stop := fun s' σ H le J => by
    rw [List.length_map, Array.length_toList]
    exact Nat.le_refl _
  yld := fun i s' σ H x H' hi le J y => by
    obtain ⟨e, c, e1, e2⟩ := y
    subst e e2
    exact ⟨.str ⟨#[c]⟩, s', by rw [List.getElem?_map, Array.getElem?_toList, e1]; rfl, Le.refl _, rfl, rfl, J, rfl⟩
theorem intsFrom_len : ∀ (lo : Int) (n : Nat), (intsFrom lo n).length = n
  | lo, 0 => rfl
  | lo, n + 1 => by unfold intsFrom; rw [List.length_cons, intsFrom_len]
theorem intsFrom_get : ∀ (lo : Int) (n i : Nat), i < n → (intsFrom lo n)[i]? = some (.int (lo + i))
  | lo, n + 1, 0, _ => by unfold intsFrom; simp
  | lo, n + 1, i + 1, h => by
    unfold intsFrom
    rw [List.getElem?_cons_succ, intsFrom_get (lo + 1) n i (by omega)]
    congr 2
    omega
theorem wk_range {lo : Int} {n : Nat} : Wk g T (Itr lo n) (intsFrom lo n) s where
  go := fun i s' σ H hi le J => by rw [intsFrom_len] at hi; exact hi
  stop := fun s' σ H le J => by rw [intsFrom_len]; exact Nat.le_refl _
  yld := fun i s' σ H x H' hi le J y => by
    obtain ⟨e, e2⟩ := y
    rw [intsFrom_len] at hi
    subst e e2
    exact ⟨_, s', intsFrom_get lo n i hi, Le.refl _, rfl, rfl, J, rfl⟩
theorem stepsFrom_len : ∀ (lo c : Int) (n : Nat), (stepsFrom lo c n).length = n
  | lo, c, 0 => rfl
  | lo, c, n + 1 => by unfold stepsFrom; rw [List.length_cons, stepsFrom_len]
theorem stepsFrom_get : ∀ (lo c : Int) (n i : Nat), i < n → (stepsFrom lo c n)[i]? = some (.int (lo + i * c))
  | lo, c, n + 1, 0, _ => by unfold stepsFrom; simp
  | lo, c, n + 1, i + 1, h => by
    unfold stepsFrom
    rw [List.getElem?_cons_succ, stepsFrom_get (lo + c) c n i (by omega)]
    congr 2
    rw [Int.natCast_succ, Int.add_mul, Int.one_mul]
    omega
theorem wk_rangeC {lo c : Int} {n : Nat} : Wk g T (Itc lo c n) (stepsFrom lo c n) s where
  go := fun i s' σ H hi le J => by rw [stepsFrom_len] at hi; exact hi
  stop := fun s' σ H le J => by rw [stepsFrom_len]; exact Nat.le_refl _
  yld := fun i s' σ H x H' hi le J y => by
    obtain ⟨e, e2⟩ := y
    rw [stepsFrom_len] at hi
    subst e e2
    exact ⟨_, s', stepsFrom_get lo c n i hi, Le.refl _, rfl, rfl, J, rfl⟩
theorem zipD_len : ∀ (a b : List D), (zipD a b).length = min a.length b.length
  | [], _ => by simp [zipD]
  | _ :: _, [] => by simp [zipD]
  | x :: a, y :: b => by unfold zipD; rw [List.length_cons, zipD_len]; simp only [List.length_cons]; omega
theorem zipD_get : ∀ {a b : List D} {i : Nat} {x y : D}, a[i]? = some x → b[i]? = some y → (zipD a b)[i]? = some (.tup [x, y])
  | [], _, _, _, _, h, _ => by simp at h
  | _ :: _, [], _, _, _, _, h => by simp at h
  | x' :: a, y' :: b, 0, _, _, h, h' => by
    simp at h h'
    subst h h'
    simp [zipD]
  | x' :: a, y' :: b, i + 1, _, _, h, h' => by
    unfold zipD
    rw [List.getElem?_cons_succ]
    exact zipD_get (by simpa using h) (by simpa using h')
/-- a new pair -/
theorem newpair {s' : Sg} {T' : Addr} {x y : D} {vx vy : V} (J : At g T s' σ H) (hT : H T' = none) (hx : rep g s'.μ s'.G x vx) (hy : rep g s'.μ s'.G y vy) : ∃ s'', Le s' s'' ∧ s''.ρ = s'.ρ ∧ s''.S = s'.S ∧ At g T s'' σ (upd H T' (.tup [vx, vy])) ∧ rep g s''.μ s''.G (.tup [x, y]) (.ref T') :=
  J.newtup hT ⟨vx, [vy], rfl, hx, vy, [], rfl, hy, rfl⟩
theorem wk_zip {la lb : List D} {a b : Addr} (h1 : StL g T s la a) (h2 : StL g T s lb b) : Wk g T (Itz g.K a b) (zipD la lb) s where
  go := fun i s' σ H hi le J => by
    rw [zipD_len] at hi
    obtain ⟨vs, q, r⟩ := h1 s' σ H le J
    obtain ⟨vs', q', r'⟩ := h2 s' σ H le J
    obtain ⟨d, v, _, e, _⟩ := reps_at r (show i < la.length by omega)
    obtain ⟨d', v', _, e', _⟩ := reps_at r' (show i < lb.length by omega)
    exact ⟨vs, vs', v, v', q, q', e, e'⟩
  stop := fun s' σ H le J => by
    obtain ⟨vs, q, r⟩ := h1 s' σ H le J
    obtain ⟨vs', q', r'⟩ := h2 s' σ H le J
    rw [zipD_len]
    have e1 := reps_len r
    have e2 := reps_len r'
    exact ⟨vs, vs', q, q', by omega⟩
  yld := fun i s' σ H x H' hi le J y => by
    rw [zipD_len] at hi
    obtain ⟨vs, q, r⟩ := h1 s' σ H le J
    obtain ⟨vs', q', r'⟩ := h2 s' σ H le J
    obtain ⟨d, v, e1, e2, r1⟩ := reps_at r (show i < la.length by omega)
    obtain ⟨d', v', e1', e2', r1'⟩ := reps_at r' (show i < lb.length by omega)
    obtain ⟨T', p, p', rfl, hT, rfl, y1, y2⟩ := y
    have z := y1 vs q
    have z' := y2 vs' q'
    rw [e2] at z; rw [e2'] at z'
    cases z; cases z'
    obtain ⟨s'', k⟩ := newpair J hT r1 r1'
    exact ⟨_, s'', zipD_get e1 e1', k⟩
theorem wk_zipT {la lb : List D} {a b : Addr} (h1 : StT g T s la a) (h2 : StT g T s lb b) : Wk g T (RZ.ItzT g.K a b) (zipD la lb) s where
  go := fun i s' σ H hi le J => by
    rw [zipD_len] at hi
    obtain ⟨vs, q, r⟩ := h1 s' σ H le J
    obtain ⟨vs', q', r'⟩ := h2 s' σ H le J
    obtain ⟨d, v, _, e, _⟩ := reps_at r (show i < la.length by omega)
    obtain ⟨d', v', _, e', _⟩ := reps_at r' (show i < lb.length by omega)
    exact ⟨vs, vs', v, v', q, q', e, e'⟩
  stop := fun s' σ H le J => by
    obtain ⟨vs, q, r⟩ := h1 s' σ H le J
    obtain ⟨vs', q', r'⟩ := h2 s' σ H le J
    rw [zipD_len]
    have e1 := reps_len r
    have e2 := reps_len r'
    exact ⟨vs, vs', q, q', by omega⟩
  yld := fun i s' σ H x H' hi le J y => by
    rw [zipD_len] at hi
    obtain ⟨vs, q, r⟩ := h1 s' σ H le J
    obtain ⟨vs', q', r'⟩ := h2 s' σ H le J
    obtain ⟨d, v, e1, e2, r1⟩ := reps_at r (show i < la.length by omega)
    obtain ⟨d', v', e1', e2', r1'⟩ := reps_at r' (show i < lb.length by omega)
    obtain ⟨T', p, p', rfl, hT, rfl, y1, y2⟩ := y
    have z := y1 vs q
    have z' := y2 vs' q'
    rw [e2] at z; rw [e2'] at z'
    cases z; cases z'
    obtain ⟨s'', k⟩ := newpair J hT r1 r1'
    exact ⟨_, s'', zipD_get e1 e1', k⟩
theorem enumD_len : ∀ (l : List D) (k : Int), (enumD l k).length = l.length
  | [], _ => rfl
  | d :: l, k => by unfold enumD; rw [List.length_cons, List.length_cons, enumD_len]
theorem enumD_get : ∀ {l : List D} {k : Int} {i : Nat} {d : D}, l[i]? = some d → (enumD l k)[i]? = some (.tup [.int (k + i), d])
  | [], _, _, _, h => by simp at h
  | d' :: l, k, 0, d, h => by simp at h; subst h; simp [enumD]
  | d' :: l, k, i + 1, d, h => by
    unfold enumD
    rw [List.getElem?_cons_succ, enumD_get (by simpa using h)]
    congr 4
    omega
theorem wk_enum {l : List D} {a : Addr} (h : StL g T s l a) : Wk g T (Ite g.K a) (enumD l 0) s where
  go := fun i s' σ H hi le J => by
    rw [enumD_len] at hi
    obtain ⟨vs, q, r⟩ := h s' σ H le J
    obtain ⟨d, v, _, e, _⟩ := reps_at r hi
    exact ⟨vs, v, q, e⟩
  stop := fun s' σ H le J => by
    obtain ⟨vs, q, r⟩ := h s' σ H le J
    exact ⟨vs, q, by rw [enumD_len]; exact Nat.le_of_eq (reps_len r).symm⟩
  yld := fun i s' σ H x H' hi le J y => by
    rw [enumD_len] at hi
    obtain ⟨vs, q, r⟩ := h s' σ H le J
    obtain ⟨T', p, rfl, hT, rfl, y1⟩ := y
    obtain ⟨d, v, e1, e2, r1⟩ := reps_at r hi
    have z := y1 vs q
    rw [e2] at z
    cases z
    obtain ⟨s'', k⟩ := newpair (x := .int (i : Nat)) (vx := .int (i : Nat)) J hT rfl r1
    exact ⟨_, s'', by rw [enumD_get e1]; congr 4; omega, k⟩
end
end MP

namespace MP
open PySem PySem.Spec L2
mutual
def tgIx : Tg → List Nat
  | .v i => [i]
  | .tup ts => tgIxs ts
  | .tupS _ ts => tgIxs ts
def tgIxs : Tgs → List Nat
  | .nil => []
  | .cons t ts => tgIx t ++ tgIxs ts
end
section
variable {g : Gp} {T : Tx} {W : WX} {s : Sg} {σ : L2.St} {H : Hp}
/-- the value of an iterable, and what walks it -/
def tI (T : Tx) (W : WX) (g : Gp) (m : M (List D)) : TI := fun σ H R => ∃ s, At g T s σ H ∧ Aft g T W m s σ fun l s' H' => ∀ J, Wk g T J l s' → R J H'
/-- a value is laid into names -/
def tG (T : Tx) (g : Gp) (ix : List Nat) (f : D → M Unit) : TG := fun v σ H Q => ∃ s d, At g T s σ H ∧ rep g s.μ s.G d v ∧ (match f d s.ρ s.S with
  | .ok _ ρ S => ∀ s' σ' H', Le s s' → s'.ρ = ρ → s'.S = S → At g T s' σ' H' → σ'.length = σ.length → (∀ i, i ∉ ix → σ'[i]? = σ[i]?) → Q σ' H'
  | _ => False)
theorem wipe_at : ∀ (vs : List Nat) (σ : L2.St) (i : Nat), (wipe σ vs)[i]? = if i ∈ vs then (if i < σ.length then some none else none) else σ[i]?
  | [], σ, i => by simp [wipe]
  | v :: vs, σ, i => by
    show ((wipe σ vs).set v none)[i]? = _
    by_cases h : i = v
    · subst h
      rw [if_pos List.mem_cons_self, List.getElem?_set]
      simp [wipe_length]
    · rw [List.getElem?_set_ne (Ne.symm h), wipe_at vs σ i]
      simp [h]
theorem wipe_eq {σ σ2 : L2.St} {vs ix : List Nat} (hl : σ2.length = σ.length) (h : ∀ i, i ∉ ix → σ2[i]? = (wipe σ vs)[i]?) (hi : ∀ i ∈ ix, i ∈ vs) : wipe σ2 vs = wipe σ vs := by
  apply List.ext_getElem?
  intro i
  rw [wipe_at, wipe_at, hl]
  by_cases hv : i ∈ vs
  · rw [if_pos hv, if_pos hv]
  · rw [if_neg hv, if_neg hv, h i (fun z => hv (hi i z)), wipe_at, if_neg hv]
theorem wipeF_len : ∀ (vs : List Nat) (ρ : Fr), (wipeF ρ vs).length = ρ.length
  | [], _ => rfl
  | v :: vs, ρ => by show ((wipeF ρ vs).set v .none).length = _; rw [List.length_set, wipeF_len]
theorem At.wipe (I : At g T s σ H) : ∀ vs : List Nat, At g T { s with ρ := wipeF s.ρ vs } (wipe σ vs) H
  | [] => I
  | v :: vs => Sim.clear (I.wipe vs) v
theorem lockF_no (ρ : Fr) : ∀ (i : Nat) m, (lockF ρ)[i]? ≠ some (.own m) := fun i m e => by
  rw [lockF, List.getElem?_map] at e
  cases h : ρ[i]? with
  | none => rw [h] at e; cases e
  | some sl => rw [h] at e; cases sl <;> cases e
theorem noOwn_no {ρ : Fr} (h : noOwn ρ = true) : ∀ (i : Nat) m, ρ[i]? ≠ some (.own m) := fun i m e => by
  have := List.all_eq_true.mp h _ (List.mem_of_getElem? e)
  cases this
/-- the place of a block in this frame -/
def lockSg (s : Sg) (H : Hp) : Sg := ⟨⟨H, s.G, s.μ, fun _ => none⟩, s.G, s.μ, lockF s.ρ, s.S⟩
theorem At.lock (I : At g T s σ H) : At g T (lockSg s H) σ H := Sim.block I (by show (lockF s.ρ).length = _; unfold lockF; rw [List.length_map]; exact I.len) fun i sl e => by
  have e : (lockF s.ρ)[i]? = some sl := e
  unfold lockF at e
  rw [List.getElem?_map] at e
  cases h : s.ρ[i]? with
  | none => rw [h] at e; cases e
  | some sl' =>
    rw [h] at e
    cases e
    exact .inr ⟨sl', rfl, rfl, rfl⟩
/-- the new list at L is acc, at the place s -/
structure Bld (g : Gp) (L : Addr) (acc : List D) (accV : List V) (s : Sg) : Prop where
  pin : s.B.pin L = some (.lst accV)
  rep : reps g s.μ s.G acc accV
theorem flatM_cons {α : Type} {f : α → M (List D)} {a : α} {r : List α} {ρ S y ρ' S'} (h : flatM f (a :: r) ρ S = .ok y ρ' S') : ∃ x ρ1 S1 z, f a ρ S = .ok x ρ1 S1 ∧ flatM f r ρ1 S1 = .ok z ρ' S' ∧ y = x ++ z := by
  show ∃ x ρ1 S1 z, _
  have h : mbind (f a) (fun x => mbind (flatM f r) fun y => mret (x ++ y)) ρ S = .ok y ρ' S' := h
  unfold mbind at h
  cases e : f a ρ S with
  | ok x ρ1 S1 =>
    rw [e] at h
    dsimp only at h
    cases e2 : flatM f r ρ1 S1 with
    | ok z ρ2 S2 =>
      rw [e2] at h
      cases h
      exact ⟨x, ρ1, S1, z, rfl, e2, rfl⟩
    | exc c ρ2 S2 => rw [e2] at h; cases h
    | stk => rw [e2] at h; cases h
  | exc c ρ1 S1 => rw [e] at h; cases h
  | stk => rw [e] at h; cases h
theorem mbind_ok {α β : Type} {m : M α} {k : α → M β} {ρ S b ρ' S'} (h : mbind m k ρ S = .ok b ρ' S') : ∃ a ρ1 S1, m ρ S = .ok a ρ1 S1 ∧ k a ρ1 S1 = .ok b ρ' S' := by
  unfold mbind at h
  cases e : m ρ S with
  | ok a ρ1 S1 => rw [e] at h; exact ⟨a, ρ1, S1, rfl, h⟩
  | exc c ρ1 S1 => rw [e] at h; cases h
  | stk => rw [e] at h; cases h
theorem shut_ok {α : Type} {m : M α} {ρ0 ρ S a ρ' S'} (h : shut m ρ0 ρ S = .ok a ρ' S') : ∃ ρ1, m ρ0 S = .ok a ρ1 S' ∧ ρ' = ρ := by
  unfold shut at h
  cases e : m ρ0 S with
  | ok a1 ρ1 S1 => rw [e] at h; cases h; exact ⟨ρ1, rfl, rfl⟩
  | exc c ρ1 S1 => rw [e] at h; cases h
  | stk => rw [e] at h; cases h
/-- what a turn's body is told by: it puts more behind what stands at L -/
def BodyOk (g : Gp) (T : Tx) (L : Addr) (mb : M (List D)) (Body : L2.St → Hp → (Hp → Prop) → Prop) : Prop :=
  ∀ (s3 : Sg) (σ3 : L2.St) (H3 : Hp) (acc : List D) (accV : List V) (x : List D) (ρ' : Fr) (S' : Store) (Nx : Hp → Prop), At g T s3 σ3 H3 → Bld g L acc accV s3 → acc.length + x.length ≤ 16777216 → mb s3.ρ s3.S = .ok x ρ' S' →
    (∀ s4 σ4 H4 accV', Lp s3 s4 → s4.S = S' → At g T s4 σ4 H4 → Bld g L (acc ++ x) accV' s4 → Nx H4) → Body σ3 H3 Nx
/-- the turns of a clause -/
theorem lp_walk {J : L2.It} {l : List D} {s1 : Sg} {L : Addr} {acc r : List D} {accV : List V} {own : List Nat} {ft : D → M Unit} {ix : List Nat} {mc : M Bool} {mb : M (List D)} {Body : L2.St → Hp → (Hp → Prop) → Prop} {ρ' : Fr} {S' : Store} {Fin : Hp → Prop}
    (I : At g T s1 σ H) (wk : Wk g T J l s1) (no : ∀ (i : Nat) m, s1.ρ[i]? ≠ some (.own m)) (b : Bld g L acc accV s1) (hl : acc.length + r.length ≤ 16777216) (hix : ∀ i ∈ ix, i ∈ own)
    (h : flatM (fun d => fun ρ S => shut (mbind (ft d) fun _ => mbind mc fun k => if k then mb else mret []) (wipeF ρ own) ρ S) l s1.ρ s1.S = .ok r ρ' S')
    (hb : BodyOk g T L mb Body)
    (hd : ∀ s4 H4 accV', Lp s1 s4 → s4.ρ = s1.ρ → s4.S = S' → At g T s4 σ H4 → Bld g L (acc ++ r) accV' s4 → Fin H4) :
    ∃ Wf : Nat → Nat → Hp → Prop, (∃ m, Wf 0 m H) ∧ ∀ i m H, Wf i m H → (J.stop i H ∧ Fin H) ∨ (J.go i H ∧ ∃ Nx : Hp → Prop, (∀ H', Nx H' → ∃ m', m' < m ∧ Wf (i + 1) m' H') ∧ ∀ x H', J.yld i H x H' →
      tG T g ix ft x (wipe σ own) H' fun σ2 H2 => wipe σ2 own = wipe σ own ∧ tB T (fun _ _ _ _ => False) g mc σ2 H2 fun b H3 => if b = true then Body σ2 H3 Nx else Nx H3) := by
  -- the state at turn i
  let Pv : Nat → Hp → Prop := fun i H => ∃ si accI accVI rest, Lp s1 si ∧ si.ρ = s1.ρ ∧ At g T si σ H ∧ Bld g L accI accVI si ∧ accI ++ rest = acc ++ r ∧
    flatM (fun d => fun ρ S => shut (mbind (ft d) fun _ => mbind mc fun k => if k then mb else mret []) (wipeF ρ own) ρ S) (l.drop i) s1.ρ si.S = .ok rest ρ' S'
  refine ⟨fun i m H => m = l.length - i ∧ i ≤ l.length ∧ Pv i H, ⟨l.length, by simp, Nat.zero_le _, s1, acc, accV, r, Lp.refl _, rfl, I, b, rfl, h⟩, ?_⟩
  rintro i m H1 ⟨rfl, hi, si, accI, accVI, rest, le, er, Ii, bi, ea, hf⟩
  by_cases hlt : i < l.length
  · refine .inr ⟨wk.go i si σ H1 hlt le Ii, Pv (i + 1), fun H' p' => ⟨l.length - (i + 1), by omega, rfl, hlt, p'⟩, fun x H' y => ?_⟩
    obtain ⟨d, s2, e1, le2, er2, es2, I2, rx⟩ := wk.yld i si σ H1 x H' hlt le Ii y
    have hdrop : l.drop i = d :: l.drop (i + 1) := by
      rw [List.drop_eq_getElem_cons hlt]
      congr 1
      rw [List.getElem?_eq_getElem hlt] at e1
      exact Option.some.inj e1
    rw [hdrop] at hf
    obtain ⟨x1, ρ1, S1, z, hF, hrest, ez⟩ := flatM_cons hf
    obtain ⟨ρ4, hF2, e⟩ := shut_ok hF
    subst e
    obtain ⟨u, ρ2, S2, hT, hF3⟩ := mbind_ok hF2
    obtain ⟨k, ρ3, S3, hC, hF4⟩ := mbind_ok hF3
    have Iw := I2.wipe own
    have b2 : Bld g L accI accVI s2 := ⟨by rw [le2.B]; exact bi.pin, reps_le le2 bi.rep⟩
    refine ⟨{ s2 with ρ := wipeF s2.ρ own }, d, Iw, rx, ?_⟩
    show (match ft d (wipeF s2.ρ own) s2.S with | .ok _ ρ S => _ | _ => False)
    rw [er2, er, es2, hT]
    intro s3 σ3 H3 le3 er3 es3 I3 hlen hframe
    refine ⟨wipe_eq (by rw [hlen, wipe_length]) hframe hix, s3, I3, ?_⟩
    unfold Aft
    rw [er3, es3, hC]
    intro s4 H4 le4 er4 es4 I4
    -- back to the turn's frame
    have back : ∀ s5 σ5 H5 accV', Lp s4 s5 → s5.S = S1 → At g T s5 σ5 H5 → Bld g L (accI ++ x1) accV' s5 → Pv (i + 1) H5 := fun s5 σ5 H5 accV' le5 es5 I5 b5 => by
      have lw := (le3.trans le4).lp.trans le5
      have l2 : Lp s2 s5 := ⟨lw.H0, lw.G0, lw.μ0, lw.G, lw.μ⟩
      refine ⟨{ s5 with ρ := s1.ρ }, accI ++ x1, accV', z, ?_, rfl, ?_, ⟨b5.pin, b5.rep⟩, by rw [List.append_assoc, ← ez, ea], by show flatM _ (l.drop (i + 1)) s1.ρ s5.S = _; rw [es5]; exact hrest⟩
      · have l3 := le.trans (le2.lp.trans l2)
        exact ⟨l3.H0, l3.G0, l3.μ0, l3.G, l3.μ⟩
      · have J := Sim.reframe I2 I5 l2.H0 l2.μ0 l2.G l2.μ (by rw [er2, er]; exact no)
        rw [er2, er] at J
        exact J
    have b4 : Bld g L accI accVI s4 := ⟨by rw [le4.B, le3.B]; exact b2.pin, reps_le le4 (reps_le le3 b2.rep)⟩
    cases k with
    | false =>
      cases hF4
      refine back s4 σ3 H4 accVI (Lp.refl _) es4 I4 ?_
      rw [List.append_nil]
      exact b4
    | true =>
      refine hb s4 σ3 H4 accI accVI x1 ρ4 S1 (Pv (i + 1)) I4 b4 ?_ (by rw [er4, es4]; exact hF4) fun s5 σ5 H5 accV' le5 es5 I5 b5 => back s5 σ5 H5 accV' le5 es5 I5 b5
      have e := congrArg List.length ea
      rw [ez] at e
      simp only [List.length_append] at e
      omega
  · have e : i = l.length := by omega
    subst e
    rw [List.drop_length] at hf
    cases hf
    refine .inl ⟨wk.stop si σ H1 le Ii, hd si H1 accVI le er rfl Ii ?_⟩
    rw [← ea, List.append_nil]
    exact bi
end
end MP

namespace MP
open PySem PySem.Spec L2
abbrev WF : WX := fun _ _ _ _ => False
section
variable {T : Tx} {W : WX} {X : Cx} {pos : Pos} {g : Gp}
abbrev SI (T : Tx) (W : WX) (X : Cx) (tg e : Expr) (m : M (List D)) : Prop := PI X tg e (tI T W X.gp m)
abbrev SG (T : Tx) (X : Cx) (tg : Expr) (ix : List Nat) (f : D → M Unit) : Prop := PG X tg (tG T X.gp ix f)
/-- a clause's tests -/
abbrev STs (T : Tx) (X : Cx) (ifs : List Expr) (m : M Bool) : Prop := PTs X ifs (tB T WF X.gp m)
/-- the end of a comprehension: a fresh list -/
theorem lc_end {s : Sg} {σ : L2.St} {H : Hp} {L : Addr} {r : List D} {s4 : Sg} {H4 : Hp} {accV : List V} {S' : Store} (I : At g T s σ H) (hL : H L = none) (le : Lp (lockSg s H) s4) (es : s4.S = S') (I4 : At g T s4 σ H4) (b : Bld g L r accV s4) :
    ∃ s5, Le s s5 ∧ s5.ρ = s.ρ ∧ s5.S = S' ∧ At g T s5 σ H4 ∧ Fresh g s5 σ H4 r (.ref L) := by
  obtain ⟨⟨B0, BG, Bμ, Bp⟩, G4, μ4, ρ4, S4⟩ := s4
  obtain rfl : B0 = H := le.H0
  obtain rfl : BG = s.G := le.G0
  obtain rfl : Bμ = s.μ := le.μ0
  obtain ⟨J, hG, hμ⟩ := Sim.mono_base I I4 rfl
  obtain ⟨p1, p2, p3, p4, p5⟩ := I4.pins L (.lst accV) b.pin
  refine ⟨⟨s.B, G4, μ4, s.ρ, S4⟩, ⟨rfl, hG, hμ⟩, rfl, es, J, L, accV, rfl, p1, b.rep, p2, p3, I.gone L hL, I.npin hL, fun i m e => I.own_ne hL e⟩
theorem bodyFin {L : Addr} {me : M D} : BodyOk g T L (mbind me fun d => mret [d]) (fun σ3 H3 Nx => tE T WF g me σ3 H3 fun y H7 => ∃ acc, H7 L = some (.lst acc) ∧ acc.length < sizeLine ∧ Nx (upd H7 L (.lst (acc ++ [y])))) := by
  intro s3 σ3 H3 acc accV x ρ' S' Nx I3 b hl hm hN
  obtain ⟨d, ρ1, S1, e1, e2⟩ := mbind_ok hm
  cases e2
  refine ⟨s3, I3, ?_⟩
  unfold Aft
  rw [e1]
  intro s4 H4 le er es I4 v hv
  have bp : s4.B.pin L = some (.lst accV) := by rw [le.B]; exact b.pin
  obtain ⟨p1, p2, p3, p4, p5⟩ := I4.pins L (.lst accV) bp
  have hr := reps_le le b.rep
  have ln := reps_len hr
  refine ⟨accV, p1, ?_, ?_⟩
  · rw [← ln, sizeLine_eq]
    simp only [List.length_cons, List.length_nil] at hl
    omega
  · have J := Sim.repin (D := L) (vs := .lst (accV ++ [v])) I4 p2 p3 p4 p5 (.inr ⟨.lst accV, p1⟩)
    refine hN { s4 with B := { s4.B with pin := fun a => if a = L then some (.lst (accV ++ [v])) else s4.B.pin a } } σ3 _ (accV ++ [v]) ?_ es J ⟨if_pos rfl, reps_append hr ⟨v, [], rfl, hv, rfl⟩⟩
    have l := le.lp
    exact ⟨l.H0, l.G0, l.μ0, l.G, l.μ⟩
/-- one clause's evaluation -/
abbrev clM (mi : M (List D)) (ft : D → M Unit) (own : List Nat) (mc : M Bool) (mb : M (List D)) : M (List D) := mbind mi fun l => fun ρ S => if noOwn ρ then flatM (fun d => fun ρ S =>
      shut (mbind (ft d) fun _ => mbind mc fun k => if k then mb else mret []) (wipeF ρ own) ρ S) l ρ S else .stk
abbrev lcM (m : M (List D)) : M (List D) := fun ρ S => mbind (shut m (lockF ρ)) okItems ρ S
/-- the reading of a clause, from a place of its block -/
theorem clause_walk {σ : L2.St} {L : Addr} {mi : M (List D)} {ft : D → M Unit} {ix own : List Nat} {mc : M Bool} {mb : M (List D)} {Body : L2.St → Hp → (Hp → Prop) → Prop} {r : List D} {ρ' : Fr} {S' : Store} {s0 : Sg}
    (hix : ∀ i ∈ ix, i ∈ own) (hb : BodyOk g T L mb Body) (h : clM mi ft own mc mb s0.ρ s0.S = .ok r ρ' S') (hr : r.length ≤ 16777216)
    {R : L2.It → Hp → Prop}
    (k : ∀ (J : L2.It) (l : List D) (s1 : Sg) (H1 : Hp), Le s0 s1 → At g T s1 σ H1 → Wk g T J l s1 → (∀ (i : Nat) (m : MO), s1.ρ[i]? ≠ some (Slot.own m)) →
      flatM (fun d => fun ρ S => shut (mbind (ft d) fun _ => mbind mc fun k => if k then mb else mret []) (wipeF ρ own) ρ S) l s1.ρ s1.S = .ok r ρ' S' → R J H1) :
    Aft g T W mi s0 σ fun l s' H' => ∀ J, Wk g T J l s' → R J H' := by
  obtain ⟨l, ρ1, S1, e1, e2⟩ := mbind_ok h
  unfold Aft
  rw [e1]
  intro s1 H1 le er es I J wk
  have e3 : (if noOwn ρ1 then flatM (fun d => fun ρ S => shut (mbind (ft d) fun _ => mbind mc fun k => if k then mb else mret []) (wipeF ρ own) ρ S) l ρ1 S1 else .stk) = .ok r ρ' S' := e2
  cases hn : noOwn ρ1 with
  | false => rw [hn] at e3; cases e3
  | true =>
    rw [hn, if_pos rfl] at e3
    exact k J l s1 H1 le I wk (by rw [er]; exact noOwn_no hn) (by rw [er, es]; exact e3)
theorem lcM_ok {m : M (List D)} {s : Sg} {σ : L2.St} {Q : VK} (q : Aft g T W (lcM m) s σ fun l s' H' => ∀ v, Fresh g s' σ H' l v → Q v H') :
    ∃ r ρ1 S1, m (lockF s.ρ) s.S = .ok r ρ1 S1 ∧ r.length ≤ 16777216 ∧ ∀ s' H', Le s s' → s'.ρ = s.ρ → s'.S = S1 → At g T s' σ H' → ∀ v, Fresh g s' σ H' r v → Q v H' := by
  unfold Aft lcM mbind shut at q
  cases e : m (lockF s.ρ) s.S with
  | stk => rw [e] at q; exact q.elim
  | exc c ρ S => rw [e] at q; exact q.elim
  | ok r ρ1 S1 =>
    rw [e] at q
    simp only [okItems] at q
    cases hl : okLen r.length with
    | false => rw [hl] at q; exact q.elim
    | true =>
      rw [hl] at q
      exact ⟨r, ρ1, S1, rfl, of_decide_eq_true hl, fun s' H' le e1 e2 I v f => q s' H' le e1 e2 I v f⟩
theorem t_lc {mi : M (List D)} {ft : D → M Unit} {ix own : List Nat} {mc : M Bool} {me : M D} {σ : L2.St} {H : Hp} {Q : VK} (hix : ∀ i ∈ ix, i ∈ own)
    (h : tF T W g (lcM (clM mi ft own mc (mbind me fun d => mret [d]))) σ H Q) : tLc (tI T W g mi) (tG T g ix ft) (tB T WF g mc) (tE T WF g me) own σ H Q := by
  obtain ⟨s, I, q⟩ := h
  obtain ⟨r, ρ1, S1, e, hl, q⟩ := lcM_ok q
  refine ⟨lockSg s H, I.lock, clause_walk (L := 0) (Body := fun _ _ _ => True) (s0 := lockSg s H) hix (fun _ _ _ _ _ _ _ _ _ _ _ _ _ _ => trivial) e hl fun J l s1 H1 le I1 wk no hf L hL => ?_⟩
  have hL0 : (lockSg s H).B.H0 L = none := by
    have := I1.gone L hL
    rw [le.B] at this
    exact this
  have Ip := Sim.repin (D := L) (vs := .lst []) I1 (I1.nmu hL) (I1.gh.none hL) (by rw [le.B]; exact hL0) (fun i m e => I1.own_ne hL e) (.inl hL)
  have l1 := le.lp
  have bq : Bld g L [] [] { s1 with B := { s1.B with pin := fun a => if a = L then some (.lst []) else s1.B.pin a } } := ⟨if_pos rfl, rfl⟩
  have lq : Lp s1 { s1 with B := { s1.B with pin := fun a => if a = L then some (.lst []) else s1.B.pin a } } := ⟨rfl, rfl, rfl, Sub.refl _, fun _ _ h => h⟩
  have wk2 : Wk g T J l { s1 with B := { s1.B with pin := fun a => if a = L then some (.lst []) else s1.B.pin a } } :=
    ⟨fun i s' σ H hi le J => wk.go i s' σ H hi (lq.trans le) J, fun s' σ H le J => wk.stop s' σ H (lq.trans le) J, fun i s' σ H x H' hi le J y => wk.yld i s' σ H x H' hi (lq.trans le) J y⟩
  exact lp_walk (s1 := { s1 with B := { s1.B with pin := fun a => if a = L then some (.lst []) else s1.B.pin a } }) Ip wk2 no bq (by simpa using hl) hix hf bodyFin fun s4 H4 accV' le4 er4 es4 I4 b4 => by
    obtain ⟨s5, l5, e1, e2, I5, f⟩ := lc_end I hL0 (l1.trans (lq.trans le4)) es4 I4 (by simpa using b4)
    exact q s5 H4 l5 e1 e2 I5 _ f
theorem t_lc2 {mi mi1 : M (List D)} {ft ft1 : D → M Unit} {ix ix1 own own1 : List Nat} {mc mc1 : M Bool} {me : M D} {σ : L2.St} {H : Hp} {Q : VK} (hix : ∀ i ∈ ix, i ∈ own) (hix1 : ∀ i ∈ ix1, i ∈ own1)
    (h : tF T W g (lcM (clM mi ft own mc (clM mi1 ft1 own1 mc1 (mbind me fun d => mret [d])))) σ H Q) :
    tLc2 (tI T W g mi) (tG T g ix ft) (tB T WF g mc) (tI T WF g mi1) (tG T g ix1 ft1) (tB T WF g mc1) (tE T WF g me) own own1 σ H Q := by
  obtain ⟨s, I, q⟩ := h
  obtain ⟨r, ρ1, S1, e, hl, q⟩ := lcM_ok q
  refine ⟨lockSg s H, I.lock, clause_walk (L := 0) (Body := fun _ _ _ => True) (s0 := lockSg s H) hix (fun _ _ _ _ _ _ _ _ _ _ _ _ _ _ => trivial) e hl fun J l s1 H1 le I1 wk no hf L hL => ?_⟩
  have hL0 : (lockSg s H).B.H0 L = none := by
    have := I1.gone L hL
    rw [le.B] at this
    exact this
  have Ip := Sim.repin (D := L) (vs := .lst []) I1 (I1.nmu hL) (I1.gh.none hL) (by rw [le.B]; exact hL0) (fun i m e => I1.own_ne hL e) (.inl hL)
  have l1 := le.lp
  have bq : Bld g L [] [] { s1 with B := { s1.B with pin := fun a => if a = L then some (.lst []) else s1.B.pin a } } := ⟨if_pos rfl, rfl⟩
  have lq : Lp s1 { s1 with B := { s1.B with pin := fun a => if a = L then some (.lst []) else s1.B.pin a } } := ⟨rfl, rfl, rfl, Sub.refl _, fun _ _ h => h⟩
  have wk2 : Wk g T J l { s1 with B := { s1.B with pin := fun a => if a = L then some (.lst []) else s1.B.pin a } } :=
    ⟨fun i s' σ H hi le J => wk.go i s' σ H hi (lq.trans le) J, fun s' σ H le J => wk.stop s' σ H (lq.trans le) J, fun i s' σ H x H' hi le J y => wk.yld i s' σ H x H' hi (lq.trans le) J y⟩
  -- the second clause as a body
  have hb : BodyOk g T L (clM mi1 ft1 own1 mc1 (mbind me fun d => mret [d])) (fun σ2 H3 Nx => tI T WF g mi1 σ2 H3 fun J1 H4 => ∃ W1 : Nat → Nat → Hp → Prop, (∃ m, W1 0 m H4) ∧ ∀ j k H, W1 j k H →
      (J1.stop j H ∧ Nx H) ∨ (J1.go j H ∧ ∃ Nx1 : Hp → Prop, (∀ H', Nx1 H' → ∃ k', k' < k ∧ W1 (j + 1) k' H') ∧ ∀ x H', J1.yld j H x H' → tG T g ix1 ft1 x (wipe σ2 own1) H' fun σ3 H5 => wipe σ3 own1 = wipe σ2 own1 ∧ tB T WF g mc1 σ3 H5 fun b H6 =>
        if b = true then tE T WF g me σ3 H6 fun y H7 => ∃ acc, H7 L = some (.lst acc) ∧ acc.length < sizeLine ∧ Nx1 (upd H7 L (.lst (acc ++ [y]))) else Nx1 H6)) := by
    intro s3 σ3 H3 acc accV x ρ' S' Nx I3 b hl hm hN
    refine ⟨s3, I3, clause_walk (L := L) (W := WF) (s0 := s3) hix1 bodyFin hm (by omega) fun J1 l1 s4 H4 le4 I4 wk4 no4 hf4 => ?_⟩
    refine lp_walk I4 wk4 no4 (⟨by rw [le4.B]; exact b.pin, reps_le le4 b.rep⟩ : Bld g L acc accV s4) hl hix1 hf4 bodyFin fun s5 H5 accV' le5 er5 es5 I5 b5 => ?_
    exact hN s5 σ3 H5 accV' (le4.lp.trans le5) es5 I5 b5
  exact lp_walk (s1 := { s1 with B := { s1.B with pin := fun a => if a = L then some (.lst []) else s1.B.pin a } }) Ip wk2 no bq (by simpa using hl) hix hf hb fun s4 H4 accV' le4 er4 es4 I4 b4 => by
    obtain ⟨s5, l5, e1, e2, I5, f⟩ := lc_end I hL0 (l1.trans (lq.trans le4)) es4 I4 (by simpa using b4)
    exact q s5 H4 l5 e1 e2 I5 _ f
end
end MP

namespace MP
open PySem PySem.Spec L2 PyProof.Rows
/-! ### enumerate over a tuple -/
section
variable {P : Program} {w : World}
theorem enum_new1 {v : Value} {ob : Obj} {Hh : Heap → Prop} (Bg : PySem.Begins v ob Hh) :
    Meets (Builtin.«enumerate.__new__» ⟨[.type "enumerate", v], []⟩) (fun _ R s => Hh s.heap ∧
      R (.ok (.ret (.ref (s.heap.push ob).objs.size))) { s with heap := (s.heap.push ob).push { cls := .type "enumerate", data := .fields #[.none, .bool false, .ref s.heap.objs.size, rawInt 0, .none, .none] } }) :=
  .of_wp fun prog w A R st hyp => by
    obtain ⟨hp, ge, dr, tks, oss⟩ := st
    obtain ⟨hb, hyp⟩ := hyp
    have hsub := sub_enumerate
    have q1 : ∀ {A' : Around} {E' : Value → Shared → Prop} {Q' : Value → Shared → Prop}, Q' (.ref hp.objs.size) ⟨hp.push ob, ge, dr, tks, oss⟩ → wpAny (model prog w) A' (pyIter v) Q' E' ⟨hp, ge, dr, tks, oss⟩ :=
      fun q => Bg.iter prog w _ _ ⟨hp, ge, dr, tks, oss⟩ _ hb q
    wp_walk using q1
    refine wpAny_stack_any fun stk => wpAny_pure ?_
    split
    · rename_i c _ _ _ _ _
      cases (c == Value.type "enumerate")
      · wp_walk using q1
        exact ⟨_, rfl, hyp⟩
      · wp_walk using q1
        exact ⟨_, rfl, hyp⟩
    · wp_walk using q1
      exact ⟨_, rfl, hyp⟩
end
/-- the items of the tuple at a, counted -/
def Itet (K : PySem.W.Frag) (a : Addr) : L2.It :=
  ⟨fun i H => ∃ (vs : List V) (v : V), SqT K H a vs ∧ vs[i]? = some v,
   fun i H z H' => ∃ p v, z = .ref p ∧ H p = none ∧ H' = upd H p (.tup [.int (i : Nat), v]) ∧ ∀ vs, SqT K H a vs → vs[i]? = some v,
   fun i H => ∃ vs : List V, SqT K H a vs ∧ vs.length ≤ i⟩
theorem turn_enumT {P : Program} {w : World} {K : PySem.W.Frag} {elts : List Expr} {kk : Nat} {tpos : Pos} (a e it : Addr) (hae : a ≠ it) :
    Turn P w K (.Tuple elts kk tpos) (Itet K a) [e, it] e (fun i h => (∃ old, IsEnum h e it ((i : Nat) : Int) old) ∧ h.IsTupleIter it a i ∧ e ≠ it ∧ e ≠ a) where
  mem := by simp
  obj := fun i h st b hb => by
    obtain ⟨⟨old, h1⟩, ⟨o, ho, hc, hd⟩, _⟩ := st
    have cs : b = e ∨ b = it := by simpa using hb
    rcases cs with z | z
    · subst z; exact ⟨_, h1, fun v q => nomatch q⟩
    · subst z; exact ⟨o, ho, fun v q => by rw [hd] at q; cases q⟩
  keep := fun i h h' st k => by
    obtain ⟨⟨old, h1⟩, h2, h3, h4⟩ := st
    exact ⟨⟨old, k e (by simp) _ h1⟩, h2.at fun o q => k it (by simp) o q, h3, h4⟩
  item := by
    intro X hP hw hK hc i pins s σ H E I hf st hg
    subst hP hw hK
    obtain ⟨⟨old, h1⟩, h2, h3, h4⟩ := st
    obtain ⟨xs, x, hq, hx⟩ := hg
    obtain ⟨its, rv, p, hz⟩ := I.tuple hq
    obtain ⟨u, hu, ru⟩ := rv.get hx
    have l1 : e < s.heap.objs.size := Heap.lt_size h1
    have l2 : it < s.heap.objs.size := by obtain ⟨_, q, _⟩ := h2; exact Heap.lt_size q
    have ilt : i < its.toArray.size := by
      have := (List.getElem?_eq_some_iff.mp hu).1
      simpa using this
    have Dr := Draws.tuple (prog := X.prog) (w := X.w) (A := X.A.in1) (I.ok.hd hc) it a hae its.toArray
    refine wpAny_pyNext_enum_itemD Dr h1 ⟨h2, p⟩ ilt h3 (by simp [h3, h4]) fun y h' tk hP ho hs' hT hsz hk => ?_
    have ey : y = u := by
      have : its[i]? = some y := by simpa using hP
      rw [hu] at this
      exact (Option.some.inj this).symm
    subst ey
    refine ⟨_, rfl, wpAny_letOwnedTupleGo_enum (s := { s with heap := h', toks := tk + 1 }) ho fun h'' he' sb => ?_⟩
    have hT2 := (sb.2 _ (Nat.ne_of_gt l1)).trans hT
    have new : ObjOk X.prog X.w (upd H s.heap.objs.size (.tup [.int (i : Nat), x])) h'' s.heap.objs.size (.tup [.int (i : Nat), x]) :=
      ⟨by show 2 ≤ sizeLine; decide, [.int i tk, y], .cons ⟨_, rfl⟩ (.cons ru .nil), ⟨_, hT2, rfl, _, rfl⟩⟩
    have I1 : Inv X pins σ (upd H s.heap.objs.size (.tup [.int (i : Nat), x])) { s with heap := h'', toks := tk + 1 } :=
      I.turnedNew (ch := [e, it]) (fun b ob hb q => (sb.2 b (fun z => hb (by simp [z]))).trans (hk b ob (fun z => hb (by simp [z])) (fun z => hb (by simp [z])) q)) hf (Nat.le_refl _) new
    refine ⟨.ref s.heap.objs.size, _, I1, rfl, ⟨_, x, rfl, I.hok.fresh (Nat.le_refl _), rfl, fun ys hy => by rw [I.tuple_inj hy hq]; exact hx⟩, ⟨⟨y, ?_⟩, hs'.1.at fun o q => (sb.2 it (Ne.symm h3)).trans q, h3, h4⟩, fun b hb => ?_⟩
    · have e1 : ((i + 1 : Nat) : Int) = (i : Int) + 1 := by omega
      rw [e1]; exact he'
    · have lb : b < s.heap.objs.size := by
        have cs : b = e ∨ b = it := by simpa using hb
        rcases cs with z | z
        · rw [z]; exact l1
        · rw [z]; exact l2
      rw [upd_ne (Nat.ne_of_lt lb)]
      exact (hf b hb).1
  done := by
    intro X hP hw hK hc i pins s σ H E I hf st hg
    subst hP hw hK
    obtain ⟨⟨old, h1⟩, h2, h3, h4⟩ := st
    obtain ⟨xs, hq, hx⟩ := hg
    obtain ⟨its, rv, p, hz⟩ := I.tuple hq
    obtain ⟨f0, f1, f2, f3, f4, f5⟩ := hf it (by simp)
    have hl := rv.length
    have Dr : Draws X.prog X.w X.A.in1 it [it, a] i (fun _ _ => True) (fun j h => (h.IsTupleIter it a j ∧ h.IsTuple a its.toArray) ∧ j = i) :=
      ⟨fun _ _ st => let ⟨o, ho, _⟩ := st.1.1; ⟨o, ho⟩, fun _ _ _ st hk => ⟨⟨st.1.1.at fun o e => hk it (by simp) o e, st.1.2.at fun o e => hk a (by simp) o e⟩, st.2⟩,
       fun j s Q E hj st hQ => absurd st.2 (Nat.ne_of_lt hj),
       fun s Q E st hE => wpAny_nextOf_tuple_end (I.ok.hd hc) st.1.1 st.1.2 (by simp; omega) hE⟩
    exact wpAny_pyNext_enum_endD Dr h1 ⟨⟨h2, p⟩, rfl⟩ fun h' eb => ⟨rfl, I.turned (t' := s.toks) (fun b o hb q => eb b o hb q) f0 f1 f3 f4 f5⟩
  self := fun A i s Q E st h => let ⟨⟨_, he⟩, _⟩ := st; wpAny_pyIter_enum he h

/-- enumerate(v), v a tuple -/
theorem call_enumT {prog : Program} {w : World} {A : Around} {E : Value → Shared → Prop} {s : Shared} {t : Addr} {items : Array Value} {Q : Value → Shared → Prop} (hT : s.heap.IsTuple t items)
    (h : ∀ h', IsEnum h' (s.heap.objs.size + 1) s.heap.objs.size 0 .none → h'.IsTupleIter s.heap.objs.size t 0 → h'.objs.size = s.heap.objs.size + 2 →
      (∀ b o, s.heap.get? b = some o → h'.get? b = some o) → Q (.ref (s.heap.objs.size + 1)) { s with heap := h' }) : wpAny (model prog w) A (call (.type "enumerate") [.ref t]) Q E s := by
  refine callType_new F.called_enumerate (by decide) (F.typeCall_enumerate_1 _) (F.newCall_enumerate_1 _) (fun obj => F.args_object_init_2 obj _) F.entry_enumerate_new (enum_new1 (begins_tuple t items)) ⟨hT, ?_⟩
  generalize hob : ({ cls := .type "tuple_iterator", data := .fields #[.ref t, .int 0 0] } : Obj) = ob
  have sz : (s.heap.push ob).objs.size = s.heap.objs.size + 1 := Heap.size_push ..
  show _ ∧ _
  rw [sz]
  generalize hen : ({ cls := .type "enumerate", data := .fields #[.none, .bool false, .ref s.heap.objs.size, rawInt 0, .none, .none] } : Obj) = en
  have h1 : ((s.heap.push ob).push en).get? (s.heap.objs.size + 1) = some en := by
    have := Heap.get?_push_size (s.heap.push ob) (o := en) (by rw [← hen]; rfl)
    rwa [sz] at this
  have h0 : ((s.heap.push ob).push en).get? s.heap.objs.size = some ob := Heap.get?_push_of_some _ (Heap.get?_push_size _ (by rw [← hob]; rfl))
  have he : IsEnum ((s.heap.push ob).push en) (s.heap.objs.size + 1) s.heap.objs.size 0 .none := by rw [← hen] at h1 ⊢; exact h1
  refine ⟨⟨_, he, rfl⟩, h _ he ⟨ob, h0, by rw [← hob], by rw [← hob]; rfl⟩ (by rw [Heap.size_push, sz]) fun b o x => Heap.get?_push_of_some _ (Heap.get?_push_of_some _ x)⟩
def iEnumA (K : PySem.W.Frag) (ta : TA) : TI := fun σ H R => ta σ H fun vs H1 => ∃ a xs, vs = [.ref a] ∧ ((SqL K H1 a xs ∧ R (Ite K a) H1) ∨ (SqT K H1 a xs ∧ R (Itet K a) H1))
theorem pi_enumA {X : Cx} {e : Expr} {ta : TA} {p pos tpos : Pos} {elts : List Expr} {kk : Nat} (hg : Gl X "enumerate") (hm : X.mg "enumerate" = none) (ha : PA X [e] ta) (hs : starEach [e] X.env = (false, eval e X.env) :: starEach [] X.env) :
    PI X (.Tuple elts kk tpos) (.Call (.Name "enumerate" p) [e] [] pos) (iEnumA X.K ta) := by
  refine ⟨fun pins st σ H R I h => ?_⟩
  refine Call_ (ld_blt I hg hm boot_enumerate (PyProof.Rows.callWith_type1 (thn (ha.run pos pins st σ H _ I h) fun us s1 ⟨vs, H1, I1, r1, a, xs, ex, q⟩ => ?_) hs rfl))
  subst ex
  cases r1 with
  | cons r rr =>
    cases rr
    cases r
    have fp : ∀ b, b ∈ [s1.heap.objs.size + 1, s1.heap.objs.size] → FpOk X pins H1 b := fun b hb => by
      have le : s1.heap.objs.size ≤ b := by
        have cs : b = s1.heap.objs.size + 1 ∨ b = s1.heap.objs.size := by simpa using hb
        omega
      exact I1.fpOk le (I1.hok.fresh le)
    rcases q with ⟨hq, q⟩ | ⟨hq, q⟩
    · obtain ⟨its, rv, p', hz⟩ := I1.list hq
      refine call_enumerate_list p'.isList fun h' z1 z2 z3 z4 => wpAny_pyIter_enum z1 ?_
      exact ⟨s1.heap.objs.size + 1, _, _, _, H1, rfl, I1.kept (t' := s1.toks) z4, turn_enum a (s1.heap.objs.size + 1) s1.heap.objs.size, ⟨⟨.none, z1⟩, z2, Nat.succ_ne_self _⟩, fp, q⟩
    · obtain ⟨its, rv, p', hz⟩ := I1.tuple hq
      have la : a < s1.heap.objs.size := by obtain ⟨o, ho, _⟩ := id p'; exact Heap.lt_size ho
      refine call_enumT (show s1.heap.IsTuple a its.toArray from p') fun h' z1 z2 z3 z4 => wpAny_pyIter_enum z1 ?_
      exact ⟨s1.heap.objs.size + 1, _, _, _, H1, rfl, I1.kept (t' := s1.toks) z4, turn_enumT a (s1.heap.objs.size + 1) s1.heap.objs.size (Nat.ne_of_lt la), ⟨⟨.none, z1⟩, z2, Nat.succ_ne_self _, (Nat.ne_of_lt (Nat.lt_succ_of_lt la)).symm⟩, fp, q⟩
theorem wk_enumT {g : Gp} {T : Tx} {s : Sg} {l : List D} {a : Addr} (h : StT g T s l a) : Wk g T (Itet g.K a) (enumD l 0) s where
  go := fun i s' σ H hi le J => by
    rw [enumD_len] at hi
    obtain ⟨vs, q, r⟩ := h s' σ H le J
    obtain ⟨d, v, _, e, _⟩ := reps_at r hi
    exact ⟨vs, v, q, e⟩
  stop := fun s' σ H le J => by
    obtain ⟨vs, q, r⟩ := h s' σ H le J
    exact ⟨vs, q, by rw [enumD_len]; exact Nat.le_of_eq (reps_len r).symm⟩
  yld := fun i s' σ H x H' hi le J y => by
    rw [enumD_len] at hi
    obtain ⟨vs, q, r⟩ := h s' σ H le J
    obtain ⟨T', p, rfl, hT, rfl, y1⟩ := y
    obtain ⟨d, v, e1, e2, r1⟩ := reps_at r hi
    have z := y1 vs q
    rw [e2] at z
    cases z
    obtain ⟨s'', k⟩ := newpair (x := .int (i : Nat)) (vx := .int (i : Nat)) J hT rfl r1
    exact ⟨_, s'', by rw [enumD_get e1]; congr 4; omega, k⟩
/-! ### the rules of iterables -/
theorem _root_.L2.PI.weak {X : Cx} {tg e : Expr} {t t' : TI} (h : PI X tg e t) (k : ∀ σ H R, t' σ H R → t σ H R) : PI X tg e t' := ⟨fun pins s σ H R I q => h.run pins s σ H R I (k σ H R q)⟩
section
variable {T : Tx} {W : WX} {X : Cx} {pos : Pos} {a b tg : Expr} {ma mb : M D} {pa pb : M PV}
/-- a list, a tuple, a text -/
theorem i_val (ha : SP T W X a pa) : SI T W X tg a (mbind pa fun p => mbind (mresL p) fun d => mopt (iterD d)) := by
  refine ⟨fun pins st σ H R I ⟨sg, A, q⟩ => ?_⟩
  refine thn (ha.run pins st σ H (fun v H1 => ∃ s1 d l, At X.gp T s1 σ H1 ∧ Stay X.gp T s1 d v ∧ iterD d = some l ∧ ∀ J, Wk X.gp T J l s1 → R J H1) I ⟨sg, A, q.bind.mono fun p s1 H1 le J q1 v hv => ?_⟩) fun v s1 ⟨x, H1, I1, r1, sg1, d, l, A1, sy, e, k⟩ => ?_
  · obtain ⟨d, sy, q2⟩ := q1.resL J hv
    obtain ⟨l, e, q3⟩ := q2.opt
    exact ⟨s1, d, l, J, sy, e, q3.ret J⟩
  · have lst : ∀ ad, x = .ref ad → StL X.gp T sg1 l ad → wpAny (model X.prog X.w) X.A (pyIter v) (PIE X pins σ tg R) X.xe s1 := fun ad ev h => by
      subst ev
      cases r1
      obtain ⟨vs, q, _⟩ := h sg1 σ H1 (Lp.refl _) A1
      obtain ⟨its, rv, p, hz⟩ := I1.list q
      exact wpAny_pyIter_list p.isList (pi_one (tk := s1.toks) I1 _ (turn_list ad _) ⟨_, Heap.get?_push_size _ rfl, rfl, rfl⟩ (k _ (wk_list h)))
    cases d with
    | lst l' =>
      cases e
      obtain ⟨ad, ev, h⟩ := sy.lst A1
      exact lst ad ev h
    | fz l' =>
      cases e
      obtain ⟨ad, ev, h⟩ := sy.fz A1
      exact lst ad ev h
    | tup l' =>
      cases e
      obtain ⟨ad, ev, h⟩ := sy.tup A1
      subst ev
      cases r1
      obtain ⟨vs, q, _⟩ := h sg1 σ H1 (Lp.refl _) A1
      obtain ⟨its, rv, p, hz⟩ := I1.tuple q
      exact wpAny_pyIter_tuple (show s1.heap.IsTuple ad its.toArray from p) (pi_one (tk := s1.toks) I1 _ (turn_tuple ad _) ⟨_, Heap.get?_push_size _ rfl, rfl, rfl⟩ (k _ (wk_tup h)))
    | str z =>
      have e2 : l = z.cps.toList.map fun c => .str ⟨#[c]⟩ := by
        have e : (if okLen z.length then some (z.cps.toList.map fun c => D.str ⟨#[c]⟩) else none) = some l := e
        split at e
        · exact (Option.some.inj e).symm
        · cases e
      subst e2
      have ev : x = .str z := wstr (sy sg1 σ H1 (Lp.refl _) A1)
      subst ev
      obtain ⟨t, rfl⟩ := r1
      cases hasc : z.cps.all (· < 128)
      · exact wpAny_pyIter_wide hasc (pi_one (tk := s1.toks) I1 _ (turn_str _ z t "str_iterator" (.inr rfl)) ⟨_, Heap.get?_push_size _ rfl, rfl, rfl⟩ (k _ wk_str))
      · exact wpAny_pyIter_ascii hasc (pi_one (tk := s1.toks) I1 _ (turn_str _ z t "str_ascii_iterator" (.inl rfl)) ⟨_, Heap.get?_push_size _ rfl, rfl, rfl⟩ (k _ wk_str))
    | _ => cases e
theorem rngD_ok {lo hi : Int} {l : List D} (h : rngD lo hi = some l) : l = intsFrom lo (hi - lo).toNat ∧ -(2 ^ 62) ≤ lo ∧ lo < 2 ^ 62 ∧ -(2 ^ 62) ≤ hi ∧ hi < 2 ^ 62 := by
  unfold rngD at h
  split at h
  · rename_i hd
    have hd := of_decide_eq_true hd
    exact ⟨(Option.some.inj h).symm, by omega⟩
  · cases h
theorem i_rng1 {p : Pos} (hg : Gl X "range") (hm : X.mg "range" = none) (hn : ∀ x p, a ≠ .Starred x p) (ha : SE T W X a ma) : SI T W X tg (.Call (.Name "range" p) [a] [] pos) (mbind ma fun d => match d with
    | .int n => mopt (rngD 0 n)
    | _ => mstk) :=
  (pi_range1 hg hm (pa_cons ha pa_nil (starCons hn)) (starCons hn)).weak fun σ H R ⟨s, I, q⟩ => ⟨s, I, q.bind.mono fun d s1 H1 le J q1 v hv => by
    cases d with
    | int n =>
      obtain ⟨l, e, q2⟩ := q1.opt
      obtain ⟨e1, _, _, h3, h4⟩ := rngD_ok e
      have ev : v = .int n := hv
      subst ev e1
      rw [Int.sub_zero] at q2
      exact ⟨n, rfl, h3, h4, q2.ret J _ wk_range⟩
    | _ => exact (Aft.stk q1).elim⟩
theorem i_rng2 {p : Pos} (hg : Gl X "range") (hm : X.mg "range" = none) (hn : ∀ x p, a ≠ .Starred x p) (hn2 : ∀ x p, b ≠ .Starred x p) (ha : SE T W X a ma) (hb : SE T W X b mb) : SI T W X tg (.Call (.Name "range" p) [a, b] [] pos) (mbind ma fun x => mbind mb fun y => match x, y with
    | .int lo, .int hi => mopt (rngD lo hi)
    | _, _ => mstk) :=
  (pi_range2 hg hm (pa_cons ha (pa_cons hb pa_nil (starCons hn2)) (starCons hn)) (by rw [starCons hn, starCons hn2]; rfl) (starCons hn2)).weak fun σ H R ⟨s, I, q⟩ => ⟨s, I, q.bind.mono fun d s1 H1 le J q1 v hv => ⟨s1, J, q1.bind.mono fun d2 s2 H2 le2 J2 q2 v2 hv2 => by
    cases d with
    | int lo =>
      cases d2 with
      | int hi =>
        obtain ⟨l, e, q3⟩ := q2.opt
        obtain ⟨e1, h⟩ := rngD_ok e
        have ev : v = .int lo := hv
        have ev2 : v2 = .int hi := hv2
        subst ev ev2 e1
        exact ⟨lo, hi, rfl, h, q3.ret J2 _ wk_range⟩
      | _ => exact (Aft.stk q2).elim
    | _ => exact (Aft.stk q2).elim⟩⟩
theorem i_rng3 {p : Pos} {d : Expr} {md : M D} (hg : Gl X "range") (hm : X.mg "range" = none) (hn : ∀ x p, a ≠ .Starred x p) (hn2 : ∀ x p, b ≠ .Starred x p) (hn3 : ∀ x p, d ≠ .Starred x p) (ha : SE T W X a ma) (hb : SE T W X b mb) (hd : SE T W X d md) : SI T W X tg (.Call (.Name "range" p) [a, b, d] [] pos)
    (mbind ma fun x => mbind mb fun y => mbind md fun z => match x, y, z with
    | .int lo, .int hi, .int st => mopt (rngD3 lo hi st)
    | _, _, _ => mstk) :=
  (pi_range3 hg hm (pa_cons ha (pa_cons hb (pa_cons hd pa_nil (starCons hn3)) (starCons hn2)) (starCons hn)) (starCons hn) (by rw [starCons hn2, starCons hn3]; rfl)).weak fun σ H R ⟨s, I, q⟩ => ⟨s, I, q.bind.mono fun x s1 H1 le J q1 v hv => ⟨s1, J, q1.bind.mono fun y s2 H2 le2 J2 q2 v2 hv2 => ⟨s2, J2, q2.bind.mono fun z s3 H3 le3 J3 q3 v3 hv3 => by
    cases x with
    | int lo =>
      cases y with
      | int hi =>
        cases z with
        | int st =>
          obtain ⟨l, e, q4⟩ := q3.opt
          unfold rngD3 at e
          split at e
          · rename_i hc
            rw [Bool.and_eq_true] at hc
            have h1 := of_decide_eq_true hc.1
            have ev : v = .int lo := hv
            have ev2 : v2 = .int hi := hv2
            have ev3 : v3 = .int st := hv3
            subst ev ev2 ev3
            cases e
            exact ⟨lo, hi, st, (Builtin.Range.rangeSize lo hi st).toNat, rfl, ⟨by omega, by omega, hc.2, rangeSize_toNat lo hi st⟩, q4.ret J3 _ wk_rangeC⟩
          · cases e
        | _ => exact (Aft.stk q3).elim
      | _ => exact (Aft.stk q3).elim
    | _ => exact (Aft.stk q3).elim⟩⟩⟩
theorem i_enm {p tpos : Pos} {elts : List Expr} {kk : Nat} (hg : Gl X "enumerate") (hm : X.mg "enumerate" = none) (hn : ∀ x p, a ≠ .Starred x p) (ha : SP T W X a pa) : SI T W X (.Tuple elts kk tpos) (.Call (.Name "enumerate" p) [a] [] pos)
    (mbind pa fun p => mbind (mresL p) fun d => mopt ((seqD d).map fun l => enumD l 0)) :=
  (pi_enumA hg hm (pa_cons ha pa_nil (starCons hn)) (starCons hn)).weak fun σ H R ⟨s, I, q⟩ => ⟨s, I, q.bind.mono fun p s1 H1 le J q1 v hv => by
    obtain ⟨d, sy, q2⟩ := q1.resL J hv
    obtain ⟨l', e, q3⟩ := q2.opt
    cases d with
    | lst l =>
      cases e
      obtain ⟨ad, ev, h⟩ := sy.lst J
      obtain ⟨vs, sq, _⟩ := h s1 σ H1 (Lp.refl _) J
      exact ⟨ad, vs, by rw [ev], .inl ⟨sq, q3.ret J _ (wk_enum h)⟩⟩
    | tup l =>
      cases e
      obtain ⟨ad, ev, h⟩ := sy.tup J
      obtain ⟨vs, sq, _⟩ := h s1 σ H1 (Lp.refl _) J
      exact ⟨ad, vs, by rw [ev], .inr ⟨sq, q3.ret J _ (wk_enumT h)⟩⟩
    | _ => cases e⟩
theorem i_zip {p tpos : Pos} {elts : List Expr} {kk : Nat} (hg : Gl X "zip") (hm : X.mg "zip" = none) (hn : ∀ x p, a ≠ .Starred x p) (hn2 : ∀ x p, b ≠ .Starred x p) (ha : SP T W X a pa) (hb : SP T W X b pb) : SI T W X (.Tuple elts kk tpos) (.Call (.Name "zip" p) [a, b] [] pos)
    (mbind pa fun p => mbind pb fun q => mbind (mresL p) fun x => mbind (mresL q) fun y => mopt (zipO x y)) :=
  (RZ.pi_zipA hg hm (pa_cons ha (pa_cons hb pa_nil (starCons hn2)) (starCons hn)) (starCons hn) (by rw [starCons hn2]; rfl)).weak fun σ H R ⟨s, I, q⟩ => ⟨s, I, q.bind.mono fun p s1 H1 le J q1 v hv => ⟨s1, J, q1.bind.mono fun p2 s2 H2 le2 J2 q2 v2 hv2 => by
    obtain ⟨d, sy, q3⟩ := q2.resL J2 (prep_le le2 hv)
    obtain ⟨d2, sy2, q4⟩ := q3.resL J2 hv2
    obtain ⟨l', e, q5⟩ := q4.opt
    cases d with
    | lst l =>
      cases d2 with
      | lst l2 =>
        cases e
        obtain ⟨ad, ev, h⟩ := sy.lst J2
        obtain ⟨ad2, ev2, h2⟩ := sy2.lst J2
        obtain ⟨vs, sq, _⟩ := h s2 σ H2 (Lp.refl _) J2
        obtain ⟨vs2, sq2, _⟩ := h2 s2 σ H2 (Lp.refl _) J2
        exact ⟨ad, ad2, vs, vs2, by rw [ev, ev2], .inl ⟨sq, sq2, q5.ret J2 _ (wk_zip h h2)⟩⟩
      | _ => cases e
    | tup l =>
      cases d2 with
      | tup l2 =>
        cases e
        obtain ⟨ad, ev, h⟩ := sy.tup J2
        obtain ⟨ad2, ev2, h2⟩ := sy2.tup J2
        obtain ⟨vs, sq, _⟩ := h s2 σ H2 (Lp.refl _) J2
        obtain ⟨vs2, sq2, _⟩ := h2 s2 σ H2 (Lp.refl _) J2
        exact ⟨ad, ad2, vs, vs2, by rw [ev, ev2], .inr ⟨sq, sq2, q5.ret J2 _ (wk_zipT h h2)⟩⟩
      | _ => cases e
    | _ => cases e⟩⟩
/-! ### targets -/
theorem g_name {i : Nat} {x : Str} (hN : X.N.Nodup) (hi : X.N[i]? = some x) (hx : Loc X.env.scope x) (hf : X.fn x = true ∨ X.env.scope.names.lookup x = some .local) : SG T X (.Name x pos) [i] (fun d => fun ρ S => if i < ρ.length then .ok () (ρ.set i (.val d)) S else .stk) := by
  refine ⟨fun pins st σ H v u Q I r ⟨s, d, A, rd, q⟩ => (pg_name hN hi hx hf).run pins st σ H v u Q I r ?_⟩
  have hl : i < s.ρ.length := by
    by_cases h : i < s.ρ.length
    · exact h
    · simp only [if_neg h] at q
  dsimp only at q
  rw [if_pos hl] at q
  exact q { s with ρ := s.ρ.set i (.val d) } _ H ⟨rfl, Sub.refl _, fun _ _ h => h⟩ rfl rfl (A.setval rd) (by simp) fun j hj => by
    rw [List.getElem?_set_ne]
    simpa using (fun e : i = j => hj (by rw [e]; exact List.mem_singleton.mpr rfl))
/-- several values to several targets -/
def tGs (T : Tx) (g : Gp) (ix : List Nat) (f : List D → M Unit) : TGs := fun vs σ H Q => ∃ s l, At g T s σ H ∧ reps g s.μ s.G l vs ∧ (match f l s.ρ s.S with
  | .ok _ ρ S => ∀ s' σ' H', Le s s' → s'.ρ = ρ → s'.S = S → At g T s' σ' H' → σ'.length = σ.length → (∀ i, i ∉ ix → σ'[i]? = σ[i]?) → Q σ' H'
  | _ => False)
abbrev SGs (T : Tx) (X : Cx) (tgs : List Expr) (ix : List Nat) (f : List D → M Unit) : Prop := PGs X tgs (tGs T X.gp ix f)
theorem gs_nil : SGs T X [] [] (fun l => match l with | [] => mret () | _ => mstk) := by
  refine ⟨fun pins st σ H vs us Q I r ⟨s, l, A, rl, q⟩ => pgs_nil.run pins st σ H vs us Q I r ?_⟩
  cases l with
  | nil => exact ⟨rl, q s σ H (Le.refl _) rfl rfl A rfl fun _ _ => rfl⟩
  | cons _ _ => exact q.elim
theorem gs_cons {e : Expr} {es : List Expr} {ix ixs : List Nat} {f : D → M Unit} {fs : List D → M Unit} (h1 : SG T X e ix f) (h2 : SGs T X es ixs fs) (hs : (assignEach (e :: es) X.env).map (·.2) = assign e X.env :: (assignEach es X.env).map (·.2)) :
    SGs T X (e :: es) (ix ++ ixs) (fun l => match l with | d :: r => mbind (f d) fun _ => fs r | _ => mstk) := by
  refine ⟨fun pins st σ H vs us Q I r ⟨s, l, A, rl, q⟩ => (pgs_cons h1 h2 hs).run pins st σ H vs us Q I r ?_⟩
  cases l with
  | nil => exact q.elim
  | cons d r =>
    obtain ⟨v, vr, ev, rv, rr⟩ := rl
    refine ⟨v, vr, ev, s, d, A, rv, ?_⟩
    have q : (match mbind (f d) (fun _ => fs r) s.ρ s.S with
      | .ok _ ρ S => ∀ s' σ' H', Le s s' → s'.ρ = ρ → s'.S = S → At X.gp T s' σ' H' → σ'.length = σ.length → (∀ i, i ∉ ix ++ ixs → σ'[i]? = σ[i]?) → Q σ' H'
      | _ => False) := q
    unfold mbind at q
    cases e1 : f d s.ρ s.S with
    | stk => rw [e1] at q; exact q
    | exc c ρ S => rw [e1] at q; exact q
    | ok a ρ1 S1 =>
      rw [e1] at q
      intro s1 σ1 H1 le er es A1 hl hfr
      refine ⟨s1, r, A1, reps_le le rr, ?_⟩
      rw [er, es]
      dsimp only at q
      cases e2 : fs r ρ1 S1 with
      | stk => rw [e2] at q; exact q
      | exc c ρ S => rw [e2] at q; exact q
      | ok a2 ρ2 S2 =>
        rw [e2] at q
        intro s2 σ2 H2 le2 er2 es2 A2 hl2 hfr2
        exact q s2 σ2 H2 (le.trans le2) er2 es2 A2 (hl2.trans hl) fun i hi => by
          rw [List.mem_append, not_or] at hi
          rw [hfr2 i hi.2, hfr i hi.1]
theorem g_tup {es : List Expr} {k : Nat} {ix : List Nat} {f : List D → M Unit} (hc : X.calm = true) (h : SGs T X es ix f) (hl : (assignEach es X.env).length = es.length) (hst : (assignEach es X.env).findIdx? (·.1) = none) (hf : ∀ l ρ S, l.length ≠ es.length → f l ρ S = .stk) :
    SG T X (.Tuple es k pos) ix (fun d => match seqD d with
    | some l => f l
    | none => mstk) := by
  refine ⟨fun pins st σ H v u Q I r ⟨s, d, A, rd, q⟩ => ?_⟩
  cases d with
  | lst l =>
    have q : (match f l s.ρ s.S with
      | .ok _ ρ S => ∀ s' σ' H', Le s s' → s'.ρ = ρ → s'.S = S → At X.gp T s' σ' H' → σ'.length = σ.length → (∀ i, i ∉ ix → σ'[i]? = σ[i]?) → Q σ' H'
      | _ => False) := q
    obtain ⟨a, vs, ev, e1, rs⟩ := rd
    by_cases hlen : l.length = es.length
    · exact (pg_unl (n := es.length) hc h hl hst).run pins st σ H v u Q I r ⟨a, vs, ev, SqL.of (A.gh _ _ e1), (reps_len rs).symm.trans hlen, s, l, A, rs, q⟩
    · rw [hf l _ _ hlen] at q; exact q.elim
  | tup l =>
    have q : (match f l s.ρ s.S with
      | .ok _ ρ S => ∀ s' σ' H', Le s s' → s'.ρ = ρ → s'.S = S → At X.gp T s' σ' H' → σ'.length = σ.length → (∀ i, i ∉ ix → σ'[i]? = σ[i]?) → Q σ' H'
      | _ => False) := q
    obtain ⟨a, vs, ev, e1, rs⟩ := rd
    by_cases hlen : l.length = es.length
    · exact (pg_tup (n := es.length) hc h hl hst).run pins st σ H v u Q I r ⟨a, vs, ev, .inl (.inl (A.gh _ _ e1)), (reps_len rs).symm.trans hlen, s, l, A, rs, q⟩
    · rw [hf l _ _ hlen] at q; exact q.elim
  | _ => exact q.elim
end
end MP

namespace MP
open PySem PySem.Spec L2
/-- what is wanted behind a run of statements, by how it ends -/
def FlD (g : Gp) (s' : Sg) (D : Ends) (σ' : L2.St) (H' : Hp) : Fl → Prop
  | .nx => D.nx σ' H'
  | .bk => D.bk σ' H'
  | .ct => D.ct σ' H'
  | .rt d => ∀ v, rep g s'.μ s'.G d v → D.rt v H'
section
variable {g : Gp} {T : Tx} {W : WX} {α : Type} {s s' s1 : Sg} {σ : L2.St} {H : Hp} {D : Ends}
def AftS (g : Gp) (T : Tx) (W : WX) (m : M Fl) (s : Sg) (D : Ends) : Prop := match m s.ρ s.S with
  | .ok f ρ S => ∀ s' σ' H', Le s s' → s'.ρ = ρ → s'.S = S → At g T s' σ' H' → FlD g s' D σ' H' f
  | .exc c ρ S => ∀ s' σ' H', Le s s' → s'.ρ = ρ → s'.S = S → At g T s' σ' H' → W (gcls g c) none σ' H'
  | .stk => False
theorem tSt_iff {m : M Fl} : tSt T W g m D σ H ↔ ∃ s, At g T s σ H ∧ AftS g T W m s D := by
  constructor
  · rintro ⟨s, I, q⟩
    refine ⟨s, I, ?_⟩
    unfold AftS
    cases e : m s.ρ s.S with
    | ok f ρ S =>
      rw [e] at q
      intro s' σ' H' l e1 e2 J
      have := q s' σ' H' l e1 e2 J
      cases f <;> exact this
    | exc c ρ S => rw [e] at q; exact q
    | stk => rw [e] at q; exact q
  · rintro ⟨s, I, q⟩
    refine ⟨s, I, ?_⟩
    unfold AftS at q
    cases e : m s.ρ s.S with
    | ok f ρ S =>
      rw [e] at q
      intro s' σ' H' l e1 e2 J
      have := q s' σ' H' l e1 e2 J
      cases f <;> exact this
    | exc c ρ S => rw [e] at q; exact q
    | stk => rw [e] at q; exact q
theorem AftS.go {m : M Fl} (I : At g T s σ H) (q : AftS g T W m s D) : tSt T W g m D σ H := tSt_iff.mpr ⟨s, I, q⟩
theorem AftS.le {m : M Fl} (q : AftS g T W m s D) (l : Le s s1) (e1 : s1.ρ = s.ρ) (e2 : s1.S = s.S) : AftS g T W m s1 D := by
  unfold AftS at q ⊢
  rw [e1, e2]
  cases e : m s.ρ s.S with
  | ok f ρ S => rw [e] at q; exact fun s' σ' H' l' => q s' σ' H' (l.trans l')
  | exc c ρ S => rw [e] at q; exact fun s' σ' H' l' => q s' σ' H' (l.trans l')
  | stk => rw [e] at q; exact q
/-- an expression ahead -/
theorem AftS.bind {me : M α} {k : α → M Fl} (q : AftS g T W (mbind me k) s D) : Aft g T W me s σ fun a s1 H1 => AftS g T W (k a) s1 D := by
  unfold AftS mbind at q
  unfold Aft
  cases e : me s.ρ s.S with
  | ok a ρ S =>
    rw [e] at q
    intro s1 H1 l e1 e2 I
    subst e1 e2
    unfold AftS
    dsimp only at q
    cases e2 : k a s1.ρ s1.S with
    | ok f ρ' S' => rw [e2] at q; exact fun s' σ' H' l' => q s' σ' H' (l.trans l')
    | exc c ρ' S' => rw [e2] at q; exact fun s' σ' H' l' => q s' σ' H' (l.trans l')
    | stk => rw [e2] at q; exact q
  | exc c ρ S => rw [e] at q; exact fun s' H' l e1 e2 I => q s' σ H' l e1 e2 I
  | stk => rw [e] at q; exact q
theorem AftS.ret {f : Fl} (q : AftS g T W (mret f) s D) (I : At g T s σ H) : FlD g s D σ H f := q s σ H (Le.refl _) rfl rfl I
theorem AftS.opt {o : Option α} {k : α → M Fl} (q : AftS g T W (mbind (mopt o) k) s D) : ∃ a, o = some a ∧ AftS g T W (k a) s D := by
  cases o with
  | none => exact q.elim
  | some a => exact ⟨a, rfl, q⟩
/-- statements ahead -/
theorem AftS.seq {ma : M Fl} {mb : M Fl} (q : AftS g T W (mbind ma fun f => match f with | .nx => mb | f => mret f) s D) : AftS g T W ma s { D with nx := tSt T W g mb D } := by
  unfold AftS mbind at q
  unfold AftS
  cases e : ma s.ρ s.S with
  | ok f ρ S =>
    rw [e] at q
    intro s1 σ1 H1 l e1 e2 I
    subst e1 e2
    cases f with
    | nx =>
      refine AftS.go I ?_
      unfold AftS
      dsimp only at q
      cases e2 : mb s1.ρ s1.S with
      | ok f ρ' S' => rw [e2] at q; exact fun s' σ' H' l' => q s' σ' H' (l.trans l')
      | exc c ρ' S' => rw [e2] at q; exact fun s' σ' H' l' => q s' σ' H' (l.trans l')
      | stk => rw [e2] at q; exact q
    | rt d => exact q s1 σ1 H1 l rfl rfl I
    | bk => exact q s1 σ1 H1 l rfl rfl I
    | ct => exact q s1 σ1 H1 l rfl rfl I
  | exc c ρ S => rw [e] at q; exact q
  | stk => rw [e] at q; exact q
/-- a target ahead -/
theorem AftS.bindG {ft : MP.D → M Unit} {k : Unit → M Fl} {d : MP.D} {v : V} {ix : List Nat} {Q : L2.St → Hp → Prop} (q : AftS g T W (mbind (ft d) k) s D) (I : At g T s σ H) (r : rep g s.μ s.G d v) (hne : ∀ c ρ S, ft d s.ρ s.S ≠ .exc c ρ S)
    (h : ∀ s1 σ1 H1, Le s s1 → At g T s1 σ1 H1 → AftS g T W (k ()) s1 D → Q σ1 H1) : tG T g ix ft v σ H Q := by
  refine ⟨s, d, I, r, ?_⟩
  unfold AftS mbind at q
  cases e : ft d s.ρ s.S with
  | ok u ρ S =>
    rw [e] at q
    intro s1 σ1 H1 l e1 e2 I1 _ _
    subst e1 e2
    refine h s1 σ1 H1 l I1 ?_
    unfold AftS
    dsimp only at q
    cases e2 : k () s1.ρ s1.S with
    | ok f ρ' S' => rw [e2] at q; exact fun s' σ' H' l' => q s' σ' H' (l.trans l')
    | exc c ρ' S' => rw [e2] at q; exact fun s' σ' H' l' => q s' σ' H' (l.trans l')
    | stk => rw [e2] at q; exact q
  | exc c ρ S => exact absurd e (hne c ρ S)
  | stk => rw [e] at q; exact q
end
mutual
theorem bindT_noexc : ∀ (t : Tg) (d : D) (ρ : Fr) (S : Store) (c : Str) (ρ' : Fr) (S' : Store), bindT t d ρ S ≠ .exc c ρ' S'
  | .v i, d, ρ, S, c, ρ', S' => by
    unfold bindT
    split <;> exact fun h => nomatch h
  | .tup ts, d, ρ, S, c, ρ', S' => by
    unfold bindT
    cases h : seqD d with
    | none => exact fun h => nomatch h
    | some l => exact bindTs_noexc ts l ρ S c ρ' S'
  | .tupS n ts, d, ρ, S, c, ρ', S' => by
    unfold bindT
    cases h : seqD d with
    | none => exact fun h => nomatch h
    | some l =>
      dsimp only
      split
      · exact bindTs_noexc ts _ ρ S c ρ' S'
      · exact fun h => nomatch h
theorem bindTs_noexc : ∀ (ts : Tgs) (l : List D) (ρ : Fr) (S : Store) (c : Str) (ρ' : Fr) (S' : Store), bindTs ts l ρ S ≠ .exc c ρ' S'
  | .nil, [], ρ, S, c, ρ', S' => by unfold bindTs; exact fun h => nomatch h
  | .nil, _ :: _, ρ, S, c, ρ', S' => by unfold bindTs; exact fun h => nomatch h
  | .cons t ts, [], ρ, S, c, ρ', S' => by unfold bindTs; exact fun h => nomatch h
  | .cons t ts, d :: l, ρ, S, c, ρ', S' => by
    unfold bindTs mbind
    cases e : bindT t d ρ S with
    | ok a ρ1 S1 => exact bindTs_noexc ts l ρ1 S1 c ρ' S'
    | exc c' ρ1 S1 => exact absurd e (bindT_noexc t d ρ S c' ρ1 S1)
    | stk => exact fun h => nomatch h
end
section
variable {T : Tx} {W : WX} {X : Cx} {pos : Pos} {e : Expr} {me : M D} {st : Stmt} {rest : List Stmt} {ma mb : M Fl}
theorem ss_weak {t : TS} {m : M Fl} (h : PS X st t) (k : ∀ D σ H s, At X.gp T s σ H → AftS X.gp T W m s D → t D σ H) : SS T W X st m := h.weak fun D σ H q => let ⟨s, I, q⟩ := tSt_iff.mp q; k D σ H s I q
theorem sss_weak {sts : List Stmt} {t : TS} {m : M Fl} (h : PSs X sts t) (k : ∀ D σ H s, At X.gp T s σ H → AftS X.gp T W m s D → t D σ H) : SSs T W X sts m := h.weak fun D σ H q => let ⟨s, I, q⟩ := tSt_iff.mp q; k D σ H s I q
theorem s_nil : SSs T W X [] (mret .nx) := sss_weak pss_nil fun D σ H s I q => q.ret I
theorem s_cons (h1 : SS T W X st ma) (h2 : SSs T W X rest mb) : SSs T W X (st :: rest) (mbind ma fun f => match f with | .nx => mb | f => mret f) :=
  sss_weak (pss_cons h1 h2) fun D σ H s I q => q.seq.go I
theorem s_one (h1 : SS T W X st ma) : SSs T W X [st] ma := pss_one h1
theorem s_nev : SS T W X st mstk := ss_weak ps_never fun D σ H s I q => q.elim
theorem ss_nev {sts : List Stmt} : SSs T W X sts mstk := sss_weak pss_never fun D σ H s I q => q.elim
theorem s_pass : SS T W X (.Pass pos) (mret .nx) := ss_weak ps_pass fun D σ H s I q => q.ret I
theorem s_doc {x : Str} {j : Nat} {p2 : Pos} : SS T W X (.Expr (.Constant (.str x) j p2) pos) (mret .nx) := ss_weak ps_doc fun D σ H s I q => q.ret I
theorem s_brk : SS T W X (.Break pos) (mret .bk) := ss_weak ps_break fun D σ H s I q => q.ret I
theorem s_cont : SS T W X (.Continue pos) (mret .ct) := ss_weak ps_continue fun D σ H s I q => q.ret I
theorem s_ex (he : SE T W X e me) (hs : swapsWith e none pos.line X.env = pure false) : SS T W X (.Expr e pos) (mbind me fun _ => mret .nx) :=
  ss_weak (ps_expr he hs) fun D σ H s I q => ⟨s, I, q.bind.mono fun d s1 H1 le J q1 v hv => q1.ret J⟩
theorem s_ret (he : SE T W X e me) : SS T W X (.Return (some e) pos) (mbind me fun d => mret (.rt d)) :=
  ss_weak (ps_ret he) fun D σ H s I q => ⟨s, I, q.bind.mono fun d s1 H1 le J q1 v hv => q1.ret J v hv⟩
theorem s_retN : SS T W X (.Return none pos) (mret (.rt .non)) := ss_weak ps_retN fun D σ H s I q => q.ret I .non rfl
theorem s_if {c : Expr} {a b : List Stmt} {mt : M Bool} (hc : SB T W X c mt) (ha : SSs T W X a ma) (hb : SSs T W X b mb) : SS T W X (.If c a b pos) (mbind mt fun k => if k then ma else mb) :=
  ss_weak (ps_if hc ha hb) fun D σ H s I q => ⟨s, I, q.bind.mono fun k s1 H1 le J q1 => by
    cases k with
    | true => exact AftS.go J q1
    | false => exact AftS.go J q1⟩
/-- name = e -/
theorem s_set {i : Nat} {x : Str} {p2 : Pos} (hN : X.N.Nodup) (hi : X.N[i]? = some x) (hx : Loc X.env.scope x) (hf : X.fn x = true ∨ X.env.scope.names.lookup x = some .local) (he : SE T W X e me) (hs : swapsWith e (some (.Name x p2)) pos.line X.env = pure false) :
    SS T W X (.Assign [.Name x p2] e pos) (mbind me fun d => mbind (bindT (.v i) d) fun _ => mret .nx) :=
  ss_weak (ps_set hN hi hx he hs hf) fun D σ H s I q => ⟨s, I, q.bind.mono fun d s1 H1 le J q1 v hv => by
    have hl : i < s1.ρ.length := by
      by_cases h : i < s1.ρ.length
      · exact h
      · unfold AftS mbind bindT at q1
        simp only [if_neg h] at q1
    unfold AftS mbind bindT at q1
    simp only [if_pos hl] at q1
    exact q1 { s1 with ρ := s1.ρ.set i (.val d) } _ H1 ⟨rfl, Sub.refl _, fun _ _ h => h⟩ rfl rfl (J.setval hv)⟩
/-- targets = e -/
theorem s_asg {tg : Expr} {ix : List Nat} {t : Tg} (hg : SG T X tg ix (bindT t)) (he : SE T W X e me) (hs : swapsWithSole [tg] e pos.line X.env = pure false) (hw : swappedStores [tg] e X.env = pure none) (h1 : (assignEach [tg] X.env).map (·.2) = [assign tg X.env]) :
    SS T W X (.Assign [tg] e pos) (mbind me fun d => mbind (bindT t d) fun _ => mret .nx) :=
  ss_weak (ps_asg he hg hs hw h1) fun D σ H s I q => ⟨s, I, q.bind.mono fun d s1 H1 le J q1 v hv => AftS.bindG q1 J hv (fun c ρ S => bindT_noexc t d _ _ c ρ S) fun s2 σ2 H2 _ J2 q2 => q2.ret J2⟩
/-- name = a new list of the frame's own -/
theorem setO_core {i : Nat} {ml : M (List D)} {D : Ends} {σ : L2.St} {H : Hp} {s : Sg} {g : Gp} (I : At g T s σ H) (q : AftS g T W (mbind ml fun l => fun ρ S => if i < ρ.length then .ok .nx (ρ.set i (.own (.lst l))) S else .stk) s D) :
    tF T W g ml σ H fun v H1 => gName i v σ H1 D.nx := ⟨s, I, q.bind.mono fun l s1 H1 le J q1 v hv => by
    have hl : i < s1.ρ.length := by
      by_cases h : i < s1.ρ.length
      · exact h
      · unfold AftS at q1
        simp only [if_neg h] at q1
    unfold AftS at q1
    simp only [if_pos hl] at q1
    obtain ⟨p, vs, ev, e1, r, h1, h2, h3, h4, h5⟩ := hv
    subst ev
    exact q1 { s1 with ρ := s1.ρ.set i (.own (.lst l)) } _ H1 ⟨rfl, Sub.refl _, fun _ _ h => h⟩ rfl rfl (J.setown ⟨vs, e1, r⟩ h1 h2 h3 h5 h4)⟩
abbrev setOM (i : Nat) (ml : M (List D)) : M Fl := mbind ml fun l => fun ρ S => if i < ρ.length then .ok .nx (ρ.set i (.own (.lst l))) S else .stk
theorem s_setO {i : Nat} {x : Str} {p2 : Pos} {ml : M (List D)} (hN : X.N.Nodup) (hi : X.N[i]? = some x) (hx : Loc X.env.scope x) (hf : X.fn x = true ∨ X.env.scope.names.lookup x = some .local) (he : SF T W X e ml) (hs : swapsWith e (some (.Name x p2)) pos.line X.env = pure false) :
    SS T W X (.Assign [.Name x p2] e pos) (setOM i ml) :=
  ss_weak (ps_set hN hi hx he hs hf) fun D σ H s I q => setO_core I q
/-! ### calls of a list's methods -/
theorem s_aug {i : Nat} {x : Str} {p2 : Pos} {o : Operator} (hN : X.N.Nodup) (hi : X.N[i]? = some x) (hx : Loc X.env.scope x) (hf : X.fn x = true ∨ X.env.scope.names.lookup x = some .local) (he : SE T W X e me) :
    SS T W X (.AugAssign (.Name x p2) o e pos) (mbind (peek i) fun p => match p with
    | .v x => mbind me fun y => mbind (mopt (opAug o x y)) fun d => mbind (bindT (.v i) d) fun _ => mret .nx
    | _ => mstk) := by
  have hop : PIp X o fun x y H Q => ∃ (s : Sg) (dx dy d : MP.D), rep X.gp s.μ s.G dx x ∧ rep X.gp s.μ s.G dy y ∧ opAug o dx dy = some d ∧ ∀ v, (∀ μ G, rep X.gp μ G d v) → Q v H := by
    intro pins st σ H x y v u Q I rx ry ⟨s, dx, dy, d, h1, h2, h3, k⟩
    unfold opAug at h3
    split at h3
    · obtain rfl := (h1 : x = .int _); obtain rfl := (h2 : y = .int _); cases h3
      exact iop_add pins st σ H _ _ v u Q I rx ry ⟨_, _, rfl, rfl, k _ fun _ _ => rfl⟩
    · obtain rfl := (h1 : x = .str _); obtain rfl := (h2 : y = .str _)
      split at h3
      · rename_i hl
        cases h3
        exact iop_add_str pins st σ H _ _ v u Q I rx ry ⟨_, _, rfl, rfl, okl hl, k _ fun _ _ => rfl⟩
      · cases h3
    · obtain rfl := (h1 : x = .int _); obtain rfl := (h2 : y = .int _); cases h3
      exact iop_sub pins st σ H _ _ v u Q I rx ry ⟨_, _, rfl, rfl, k _ fun _ _ => rfl⟩
    · obtain rfl := (h1 : x = .int _); obtain rfl := (h2 : y = .int _)
      split at h3
      · rename_i hl
        have hl2 := of_decide_eq_true hl
        cases h3
        exact iop_mul pins st σ H _ _ v u Q I rx ry ⟨_, _, rfl, rfl, hl2, k _ fun _ _ => rfl⟩
      · cases h3
    · cases h3
  refine ss_weak (ps_aug hN hi hx he hop hf) fun D σ H s I q => ?_
  -- the name's value
  unfold AftS mbind peek at q
  cases es : s.ρ[i]? with
  | none => simp only [es] at q
  | some sl =>
    cases sl with
    | none => simp only [es] at q
    | lck o => simp only [es, mstk] at q
    | own o => simp only [es, mstk] at q
    | fdef _ => simp only [es] at q
    | clo _ _ => simp only [es] at q
    | exn _ => simp only [es] at q
    | val d =>
      simp only [es] at q
      obtain ⟨v, ev, rv⟩ := I.slots i _ es
      have q : AftS X.gp T W (mbind me fun y => mbind (mopt (opAug o d y)) fun d => mbind (bindT (.v i) d) fun _ => mret .nx) s D := q
      refine ⟨v, ev, s, I, q.bind.mono fun y s1 H1 le J q1 w hw => ?_⟩
      obtain ⟨z, ez, q2⟩ := q1.opt
      have hl : i < s1.ρ.length := by
        by_cases h : i < s1.ρ.length
        · exact h
        · unfold AftS mbind bindT at q2
          simp only [if_neg h] at q2
      unfold AftS mbind bindT at q2
      simp only [if_pos hl] at q2
      exact ⟨s1, d, y, z, rep_le le rv, hw, ez, fun u hu => q2 { s1 with ρ := s1.ρ.set i (.val z) } _ H1 ⟨rfl, Sub.refl _, fun _ _ h => h⟩ rfl rfl (J.setval (hu _ _))⟩
/-! ### things that are changed -/
theorem ixD_ixN (n : Nat) (i : Int) : ixD n i = ixN n i := ixD_eq n i
/-- a change of a thing that stands in a slot or in the store -/
theorem chg_ok {D : Ends} {σ : L2.St} {H : Hp} {s : Sg} {p : PV} {v : V} {f : MO → Option MO} {g : Gp} (I : At g T s σ H) (q : AftS g T W (chg p f) s D) (hp : prep g s σ p v) :
    ∃ a o o', v = .ref a ∧ mrep g s.μ s.G H a o ∧ f o = some o' ∧ ∀ h', mrep g s.μ s.G (upd H a h') a o' → D.nx σ (upd H a h') := by
  cases p with
  | s i =>
    have hp : σ[i]? = some (some v) := hp
    unfold AftS chg at q
    cases es : s.ρ[i]? with
    | none => simp only [es] at q
    | some sl =>
      cases sl with
      | none => simp only [es] at q
      | lck o => simp only [es] at q
      | val d => simp only [es] at q
      | fdef _ => simp only [es] at q
      | clo _ _ => simp only [es] at q
      | exn _ => simp only [es] at q
      | own o =>
        simp only [es] at q
        obtain ⟨a, e1, r, _⟩ := I.slots i _ es
        rw [hp] at e1; cases e1
        cases ef : f o with
        | none => simp only [ef] at q
        | some o' =>
          simp only [ef] at q
          exact ⟨a, o, o', rfl, r, ef, fun h' r' => q { s with ρ := s.ρ.set i (.own o') } σ _ ⟨rfl, Sub.refl _, fun _ _ h => h⟩ rfl rfl (I.ownwrite es hp r')⟩
  | v d =>
    cases d with
    | ref n =>
      obtain ⟨a, ev, hμ⟩ := hp
      unfold AftS chg at q
      cases eo : s.S[n]? with
      | none => simp only [eo] at q
      | some o =>
        simp only [eo] at q
        cases ef : f o with
        | none => simp only [ef] at q
        | some o' =>
          simp only [ef] at q
          exact ⟨a, o, o', ev, I.store n o a eo hμ, ef, fun h' r' => q { s with S := s.S.set n o' } σ _ ⟨rfl, Sub.refl _, fun _ _ h => h⟩ rfl rfl (I.stwrite eo hμ r')⟩
    | _ => exact q.elim
/-- a store to a list's place, under a dict's key -/
def rSetB : V → V → V → Hp → (Hp → Prop) → Prop := fun o i v H Q => rSetL o i v H Q ∨ ∃ a H', o = .ref a ∧ DPut H a i v H' ∧ Q H'
theorem set_both (hu : X.A.units + 70 < cLine) : PSet X rSetB := by
  intro pins st σ H o i v ov iv u Q I ro ri rv h
  rcases h with h | ⟨a, H', rfl, dp, q⟩
  · exact set_list pins st σ H o i v ov iv u Q I ro ri rv h
  · obtain rfl : ov = Value.ref a := ro
    exact d_setItem (by omega) I dp ri rv fun s' I' => ⟨H', I', q⟩
/-- o[i] = e -/
theorem s_seti (hu : X.A.units + 70 < cLine) {o i : Expr} {p2 : Pos} {po : M PV} {mi : M MP.D} (he : SE T W X e me) (ho : SP T W X o po) (hi : SE T W X i mi)
    (ha : ∀ v, assign (.Subscript o i p2) X.env v = (do
      let ov ← holding [v] (eval o X.env)
      let iv ← holding [v, ov] (eval i X.env)
      standAt p2
      holding [v, ov, iv] (setItem ov iv v)
      release [v, ov, iv] []))
    (hs : swapsWithSole [.Subscript o i p2] e pos.line X.env = pure false) (hw : swappedStores [.Subscript o i p2] e X.env = pure none) (h1 : (assignEach [.Subscript o i p2] X.env).map (·.2) = [assign (.Subscript o i p2) X.env]) :
    SS T W X (.Assign [.Subscript o i p2] e pos) (mbind me fun d => mbind po fun p => mbind mi fun k => chg p (putAt k d)) :=
  ss_weak (ps_asg he (pg_sub ho hi (set_both hu) ha) hs hw h1) fun D σ H s I q => ⟨s, I, q.bind.mono fun d s1 H1 le J q1 v hv => ⟨s1, J, q1.bind.mono fun p s2 H2 le2 J2 q2 vo hvo => ⟨s2, J2, q2.bind.mono fun k s3 H3 le3 J3 q3 vi hvi => by
    obtain ⟨a, o', o2, ev, r, ef, kk⟩ := chg_ok J3 q3 (prep_le le3 hvo)
    unfold putAt at ef
    cases o' with
    | lst l =>
      cases k with
      | int z =>
        obtain ⟨j, ej, e2⟩ := Option.map_eq_some_iff.mp ef
        subst e2
        obtain ⟨vs, eh, rs⟩ := r
        have evi : vi = .int z := hvi
        have ln := reps_len rs
        refine .inl ⟨a, vs, z, j, ev, evi, eh, ?_, kk (.lst (vs.set j v)) ⟨_, upd_same, reps_set (rep_le (le2.trans le3) hv) j rs⟩⟩
        rw [← ixD_ixN, ← ln]
        exact ej
      | _ => cases ef
    | dct t ks vs =>
      dsimp only at ef
      split at ef
      · rename_i hk
        cases ef
        obtain ⟨hk1, hk2⟩ := Bool.and_eq_true_iff.mp hk
        obtain ⟨ho, dp, mr⟩ := dput_of J3.gh r hk1 (of_decide_eq_true hk2) hvi (rep_le (le2.trans le3) hv)
        exact .inr ⟨a, _, ev, dp, kk ho mr⟩
      · cases ef
    | ins _ _ => cases ef⟩⟩⟩
theorem tyV_ref {K : PySem.W.Frag} {a : Addr} {H : Hp} {vs : List V} (h : H a = some (.lst vs)) : tyV K "list" (.ref a) H := .inl ⟨rfl, vs, SqL.of h⟩
/-- a place's value now, ahead of statements -/
theorem AftS.val {D : Ends} {σ : L2.St} {H : Hp} {s : Sg} {p : PV} {v : V} {k : MP.D → M Fl} {g : Gp} (q : AftS g T W (mbind (mval p) k) s D) (I : At g T s σ H) (hp : prep g s σ p v) : ∃ d, wrep g s H d v ∧ AftS g T W (k d) s D := by
  have h := Aft.val (Q := fun d s1 H1 => AftS g T W (k d) s1 D) (k := mret) (p := p) (v := v) (s := s) (σ := σ) (H := H) (g := g) (T := T) (W := W) ?_ I hp
  · obtain ⟨d, w, q1⟩ := h
    exact ⟨d, w, q1.ret I⟩
  · have : mbind (mval p) mret = mval p := by
      funext ρ S
      unfold mbind
      cases mval p ρ S <;> rfl
    rw [this]
    exact q.bind
/-- o.append(e) -/
theorem s_app {o : Expr} {p2 apos : Pos} {po : M PV} (hn : ∀ x p, e ≠ .Starred x p) (ho : SP T W X o po) (hb : ∀ f as ks p, o ≠ .Call f as ks p) (hline : (apos.endLine == p2.line) = true) (he : SE T W X e me) (hs : swapsWith (.Call (.Attribute o "append" apos) [e] [] p2) none pos.line X.env = pure false) :
    SS T W X (.Expr (.Call (.Attribute o "append" apos) [e] [] p2) pos) (mbind po fun p => mbind (mval p) fun x => match x with
    | .lst _ => mbind me fun d => chg p (addTo [d])
    | _ => mstk) :=
  ss_weak (ps_expr (pe_bm PySem.F.plainAttrs_list PySem.F.slot_list_append PySem.F.type_list_append mt_append ho (pa_cons he pa_nil (starCons hn)) (noAttrB hb) (few_of (fun e' he' => by rw [List.mem_singleton.mp he']; exact hn) (by simp)) hline (starCons hn) rfl) hs) fun D σ H s I q =>
    ⟨s, I, q.bind.mono fun p s1 H1 le J q1 vo hvo => by
      obtain ⟨x, w, q2⟩ := q1.val J hvo
      cases x with
      | lst l0 =>
        obtain ⟨a0, vs0, e0, h0, _⟩ := w.lst J.gh
        refine ⟨by rw [e0]; exact tyV_ref h0, s1, J, q2.bind.mono fun d s2 H2 le2 J2 q3 v hv => ?_⟩
        obtain ⟨a, o', o2, ev, r, ef, kk⟩ := chg_ok J2 q3 (prep_le le2 hvo)
        unfold addTo at ef
        cases o' with
        | lst l =>
          dsimp only at ef
          split at ef
          · rename_i hl
            cases ef
            obtain ⟨vs, eh, rs⟩ := r
            have ln := reps_len rs
            have hl := okl hl
            simp only [List.length_singleton] at hl
            exact ⟨a, vs, v, ev, rfl, eh, by rw [← ln]; omega, kk (.lst (vs ++ [v])) ⟨_, upd_same, reps_append rs ⟨v, [], rfl, hv, rfl⟩⟩⟩
          · cases ef
        | dct _ _ _ => cases ef
        | ins _ _ => cases ef
      | _ => exact q2.elim⟩
/-- o.extend(e) -/
theorem s_ext {o : Expr} {p2 apos : Pos} {po : M PV} (hn : ∀ x p, e ≠ .Starred x p) (ho : SP T W X o po) (hb : ∀ f as ks p, o ≠ .Call f as ks p) (hline : (apos.endLine == p2.line) = true) (he : SE T W X e me) (hs : swapsWith (.Call (.Attribute o "extend" apos) [e] [] p2) none pos.line X.env = pure false) :
    SS T W X (.Expr (.Call (.Attribute o "extend" apos) [e] [] p2) pos) (mbind po fun p => mbind (mval p) fun x => match x with
    | .lst _ => mbind me fun d => match d with
      | .lst l => chg p (addTo l)
      | _ => mstk
    | _ => mstk) :=
  ss_weak (ps_expr (pe_bm PySem.F.plainAttrs_list PySem.F.slot_list_extend PySem.F.type_list_extend mt_extend ho (pa_cons he pa_nil (starCons hn)) (noAttrB hb) (few_of (fun e' he' => by rw [List.mem_singleton.mp he']; exact hn) (by simp)) hline (starCons hn) rfl) hs) fun D σ H s I q =>
    ⟨s, I, q.bind.mono fun p s1 H1 le J q1 vo hvo => by
      obtain ⟨x, w, q2⟩ := q1.val J hvo
      cases x with
      | lst l0 =>
        obtain ⟨a0, vs0, e0, h0, _⟩ := w.lst J.gh
        refine ⟨by rw [e0]; exact tyV_ref h0, s1, J, q2.bind.mono fun d s2 H2 le2 J2 q3 v hv => ?_⟩
        cases d with
        | lst l2 =>
          obtain ⟨b, vs2, ev2, eh2, rs2⟩ := hv
          obtain ⟨a, o', o2, ev, r, ef, kk⟩ := chg_ok J2 q3 (prep_le le2 hvo)
          unfold addTo at ef
          cases o' with
          | lst l =>
            dsimp only at ef
            split at ef
            · rename_i hl
              cases ef
              obtain ⟨vs, eh, rs⟩ := r
              have ln := reps_len rs
              have ln2 := reps_len rs2
              have hl := okl hl
              exact ⟨a, b, vs, vs2, ev, by rw [ev2], eh, J2.gh _ _ eh2, by rw [← ln, ← ln2]; exact hl, kk (.lst (vs ++ vs2)) ⟨_, upd_same, reps_append rs rs2⟩⟩
            · cases ef
          | dct _ _ _ => cases ef
          | ins _ _ => cases ef
        | _ => exact q3.elim
      | _ => exact q2.elim⟩
/-! ### loops -/
theorem s_for {tg iter : Expr} {body : List Stmt} {mi : M (List MP.D)} {t : Tg} {ix : List Nat} {mb : M Fl} (hp : PassesOwn (model X.prog X.w) X.A X.env X.xe) (hc : X.calm = true) (hi : SI T W X tg iter mi) (hg : SG T X tg ix (bindT t)) (hb : SSs T W X body mb) (hs : ∀ x, foldedSetIterable iter X.env x = pure x) :
    SS T W X (.For tg iter body [] pos) (mbind mi fun l => forM t mb l) :=
  ss_weak (ps_for hp hc hi hg hb hs) fun D σ H s I q => ⟨s, I, q.bind.mono fun l s1 H1 le J q1 It wk => by
    refine ⟨fun i m σ H => m = l.length - i ∧ i ≤ l.length ∧ ∃ si, Le s1 si ∧ At X.gp T si σ H ∧ AftS X.gp T W (forM t mb (l.drop i)) si D, ⟨l.length, by simp, Nat.zero_le _, s1, Le.refl _, J, q1⟩, ?_⟩
    rintro i m σ2 H2 ⟨rfl, hi, si, lei, Ji, qi⟩
    by_cases hlt : i < l.length
    · refine .inr ⟨wk.go i si σ2 H2 hlt lei.lp Ji, fun σ H => ∃ si, Le s1 si ∧ At X.gp T si σ H ∧ AftS X.gp T W (forM t mb (l.drop (i + 1))) si D, fun σ' H' p' => ⟨l.length - (i + 1), by omega, rfl, hlt, p'⟩, fun x H' y => ?_⟩
      obtain ⟨d, s2, e1, le2, er2, es2, J2, rx⟩ := wk.yld i si σ2 H2 x H' hlt lei.lp Ji y
      have hdrop : l.drop i = d :: l.drop (i + 1) := by
        rw [List.drop_eq_getElem_cons hlt]
        congr 1
        rw [List.getElem?_eq_getElem hlt] at e1
        exact Option.some.inj e1
      rw [hdrop] at qi
      have qj := qi.le le2 er2 es2
      have qj : AftS X.gp T W (mbind (bindT t d) fun _ => mbind mb fun f => match f with
        | .nx => forM t mb (l.drop (i + 1))
        | .ct => forM t mb (l.drop (i + 1))
        | .bk => mret .nx
        | .rt d => mret (.rt d)) s2 D := qj
      refine AftS.bindG qj J2 rx (fun c ρ S => bindT_noexc t d _ _ c ρ S) fun s3 σ3 H3 le3 J3 q3 => AftS.go J3 ?_
      unfold AftS mbind at q3
      unfold AftS
      cases e : mb s3.ρ s3.S with
      | ok f ρ S =>
        rw [e] at q3
        intro s4 σ4 H4 le4 er4 es4 J4
        have more : AftS X.gp T W (forM t mb (l.drop (i + 1))) s4 D → ∃ si, Le s1 si ∧ At X.gp T si σ4 H4 ∧ AftS X.gp T W (forM t mb (l.drop (i + 1))) si D := fun q4 => ⟨s4, lei.trans (le2.trans (le3.trans le4)), J4, q4⟩
        have conv : ∀ {mm : M Fl}, (match mm ρ S with
            | .ok f ρ S => ∀ s' σ' H', Le s3 s' → s'.ρ = ρ → s'.S = S → At X.gp T s' σ' H' → FlD X.gp s' D σ' H' f
            | .exc c ρ S => ∀ s' σ' H', Le s3 s' → s'.ρ = ρ → s'.S = S → At X.gp T s' σ' H' → W (gcls X.gp c) none σ' H'
            | .stk => False) → AftS X.gp T W mm s4 D := fun {mm} qq => by
          unfold AftS
          rw [er4, es4]
          cases e2 : mm ρ S with
          | ok f ρ' S' => rw [e2] at qq; exact fun s' σ' H' l' => qq s' σ' H' (le4.trans l')
          | exc c ρ' S' => rw [e2] at qq; exact fun s' σ' H' l' => qq s' σ' H' (le4.trans l')
          | stk => rw [e2] at qq; exact qq
        cases f with
        | nx => exact more (conv q3)
        | ct => exact more (conv q3)
        | bk => exact (conv (mm := mret .nx) q3).ret J4
        | rt d' => exact (conv (mm := mret (.rt d')) q3).ret J4
      | exc c ρ S =>
        rw [e] at q3
        exact fun s' σ' H' l' => q3 s' σ' H' l'
      | stk => rw [e] at q3; exact q3
    · have e : i = l.length := by omega
      subst e
      rw [List.drop_length] at qi
      exact .inl ⟨wk.stop si σ2 H2 lei.lp Ji, qi.ret Ji⟩⟩
theorem s_whl {c : Expr} {body : List Stmt} {mt : M Bool} {mb : M Fl} {n : Nat} (hp : PassesOwn (model X.prog X.w) X.A X.env X.xe) (hc : SB T W X c mt) (hb : SSs T W X body mb) : SS T W X (.While c body [] pos) (whlM mt mb n) :=
  ss_weak (ps_while hp hc hb) fun D σ H s I q => by
    refine ⟨fun m σ H => ∃ si, At X.gp T si σ H ∧ AftS X.gp T W (whlM mt mb m) si D, ⟨n, s, I, q⟩, ?_⟩
    rintro m σ1 H1 ⟨si, Ji, qi⟩
    cases m with
    | zero => exact qi.elim
    | succ m =>
      have qi : AftS X.gp T W (mbind mt fun b => if b then mbind mb fun f => (match f with
        | .nx => whlM mt mb m
        | .ct => whlM mt mb m
        | .bk => mret .nx
        | .rt d => mret (.rt d)) else mret .nx) si D := qi
      refine ⟨si, Ji, qi.bind.mono fun b s3 H3 le3 J3 q3 => ?_⟩
      cases b with
      | false =>
        simp only [Bool.false_eq_true, if_false] at q3 ⊢
        exact q3.ret J3
      | true =>
        simp only [if_true] at q3 ⊢
        refine ⟨fun σ H => ∃ si, At X.gp T si σ H ∧ AftS X.gp T W (whlM mt mb m) si D, fun σ' H' p' => ⟨m, Nat.lt_succ_self _, p'⟩, AftS.go J3 ?_⟩
        unfold AftS mbind at q3
        unfold AftS
        cases e : mb s3.ρ s3.S with
        | ok f ρ S =>
          rw [e] at q3
          intro s4 σ4 H4 le4 er4 es4 J4
          have conv : ∀ {mm : M Fl}, (match mm ρ S with
              | .ok f ρ S => ∀ s' σ' H', Le s3 s' → s'.ρ = ρ → s'.S = S → At X.gp T s' σ' H' → FlD X.gp s' D σ' H' f
              | .exc c ρ S => ∀ s' σ' H', Le s3 s' → s'.ρ = ρ → s'.S = S → At X.gp T s' σ' H' → W (gcls X.gp c) none σ' H'
              | .stk => False) → AftS X.gp T W mm s4 D := fun {mm} qq => by
            unfold AftS
            rw [er4, es4]
            cases e2 : mm ρ S with
            | ok f ρ' S' => rw [e2] at qq; exact fun s' σ' H' l' => qq s' σ' H' (le4.trans l')
            | exc c ρ' S' => rw [e2] at qq; exact fun s' σ' H' l' => qq s' σ' H' (le4.trans l')
            | stk => rw [e2] at qq; exact qq
          cases f with
          | nx => exact ⟨s4, J4, conv q3⟩
          | ct => exact ⟨s4, J4, conv q3⟩
          | bk => exact (conv (mm := mret .nx) q3).ret J4
          | rt d' => exact (conv (mm := mret (.rt d')) q3).ret J4
        | exc c ρ S =>
          rw [e] at q3
          exact fun s' σ' H' l' => q3 s' σ' H' l'
        | stk => rw [e] at q3; exact q3
/-! ### comprehensions -/
section
variable {elt tg iter tg1 iter1 : Expr} {ifs ifs1 : List Expr} {scope : Scope} {own : List (Str × Nat)} {vs1 : List Nat} {mi mi1 : M (List MP.D)} {ft ft1 : MP.D → M Unit} {ix ix1 : List Nat} {mc mc1 : M Bool} {me : M MP.D}
theorem r_lc (hc : X.calm = true) (hN : X.N.Nodup) (hi : SI T W X tg iter mi) (ok : BlkOk X.N X.env.scope scope own) (hix : ∀ i ∈ ix, i ∈ own.map (·.2))
    (hg : ∀ (s : Shared) (H : Hp) (C : Addr) (cl : List (Str × Addr)) (fp : List Addr), SG T (X.blk s H scope (compEnvC scope cl C X.env) fp) tg ix ft) (ht : ∀ (s : Shared) (H : Hp) (C : Addr) (cl : List (Str × Addr)) (fp : List Addr), STs T (X.blk s H scope (compEnvC scope cl C X.env) fp) ifs mc)
    (he : ∀ (s : Shared) (H : Hp) (C : Addr) (cl : List (Str × Addr)) (fp : List Addr), SE T WF (X.blk s H scope (compEnvC scope cl C X.env) fp) elt me) (hs : ∀ x, foldedSetIterable iter X.env x = pure x) :
    SF T W X (.ListComp elt [⟨tg, iter, ifs, 0⟩] scope pos) (lcM (clM mi ft (own.map (·.2)) mc (mbind me fun d => mret [d]))) :=
  (pe_lc hc hN hi ok hg ht he hs).weak fun σ H Q h => t_lc hix h
theorem r_lc2 (hc : X.calm = true) (hN : X.N.Nodup) (hi : SI T W X tg iter mi) (ok : BlkOk X.N X.env.scope scope own) (hv : ∀ i ∈ vs1, i ∈ own.map (·.2)) (hix : ∀ i ∈ ix, i ∈ own.map (·.2)) (hix1 : ∀ i ∈ ix1, i ∈ vs1)
    (hg : ∀ (s : Shared) (H : Hp) (C : Addr) (cl : List (Str × Addr)) (fp : List Addr), SG T (X.blk s H scope (compEnvC scope cl C X.env) fp) tg ix ft) (ht : ∀ (s : Shared) (H : Hp) (C : Addr) (cl : List (Str × Addr)) (fp : List Addr), STs T (X.blk s H scope (compEnvC scope cl C X.env) fp) ifs mc)
    (hi1 : ∀ (s : Shared) (H : Hp) (C : Addr) (cl : List (Str × Addr)) (fp : List Addr), SI T WF (X.blk s H scope (compEnvC scope cl C X.env) fp) tg1 iter1 mi1)
    (hg1 : ∀ (s : Shared) (H : Hp) (C : Addr) (cl : List (Str × Addr)) (fp : List Addr), SG T (X.blk s H scope (compEnvC scope cl C X.env) fp) tg1 ix1 ft1) (ht1 : ∀ (s : Shared) (H : Hp) (C : Addr) (cl : List (Str × Addr)) (fp : List Addr), STs T (X.blk s H scope (compEnvC scope cl C X.env) fp) ifs1 mc1)
    (he : ∀ (s : Shared) (H : Hp) (C : Addr) (cl : List (Str × Addr)) (fp : List Addr), SE T WF (X.blk s H scope (compEnvC scope cl C X.env) fp) elt me) (hs : ∀ x, foldedSetIterable iter X.env x = pure x) (hs1 : ∀ env x, foldedSetIterable iter1 env x = pure x) :
    SF T W X (.ListComp elt [⟨tg, iter, ifs, 0⟩, ⟨tg1, iter1, ifs1, 0⟩] scope pos) (lcM (clM mi ft (own.map (·.2)) mc (clM mi1 ft1 vs1 mc1 (mbind me fun d => mret [d])))) :=
  (pe_lc2 hc hN hi ok hv hg ht hi1 hg1 ht1 he hs hs1).weak fun σ H Q h => t_lc2 hix hix1 h
/-- name = [..], on one line -/
theorem s_setLc {i : Nat} {y : Str} {py p2 : Pos} (hc : X.calm = true) (hN : X.N.Nodup) (hy : X.N[i]? = some y) (hyl : X.env.scope.names.lookup y = some .local)
    (hsw : swapsWith (.ListComp elt [⟨tg, iter, ifs, 0⟩] scope pos) (some (.Name y py)) p2.line X.env = pure true) (hi : SI T W X tg iter mi) (ok : BlkOk X.N X.env.scope scope own) (hix : ∀ i ∈ ix, i ∈ own.map (·.2))
    (hg : ∀ (s : Shared) (H : Hp) (C : Addr) (cl : List (Str × Addr)) (fp : List Addr), SG T (X.blk s H scope (compEnvC scope cl C X.env) fp) tg ix ft) (ht : ∀ (s : Shared) (H : Hp) (C : Addr) (cl : List (Str × Addr)) (fp : List Addr), STs T (X.blk s H scope (compEnvC scope cl C X.env) fp) ifs mc)
    (he : ∀ (s : Shared) (H : Hp) (C : Addr) (cl : List (Str × Addr)) (fp : List Addr), SE T WF (X.blk s H scope (compEnvC scope cl C X.env) fp) elt me) (hs : ∀ x, foldedSetIterable iter X.env x = pure x) :
    SS T W X (.Assign [.Name y py] (.ListComp elt [⟨tg, iter, ifs, 0⟩] scope pos) p2) (setOM i (lcM (clM mi ft (own.map (·.2)) mc (mbind me fun d => mret [d])))) :=
  ss_weak (ps_setLc hc hN hy hyl hsw hi ok hg ht he hs) fun D σ H s I q => t_lc hix (setO_core I q)
theorem s_setLc2 {i : Nat} {y : Str} {py p2 : Pos} (hc : X.calm = true) (hN : X.N.Nodup) (hy : X.N[i]? = some y) (hyl : X.env.scope.names.lookup y = some .local)
    (hsw : swapsWith (.ListComp elt [⟨tg, iter, ifs, 0⟩, ⟨tg1, iter1, ifs1, 0⟩] scope pos) (some (.Name y py)) p2.line X.env = pure true) (hi : SI T W X tg iter mi) (ok : BlkOk X.N X.env.scope scope own) (hv : ∀ i ∈ vs1, i ∈ own.map (·.2)) (hix : ∀ i ∈ ix, i ∈ own.map (·.2)) (hix1 : ∀ i ∈ ix1, i ∈ vs1)
    (hg : ∀ (s : Shared) (H : Hp) (C : Addr) (cl : List (Str × Addr)) (fp : List Addr), SG T (X.blk s H scope (compEnvC scope cl C X.env) fp) tg ix ft) (ht : ∀ (s : Shared) (H : Hp) (C : Addr) (cl : List (Str × Addr)) (fp : List Addr), STs T (X.blk s H scope (compEnvC scope cl C X.env) fp) ifs mc)
    (hi1 : ∀ (s : Shared) (H : Hp) (C : Addr) (cl : List (Str × Addr)) (fp : List Addr), SI T WF (X.blk s H scope (compEnvC scope cl C X.env) fp) tg1 iter1 mi1)
    (hg1 : ∀ (s : Shared) (H : Hp) (C : Addr) (cl : List (Str × Addr)) (fp : List Addr), SG T (X.blk s H scope (compEnvC scope cl C X.env) fp) tg1 ix1 ft1) (ht1 : ∀ (s : Shared) (H : Hp) (C : Addr) (cl : List (Str × Addr)) (fp : List Addr), STs T (X.blk s H scope (compEnvC scope cl C X.env) fp) ifs1 mc1)
    (he : ∀ (s : Shared) (H : Hp) (C : Addr) (cl : List (Str × Addr)) (fp : List Addr), SE T WF (X.blk s H scope (compEnvC scope cl C X.env) fp) elt me) (hs : ∀ x, foldedSetIterable iter X.env x = pure x) (hs1 : ∀ env x, foldedSetIterable iter1 env x = pure x) :
    SS T W X (.Assign [.Name y py] (.ListComp elt [⟨tg, iter, ifs, 0⟩, ⟨tg1, iter1, ifs1, 0⟩] scope pos) p2) (setOM i (lcM (clM mi ft (own.map (·.2)) mc (clM mi1 ft1 vs1 mc1 (mbind me fun d => mret [d]))))) :=
  ss_weak (ps_setLc2 hc hN hy hyl hsw hi ok hv hg ht hi1 hg1 ht1 he hs hs1) fun D σ H s I q => t_lc2 hix hix1 (setO_core I q)
end
end
end MP

namespace MP
open PySem PySem.Spec L2 PyProof.Rows
/-! ### (a, .., *rest) = .. -/
section
variable {prog : Program} {w : World} {A : Around} {E : Value → Shared → Prop} {s : Shared}
theorem unp_list {l : Addr} {items : Array Value} {n : Nat} {Q : List Value → Shared → Prop} (hl : s.heap.IsList l items) (hh : A.handled = none) (hn : n ≤ items.size) (hz : items.size ≤ sizeLine)
    (h : ∀ (h2 : Heap) (tk : Nat), (∀ b o, s.heap.get? b = some o → h2.get? b = some o) → Q (items.toList.take n ++ [.ref h2.objs.size]) { s with heap := h2.push { cls := .type "list", data := .seq (items.toList.drop n).toArray }, toks := tk }) :
    wpAny (model prog w) A (unpackItems (.ref l) (n + 1) (some n)) Q E s := by
  have ll : l < s.heap.objs.size := by obtain ⟨o, ho, _⟩ := id hl; exact Heap.lt_size ho
  have ne : l ≠ s.heap.objs.size := Nat.ne_of_lt ll
  unfold unpackItems
  refine wpAny_bind ?_
  unfold notIterableAtAll
  refine wpAny_bind (wpAny_specialOf hl.typeIs slot_list_iter.lookup (wpAny_pure ?_))
  simp only [Bool.false_eq_true, if_false]
  refine wpAny_bind (wpAny_holding (wpAny_pyIter_list hl ?_))
  refine wpAny_bind (wpAny_holding (PySem.W.kun_draw ne n 0 _ _ ⟨_, Heap.get?_push_size _ rfl, rfl, rfl⟩ (hl.push _) (by omega) fun h1 it1 sb => ?_))
  have hl1 : h1.IsList l items := (hl.push _).extBut sb.extBut ne
  rw [Nat.zero_add] at it1
  obtain ⟨oi, hoi, _⟩ := id it1
  obtain ⟨ol, hol, _⟩ := id hl1
  rw [List.drop_zero]
  have len1 : (items.toList.take n).length = n := by rw [List.length_take, Array.length_toList]; omega
  rw [if_neg (show ¬ ((items.toList.take n).length < n) by rw [len1]; omega)]
  refine wpAny_bind (wpAny_holding (PySem.W.kun_collect (s := { s with heap := h1 }) (T := "list_iterator") (.inr (.inr (.inl rfl))) (Walks.list (A := A.in1) hh s.heap.objs.size l ne items) (fun j u st => st.1.typeIs) (k := n) hn ⟨it1, hl1⟩ (Heap.lt_size hoi) (Heap.lt_size hol) (fun h2 tk hk => ?_) hz))
  have e0 : n + 1 - 1 - n = 0 := by omega
  rw [e0]
  show wpAny _ _ (if (items.toList.drop n).length < 0 then _ else _) _ _ _
  rw [if_neg (by omega)]
  show wpAny _ _ (newList ((items.toList.drop n).take ((items.toList.drop n).length - 0)) >>= fun d => pure (items.toList.take n ++ [d] ++ (items.toList.drop n).drop ((items.toList.drop n).length - 0))) _ _ _
  rw [Nat.sub_zero, List.take_length, List.drop_length]
  refine wpAny_bind (wpAny_newObj_type (wpAny_pure ?_) (by show (items.toList.drop n).toArray.size ≤ sizeLine; rw [List.size_toArray, List.length_drop, Array.length_toList]; omega))
  rw [List.append_nil]
  exact h h2 tk fun b o e => hk b o (Nat.ne_of_lt (Heap.lt_size e)) (sb.extBut b o (Nat.ne_of_lt (Heap.lt_size e)) (Heap.get?_push_of_some _ e))
theorem unp_tup {l : Addr} {items : Array Value} {n : Nat} {Q : List Value → Shared → Prop} (hl : IsTup s.heap l items) (hh : A.handled = none) (hn : n ≤ items.size) (hz : items.size ≤ sizeLine)
    (h : ∀ (h2 : Heap) (tk : Nat), (∀ b o, s.heap.get? b = some o → h2.get? b = some o) → Q (items.toList.take n ++ [.ref h2.objs.size]) { s with heap := h2.push { cls := .type "list", data := .seq (items.toList.drop n).toArray }, toks := tk }) :
    wpAny (model prog w) A (unpackItems (.ref l) (n + 1) (some n)) Q E s := by
  have ll : l < s.heap.objs.size := by obtain ⟨o, ho, _⟩ := id hl; exact Heap.lt_size ho
  have ne : l ≠ s.heap.objs.size := Nat.ne_of_lt ll
  unfold unpackItems
  refine wpAny_bind ?_
  unfold notIterableAtAll
  refine wpAny_bind (wpAny_specialOf hl.typeIs slot_tuple_iter.lookup (wpAny_pure ?_))
  simp only [Bool.false_eq_true, if_false]
  refine wpAny_bind (wpAny_holding (iter_tuple hl ?_))
  refine wpAny_bind (wpAny_holding (draw_tuple ne n 0 _ _ ⟨_, Heap.get?_push_size _ rfl, rfl, rfl⟩ (hl.push _) (by omega) fun h1 it1 sb => ?_))
  have hl1 : IsTup h1 l items := (hl.push _).extBut sb.extBut ne
  rw [Nat.zero_add] at it1
  obtain ⟨oi, hoi, _⟩ := id it1
  obtain ⟨ol, hol, _⟩ := id hl1
  rw [List.drop_zero]
  have len1 : (items.toList.take n).length = n := by rw [List.length_take, Array.length_toList]; omega
  rw [if_neg (show ¬ ((items.toList.take n).length < n) by rw [len1]; omega)]
  refine wpAny_bind (wpAny_holding (PySem.W.kun_collect (s := { s with heap := h1 }) (T := "tuple_iterator") (.inr (.inr (.inr rfl))) (Walks.tuple (A := A.in1) hh s.heap.objs.size l ne items) (fun j u st => st.1.typeIs) (k := n) hn ⟨it1, hl1⟩ (Heap.lt_size hoi) (Heap.lt_size hol) (fun h2 tk hk => ?_) hz))
  have e0 : n + 1 - 1 - n = 0 := by omega
  rw [e0]
  show wpAny _ _ (if (items.toList.drop n).length < 0 then _ else _) _ _ _
  rw [if_neg (by omega)]
  show wpAny _ _ (newList ((items.toList.drop n).take ((items.toList.drop n).length - 0)) >>= fun d => pure (items.toList.take n ++ [d] ++ (items.toList.drop n).drop ((items.toList.drop n).length - 0))) _ _ _
  rw [Nat.sub_zero, List.take_length, List.drop_length]
  refine wpAny_bind (wpAny_newObj_type (wpAny_pure ?_) (by show (items.toList.drop n).toArray.size ≤ sizeLine; rw [List.size_toArray, List.length_drop, Array.length_toList]; omega))
  rw [List.append_nil]
  exact h h2 tk fun b o e => hk b o (Nat.ne_of_lt (Heap.lt_size e)) (sb.extBut b o (Nat.ne_of_lt (Heap.lt_size e)) (Heap.get?_push_of_some _ e))
end
section
variable {T : Tx} {W : WX} {X : Cx} {pos : Pos}
theorem Vals.take' {vs : List V} {us : List Value} (h : Vals vs us) : ∀ n : Nat, Vals (vs.take n) (us.take n) := by
  induction h with
  | nil => intro n; rw [List.take_nil, List.take_nil]; exact .nil
  | cons r t ih =>
    intro n
    cases n with
    | zero => exact .nil
    | succ n => exact .cons r (ih n)
theorem gs_star {e : Expr} {p2 : Pos} {ix : List Nat} {f : D → M Unit} (h1 : SG T X e ix f) (hs : (assignEach [.Starred e p2] X.env).map (·.2) = [assign e X.env]) : SGs T X [.Starred e p2] ix (fun l => match l with | [d] => f d | _ => mstk) := by
  refine ⟨fun pins st σ H vs us Q I r ⟨s, l, A, rl, q⟩ => ?_⟩
  match l with
  | [] => exact q.elim
  | _ :: _ :: _ => exact q.elim
  | [d] =>
    obtain ⟨v, vr, ev, rv, rr⟩ := rl
    have e2 : vr = [] := rr
    subst e2 ev
    cases r with
    | cons r rr =>
      cases rr
      rw [hs]
      exact assignInOrder_cons (thn (h1.run pins st σ H v _ Q I r ⟨s, d, A, rv, q⟩) fun _ s1 ⟨σ1, H1, I1, q1⟩ => assignInOrder_nil ⟨σ1, H1, I1, q1⟩)
theorem g_tupS {es : List Expr} {k n : Nat} {ix : List Nat} {f : List D → M Unit} (hc : X.calm = true) (h : SGs T X es ix f) (hl : (assignEach es X.env).length = n + 1) (hst : (assignEach es X.env).findIdx? (·.1) = some n) :
    SG T X (.Tuple es k pos) ix (fun d => match seqD d with
    | some l => if decide (n ≤ l.length) then f (l.take n ++ [.lst (l.drop n)]) else mstk
    | none => mstk) := by
  have key : ∀ (pins : List (Addr × Obj)) (st : Shared) (σ : L2.St) (H : Hp) (s : Sg) (l : List D) (vs : List V) (its : List Value) (Q : L2.St → Hp → Prop) (h2 : Heap) (tk : Nat), L2.Inv X pins σ H st → At X.gp T s σ H → reps X.gp s.μ s.G l vs → Vals vs its → its.length ≤ sizeLine →
      (match f (l.take n ++ [.lst (l.drop n)]) s.ρ s.S with
      | .ok _ ρ S => ∀ s' σ' H', Le s s' → s'.ρ = ρ → s'.S = S → At X.gp T s' σ' H' → σ'.length = σ.length → (∀ i, i ∉ ix → σ'[i]? = σ[i]?) → Q σ' H'
      | _ => False) → (∀ b o, st.heap.get? b = some o → h2.get? b = some o) →
      wpAny (model X.prog X.w) X.A (assignInOrder ((assignEach es X.env).map (·.2)) (its.take n ++ [.ref h2.objs.size])) (fun _ s' => ∃ σ' H', L2.Inv X pins σ' H' s' ∧ Q σ' H') X.xe { st with heap := h2.push { cls := .type "list", data := .seq (its.drop n).toArray }, toks := tk } := by
    intro pins st σ H s l vs its Q h2 tk I A rs rv hz q kp
    have I2 : L2.Inv X pins σ H { st with heap := h2, toks := tk } := I.kept kp
    have hp : H h2.objs.size = none := I2.hok.fresh (Nat.le_refl _)
    have I3 : L2.Inv X pins σ (upd H h2.objs.size (.lst (vs.drop n))) { st with heap := h2.push { cls := .type "list", data := .seq (its.drop n).toArray }, toks := tk } :=
      I2.laid (t' := tk) (fun b o e => Heap.get?_push_of_some _ e) (Nat.le_refl _) ⟨by rw [List.length_drop, rv.length]; omega, its.drop n, 0, rv.drop n, Heap.get?_push_size _ rfl⟩
    obtain ⟨A2, fr⟩ := At.newlst A hp (reps_drop n rs)
    obtain ⟨s3, le3, er, es3, A3, r3⟩ := fr.freeze A2
    refine h.run pins _ σ _ (vs.take n ++ [.ref h2.objs.size]) _ Q I3 ((Vals.take' rv n).append (.cons (show L2.RelV (V.ref h2.objs.size) (.ref h2.objs.size) from rfl) .nil)) ⟨s3, l.take n ++ [.lst (l.drop n)], A3, reps_append (reps_take n (reps_le le3 rs)) ⟨_, [], rfl, r3, rfl⟩, ?_⟩
    rw [er, es3]
    revert q
    cases f (l.take n ++ [.lst (l.drop n)]) s.ρ s.S with
    | ok u ρ S => exact fun q s' σ' H' l' => q s' σ' H' (le3.trans l')
    | exc c ρ S => exact fun q => q
    | stk => exact fun q => q
  refine ⟨fun pins st σ H v u Q I r ⟨s, d, A, rd, q⟩ => ?_⟩
  have fin : ∀ (l : List D), (match (if decide (n ≤ l.length) then f (l.take n ++ [.lst (l.drop n)]) else mstk) s.ρ s.S with
      | .ok _ ρ S => ∀ s' σ' H', Le s s' → s'.ρ = ρ → s'.S = S → At X.gp T s' σ' H' → σ'.length = σ.length → (∀ i, i ∉ ix → σ'[i]? = σ[i]?) → Q σ' H'
      | _ => False) → n ≤ l.length ∧ (match f (l.take n ++ [.lst (l.drop n)]) s.ρ s.S with
      | .ok _ ρ S => ∀ s' σ' H', Le s s' → s'.ρ = ρ → s'.S = S → At X.gp T s' σ' H' → σ'.length = σ.length → (∀ i, i ∉ ix → σ'[i]? = σ[i]?) → Q σ' H'
      | _ => False) := fun l q => by
    by_cases hn : n ≤ l.length
    · rw [decide_eq_true hn, if_pos rfl] at q
      exact ⟨hn, q⟩
    · rw [decide_eq_false hn] at q
      exact q.elim
  cases d with
  | lst l =>
    obtain ⟨hn, q⟩ := fin l q
    obtain ⟨a, vs, ev, e1, rs⟩ := rd
    subst ev
    cases r
    obtain ⟨its, rv, pl, hz⟩ := I.list (SqL.of (A.gh _ _ e1) : SqL X.K H a vs)
    have ln := reps_len rs
    have ln2 := rv.length
    rw [PyProof.Rows.assign_Tuple]
    refine wpAny_bind (wpAny_standAt ?_)
    unfold unpack
    rw [hl, hst]
    refine wpAny_bind (wpAny_holding (unp_list pl.isList (I.ok.hd hc) (by rw [List.size_toArray]; omega) (by rw [List.size_toArray]; omega) fun h2 tk kp => ?_))
    exact key pins st σ H s l vs its Q h2 tk I A rs rv (by omega) q kp
  | tup l =>
    obtain ⟨hn, q⟩ := fin l q
    obtain ⟨a, vs, ev, e1, rs⟩ := rd
    subst ev
    cases r
    obtain ⟨its, rv, pl, hz⟩ := I.tuple (.inl (.inl (A.gh _ _ e1)))
    have ln := reps_len rs
    have ln2 := rv.length
    rw [PyProof.Rows.assign_Tuple]
    refine wpAny_bind (wpAny_standAt ?_)
    unfold unpack
    rw [hl, hst]
    refine wpAny_bind (wpAny_holding (unp_tup pl (I.ok.hd hc) (by rw [List.size_toArray]; omega) (by rw [List.size_toArray]; omega) fun h2 tk kp => ?_))
    exact key pins st σ H s l vs its Q h2 tk I A rs rv (by omega) q kp
  | _ => exact q.elim
end
end MP

namespace MP
open PySem PySem.Spec L2
/-- an own exception class, as it is raised -/
structure ExcI (K : PySem.W.Frag) (mg : Str → Option Value) (x : Str) : Prop where
  ex : ∃ (C : Addr) (bm : List Value) (B newId initId : String), ExcBaseFacts B newId initId bm ∧ PySem.W.excIn K C bm newId = true ∧ mg x = some (.ref C) ∧ PySem.W.keepIn K (.ref C) = true ∧ PySem.W.subIn K (.ref C) (.type "BaseException") = some true ∧ PySem.W.typeIn K (.ref C) = some (.type "type")
section
variable {T : Tx} {W : WX} {X : Cx} {pos : Pos}
theorem s_raise {x m : Str} {j : Nat} {p p2 pos' : Pos} (hc : X.calm = true) (tk : L2N.Takes X W) (hx : ExcI X.K X.mg x) (hg : Gl X x) (hd : (x == ("__debug__" : Str)) = false) :
    SS T W X (.Raise (some (.Call (.Name x p) [.Constant (.str m) j p2] [] pos)) none pos') (mexc x) := by
  obtain ⟨C, bm, B, newId, initId, F, h1, h2, h3, h4, h5⟩ := hx
  refine ss_weak (L2N.ps_raise hc tk (L2N.pmk_own F h1 h2 h3 (raises_own h4 h5) hg hd)) fun D σ H s I q => ?_
  have e : gcls X.gp x = .ref C := by
    unfold gcls
    rw [show X.gp.mg x = some (.ref C) from h2]
    rfl
  have := q s σ H (Le.refl _) rfl rfl I
  rw [e] at this
  exact this
/-- what is known of classes beside one another -/
def SubI (K : PySem.W.Frag) (mg : Str → Option Value) (sub : Str → Str → Option Bool) : Prop := ∀ c x b, sub c x = some b → (∃ C, mg x = some (.ref C)) → PySem.W.exmOne K ((mg c).getD .none) ((mg x).getD .none) = some b
theorem gl_of_tr {X : Cx} {pn : List (Addr × Obj)} {xe : Value → Shared → Prop} {x : Str} (h : Gl X x) : Gl (X.tr pn xe) x := h
/-- try: .. except x: .. (or as n) -/
def tryM (sub : Str → Str → Option Bool) (mb : M Fl) (x : Str) (i : Option Nat) (mh : M Fl) : M Fl := fun ρ S => match mb ρ S with
  | .exc c ρ S => (match sub c x with
    | some true => (match mh (mexn i c ρ) S with
      | .ok f ρ S => .ok f (mclr i ρ) S
      | _ => .stk)
    | some false => .exc c ρ S
    | none => .stk)
  | r => r
theorem suite_fin {T' : Tx} {D : Ends} {σ' : L2.St} {H' : Hp} {s s' : Sg} {f : Fl} {i : Option Nat} {g : Gp} (h1 : T'.tabs = T.tabs) (h2 : T'.nfs = T.nfs) (h3 : T'.cells = T.cells) (J : At g T' s' σ' H') (le : Le s s')
    (q : ∀ s2 σ2 H2, Le s s2 → s2.ρ = mclr i s'.ρ → s2.S = s'.S → At g T s2 σ2 H2 → FlD g s2 D σ2 H2 f) :
    FlD g s' (match i with | some i => { nx := fun σ' H' => D.nx (σ'.set i none) H', rt := D.rt, bk := fun σ' H' => D.bk (σ'.set i none) H', ct := fun σ' H' => D.ct (σ'.set i none) H' } | none => D) σ' H' f := by
  have J2 : At g T { s' with ρ := clrF s'.ρ } σ' H' := Sim.retx J h1 h2 h3
  cases i with
  | none =>
    have := q { s' with ρ := clrF s'.ρ } σ' H' ⟨le.B, le.G, le.μ⟩ rfl rfl J2
    cases f <;> exact this
  | some i =>
    have := q { s' with ρ := (clrF s'.ρ).set i .none } (σ'.set i none) H' ⟨le.B, le.G, le.μ⟩ rfl rfl (Sim.clear J2 i)
    cases f <;> exact this
theorem suite_d {X' : Cx} {T' : Tx} {sts : List Stmt} {mh : M Fl} {d : Option Addr} {cls : Value} {oe : Obj} (z1 : L2N.Zn cls d oe) (z2 : ∃ vs, oe.data = .fields vs) (h : L2N.Zn cls none oe → (∃ vs, oe.data = .fields vs) → SSs T' WF X' sts mh) : PSs X' sts (fun D σ H => d = none ∧ tSt T' WF X'.gp mh D σ H) := by
  cases d with
  | none => exact (h z1 z2).weak fun D σ H q => q.2
  | some b => exact pss_never.weak fun D σ H q => (nomatch q.1)
theorem s_try {x : Str} {sub : Str → Str → Option Bool} {np pos' : Pos} {body suite : List Stmt} {b₀ : Stmt} {mb mh : M Fl} (hs : X.stack = X.env :: X.outer) (hf : X.env.frame = some X.env.locals) (tk : L2N.Takes X W) (h0 : T.exn = none)
    (hsub : SubI X.K X.mg sub) (hx : ∃ C, X.mg x = some (.ref C)) (hg : Gl X x) (hd : (x == ("__debug__" : Str)) = false)
    (hb : ∀ (W : WX) (pn : List (Addr × Obj)) (xe : Value → Shared → Prop), L2N.Takes (X.tr pn xe) W → PassesOwn (model X.prog X.w) X.A X.env xe → SSs T W (X.tr pn xe) body mb)
    (hh : ∀ (a : Addr) (oe : Obj) (cls : Value) (pn : List (Addr × Obj)), L2N.Zn cls none oe → (∃ vs, oe.data = .fields vs) → SSs { T with exn := some (a, cls) } WF (X.suite a ((a, oe) :: pn)) (b₀ :: suite) mh) :
    SS T W X (.Try body [.ExceptHandler (some (.Name x np)) none (b₀ :: suite) pos'] [] [] pos) (tryM sub mb x none mh) := by
  obtain ⟨C, hC⟩ := hx
  have hN : Names X x (.ref C) := ⟨hg, hd, .inl hC⟩
  have eC : ((X.mg x).getD .none) = .ref C := by rw [hC]; rfl
  refine ss_weak (L2N.ps_try_many (tb := fun W => tSt T W X.gp mb) (l := [(.ref C, fun a cls d D σ H => d = none ∧ tSt { T with exn := some (a, cls) } WF X.gp mh D σ H)]) hs hf tk hb (.cons hN (fun a oe cls d pn z1 z2 => suite_d z1 z2 fun z1 z2 => hh a oe cls pn z1 z2) .nil)) fun D σ H s I q => ⟨s, I, ?_⟩
  unfold AftS tryM at q
  cases e : mb s.ρ s.S with
  | stk => rw [e] at q; exact q
  | ok f ρ S =>
    rw [e] at q
    intro s' σ' H' le e1 e2 J
    have := q s' σ' H' le e1 e2 J
    cases f <;> exact this
  | exc c ρ S =>
    rw [e] at q
    intro s' σ' H' le e1 e2 J
    cases es : sub c x with
    | none => simp only [es] at q
    | some b =>
      have hex := hsub c x b es ⟨C, hC⟩
      rw [eC] at hex
      refine ⟨b, hex, fun hb1 a ha => ?_, fun hb0 => ?_⟩
      · subst hb1
        simp only [es] at q
        cases eh : mh (mexn none c ρ) S with
        | stk => simp only [eh] at q
        | exc c2 ρ2 S2 => simp only [eh] at q
        | ok f ρ2 S2 =>
          simp only [eh] at q
          refine ⟨rfl, tSt_iff.mpr ⟨s', Sim.toExn J h0, ?_⟩⟩
          unfold AftS
          rw [e1, e2, show mh ρ S = .ok f ρ2 S2 from eh]
          intro s2 σ2 H2 le2 e3 e4 J2
          have := suite_fin (T' := { T with exn := some (a, gcls X.gp c) }) (D := D) (i := none) (T := T) (s := s) (f := f) rfl rfl rfl J2 (le.trans le2) fun s3 σ3 H3 le3 e5 e6 J3 => q s3 σ3 H3 le3 (by rw [e5, e3]) (by rw [e6, e4]) J3
          exact this
      · subst hb0
        simp only [es] at q
        exact q s' σ' H' le e1 e2 J
theorem s_tryAs {x n : Str} {i : Nat} {sub : Str → Str → Option Bool} {np pos' : Pos} {body suite : List Stmt} {b₀ : Stmt} {mb mh : M Fl} (hs : X.stack = X.env :: X.outer) (hf : X.env.frame = some X.env.locals) (hN : X.N.Nodup) (hi : X.N[i]? = some n) (hln : X.env.scope.names.lookup n = some .local) (tk : L2N.Takes X W) (h0 : T.exn = none)
    (hsub : SubI X.K X.mg sub) (hx : ∃ C, X.mg x = some (.ref C)) (hg : Gl X x) (hd : (x == ("__debug__" : Str)) = false)
    (hb : ∀ (W : WX) (pn : List (Addr × Obj)) (xe : Value → Shared → Prop), L2N.Takes (X.tr pn xe) W → PassesOwn (model X.prog X.w) X.A X.env xe → SSs T W (X.tr pn xe) body mb)
    (hh : ∀ (a : Addr) (oe : Obj) (cls : Value) (pn : List (Addr × Obj)), L2N.Zn cls none oe → (∃ vs, oe.data = .fields vs) → SSs { T with exn := some (a, cls) } WF (X.suite a ((a, oe) :: pn)) (b₀ :: suite) mh) :
    SS T W X (.Try body [.ExceptHandler (some (.Name x np)) (some n) (b₀ :: suite) pos'] [] [] pos) (tryM sub mb x (some i) mh) := by
  obtain ⟨C, hC⟩ := hx
  have hNm : Names X x (.ref C) := ⟨hg, hd, .inl hC⟩
  have eC : ((X.mg x).getD .none) = .ref C := by rw [hC]; rfl
  refine ss_weak (L2N.ps_try_as (tb := fun W => tSt T W X.gp mb) (c := .ref C) (ts := fun a cls d D σ H => d = none ∧ tSt { T with exn := some (a, cls) } WF X.gp mh D σ H) hs hf hN hi hln hNm tk hb (fun a oe cls d pn z1 z2 => suite_d z1 z2 fun z1 z2 => hh a oe cls pn z1 z2)) fun D σ H s I q => ⟨s, I, ?_⟩
  unfold AftS tryM at q
  cases e : mb s.ρ s.S with
  | stk => rw [e] at q; exact q
  | ok f ρ S =>
    rw [e] at q
    intro s' σ' H' le e1 e2 J
    have := q s' σ' H' le e1 e2 J
    cases f <;> exact this
  | exc c ρ S =>
    rw [e] at q
    intro s' σ' H' le e1 e2 J
    cases es : sub c x with
    | none => simp only [es] at q
    | some b =>
      have hex := hsub c x b es ⟨C, hC⟩
      rw [eC] at hex
      refine ⟨b, hex, fun hb1 a ha => ?_, fun hb0 => ?_⟩
      · subst hb1
        simp only [es] at q
        cases eh : mh (mexn (some i) c ρ) S with
        | stk => simp only [eh] at q
        | exc c2 ρ2 S2 => simp only [eh] at q
        | ok f ρ2 S2 =>
          simp only [eh] at q
          refine ⟨rfl, tSt_iff.mpr ⟨{ s' with ρ := s'.ρ.set i (.exn c) }, Sim.setexn (Sim.toExn J h0) rfl, ?_⟩⟩
          subst e1 e2
          unfold AftS
          dsimp only
          rw [show mh (s'.ρ.set i (.exn c)) s'.S = .ok f ρ2 S2 from eh]
          intro s2 σ2 H2 le2 e3 e4 J2
          have := suite_fin (T' := { T with exn := some (a, gcls X.gp c) }) (D := D) (i := some i) (T := T) (s := s) (f := f) rfl rfl rfl J2 (Le.trans (s1 := { s' with ρ := s'.ρ.set i (.exn c) }) ⟨le.B, le.G, le.μ⟩ le2) fun s3 σ3 H3 le3 e5 e6 J3 => q s3 σ3 H3 le3 (by rw [e5, e3]) (by rw [e6, e4]) J3
          exact this
      · subst hb0
        simp only [es] at q
        exact q s' σ' H' le e1 e2 J
end
end MP

namespace MP
open PySem PySem.Spec L2
/-- what a called def leans on -/
structure Core (g : Gp) (tabs : List NdefX.NTab) (G : Hp) (μ : List Addr) (S : Store) (H : Hp) : Prop where
  gh : Sub G H
  munod : μ.Nodup
  muG : ∀ a ∈ μ, G a = none
  slen : S.length = μ.length
  store : ∀ (n : Nat) o a, S[n]? = some o → μ[n]? = some a → mrep g μ G H a o
  tabs : NdefX.TabsN tabs H
  notbl : ∀ a ps, G a ≠ some (.tbl ps)
section
variable {g : Gp} {T T' : Tx} {B : Bs} {G G' : Hp} {μ μ' : List Addr} {ρ ρ' : Fr} {S S' : Store} {σ σ' : L2.St} {H H' : Hp}
theorem Sim.core (I : Sim g T B G μ ρ S σ H) : Core g T.tabs G μ S H := ⟨I.gh, I.munod, I.muG, I.slen, I.store, I.tabs, I.notbl⟩
theorem Core.mu (C : Core g T.tabs G μ S H) {a : Addr} (h : a ∈ μ) : ∃ o, mrep g μ G H a o := by
  obtain ⟨n, hn⟩ := List.mem_iff_getElem?.mp h
  have hl : n < S.length := by rw [C.slen]; exact (List.getElem?_eq_some_iff.mp hn).1
  exact ⟨_, C.store n S[n] a (List.getElem?_eq_getElem hl) hn⟩
/-- an argument, as it stands at the entry -/
def argOk (g : Gp) (T : Tx) (G : Hp) (μ : List Addr) (H : Hp) : Slot → V → Prop
  | .own _, _ => False
  | .none, _ => False
  | .fdef _, _ => False
  | .lck o, v => ∃ a, v = .ref a ∧ mrepL g μ G H a o ∧ a ∉ μ
  | sl, v => slotV g T μ G sl v
theorem Core.enter (C : Core g T.tabs G μ S H) (hl : ρ'.length = σ'.length) (h : ∀ (i : Nat) sl, ρ'[i]? = some sl → sl = .none ∨ ∃ v, σ'[i]? = some (some v) ∧ argOk g T G μ H sl v) : Sim g T ⟨H, G, μ, fun _ => Option.none⟩ G μ ρ' S σ' H := by
  refine ⟨C.gh, fun a o e _ _ => e, fun a e => e, Sub.refl _, fun a o e => .inl e, ⟨[], by simp, fun a ha => by cases ha⟩, C.munod, C.muG, C.slen, C.store, hl, fun i sl e => ?_, fun i j m m' e1 e2 ne => ?_, C.tabs, C.notbl, fun b vs e => nomatch e⟩
  · rcases h i sl e with q | ⟨v, e1, r⟩
    · subst q; trivial
    · cases sl with
      | none => trivial
      | own o => exact r.elim
      | lck o => obtain ⟨a, rfl, r1, r2⟩ := r; exact ⟨a, e1, r1, r2⟩
      | val d => exact ⟨v, e1, r⟩
      | fdef k => exact r.elim
      | clo k caps => exact ⟨v, e1, r⟩
      | exn c => exact ⟨v, e1, r⟩
  · rcases h i _ e1 with q | ⟨v, _, q⟩
    · cases q
    · exact q.elim
/-- where a called def ends: its frame forgotten -/
abbrev Ends0 (g : Gp) (tabs : List NdefX.NTab) (G : Hp) (μ : List Addr) (H : Hp) (G' : Hp) (μ' : List Addr) (S' : Store) (H' : Hp) : Prop := Sim g ⟨tabs, [], [], none⟩ ⟨H, G, μ, fun _ => Option.none⟩ G' μ' [] S' [] H'
theorem Sim.ends {pin : Addr → Option PinO} (J : Sim g T ⟨H, G, μ, pin⟩ G' μ' ρ' S' σ' H') : Ends0 g T.tabs G μ H G' μ' S' H' :=
  ⟨J.gh, J.base, J.gone, J.g0, J.gnew, J.mu0, J.munod, J.muG, J.slen, J.store, rfl, fun i sl e => by simp at e, fun i j m m' e => by simp at e, J.tabs, J.notbl, fun b vs e => nomatch e⟩
theorem Sim.back (I : Sim g T B G μ ρ S σ H) (J : Ends0 g T.tabs G μ H G' μ' S' H') : Sim g T B G' μ' ρ S' σ H' ∧ Sub G G' ∧ (∀ (n : Nat) (b : Addr), μ[n]? = some b → μ'[n]? = some b) := Sim.mono_base I J rfl
end
/-! ### cells, tracked and not -/
/-- H1 is H without the cells at C -/
def hid (C : List Addr) (H : Hp) : Hp := fun a => if a ∈ C then none else H a
theorem hid_in {C : List Addr} {H : Hp} {a : Addr} (h : a ∈ C) : hid C H a = none := by unfold hid; rw [if_pos h]
theorem hid_out {C : List Addr} {H : Hp} {a : Addr} (h : a ∉ C) : hid C H a = H a := by unfold hid; rw [if_neg h]
theorem hid_some {C : List Addr} {H : Hp} {a : Addr} {o : HO} (h : hid C H a = some o) : a ∉ C ∧ H a = some o := by
  by_cases hc : a ∈ C
  · rw [hid_in hc] at h; cases h
  · rw [hid_out hc] at h; exact ⟨hc, h⟩
/-- C's places are cells in H -/
def CellsIn (C : List Addr) (H : Hp) : Prop := ∀ c ∈ C, ∃ o u, H c = some (CellO c o) ∧ o.data = .cell u
theorem CellsIn.out {C : List Addr} {H : Hp} {a : Addr} {o : HO} (h : CellsIn C H) (e : H a = some o) (n : ∀ c u, o ≠ CellO c u) : a ∉ C := fun ha => by
  obtain ⟨u, w, q, _⟩ := h a ha
  rw [e] at q
  exact n a u (Option.some.inj q)
section
variable {g : Gp} {C : List Addr} {G H : Hp} {μ : List Addr}
theorem Rd_hid {a : Addr} {u : HO} (hC : CellsIn C H) (n1 : ∀ c o, u ≠ CellO c o) (n2 : ∀ φ, u ≠ .ext φ) (r : Rd H a u) : Rd (hid C H) a u := by
  rcases r with r | ⟨o, r⟩
  · exact .inl (by rw [hid_out (hC.out r n1)]; exact r)
  · refine .inr ⟨o, ?_⟩
    rw [hid_out (hC.out r fun c w z => ?_)]
    · exact r
    · unfold CellO at z
      injection z with z1 z2
      exact n2 _ z2
mutual
theorem rep_hid (hC : CellsIn C G) : ∀ (d : D) (v : V), rep g μ G d v → rep g μ (hid C G) d v
  | .non, v, h => h
  | .bl b, v, h => h
  | .int i, v, h => h
  | .str s, v, h => h
  | .tup l, v, ⟨a, vs, e, q, r⟩ => ⟨a, vs, e, by rw [hid_out (hC.out q fun c o z => by unfold CellO at z; cases z)]; exact q, reps_hid hC l vs r⟩
  | .lst l, v, ⟨a, vs, e, q, r⟩ => ⟨a, vs, e, by rw [hid_out (hC.out q fun c o z => by unfold CellO at z; cases z)]; exact q, reps_hid hC l vs r⟩
  | .fz l, v, ⟨a, vs, e, q, r⟩ => ⟨a, vs, e, by
      rcases q with q | q
      · exact .inl (Rd_hid hC (fun c o z => by unfold CellO at z; cases z) (fun φ z => nomatch z) q)
      · exact .inr q, reps_hid hC l vs r⟩
  | .ref n, v, h => h
  | .fn x, v, h => h
  | .dct false ks vs, v, ⟨a, kvs, e, q, k, r⟩ => ⟨a, kvs, e, Rd_hid hC (fun c o z => by unfold CellO at z; cases z) (fun φ z => nomatch z) q, k, reps_hid hC vs _ r⟩
  | .dct true ks vs, v, ⟨a, kvs, e, q, k, r⟩ => ⟨a, kvs, e, Rd_hid hC (fun c o z => by unfold CellO at z; cases z) (fun φ z => nomatch z) q, k, reps_hid hC vs _ r⟩
theorem reps_hid (hC : CellsIn C G) : ∀ (ds : List D) (vs : List V), reps g μ G ds vs → reps g μ (hid C G) ds vs
  | [], vs, h => h
  | d :: ds, vs, ⟨v, r, e, h1, h2⟩ => ⟨v, r, e, rep_hid hC d v h1, reps_hid hC ds r h2⟩
end
theorem mrep_hid {a : Addr} {o : MO} (hC : CellsIn C G) (hH : CellsIn C H) (h : mrep g μ G H a o) : mrep g μ (hid C G) (hid C H) a o := by
  cases o with
  | lst l =>
    obtain ⟨vs, e, r⟩ := h
    exact ⟨vs, by rw [hid_out (hH.out e fun c o z => by unfold CellO at z; cases z)]; exact e, reps_hid hC _ _ r⟩
  | dct t ks vs =>
    cases t <;>
    · obtain ⟨kvs, e, k, r⟩ := h
      exact ⟨kvs, by rw [hid_out (hH.out e fun c o z => by unfold CellO at z; cases z)]; exact e, k, reps_hid hC _ _ r⟩
  | ins D fs =>
    obtain ⟨Ca, dx, fvs, e, k, n, r⟩ := h
    exact ⟨Ca, dx, fvs, by rw [hid_out (hH.out e fun c o z => by unfold CellO at z; cases z)]; exact e, k, n, reps_hid hC _ _ r⟩
theorem tabsN_hid {tabs : List NdefX.NTab} (hH : CellsIn C H) (t : NdefX.TabsN tabs H) : NdefX.TabsN tabs (hid C H) := fun p hp => by
  obtain ⟨ps, h1, h2, h3⟩ := t p hp
  refine ⟨ps, by rw [hid_out (hH.out h1 fun c o z => by unfold CellO at z; cases z)]; exact h1, h2, fun pos cv hc => ?_⟩
  obtain ⟨c, y1, y2⟩ := h3 pos cv hc
  refine ⟨c, y1, ?_⟩
  rw [hid_out (hH.out y2 fun c o z => by unfold CellO LamX.CodeO at z; cases z)]
  exact y2
theorem Core.hid {tabs : List NdefX.NTab} {S : Store} (I : Core g tabs G μ S H) (hC : CellsIn C G) : Core g tabs (hid C G) μ S (hid C H) := by
  have hH : CellsIn C H := fun c hc => let ⟨o, u, e, d⟩ := hC c hc; ⟨o, u, I.gh _ _ e, d⟩
  refine ⟨fun a o e => ?_, I.munod, fun a ha => ?_, I.slen, fun n o a e1 e2 => mrep_hid hC hH (I.store n o a e1 e2), tabsN_hid hH I.tabs, fun a ps e => ?_⟩
  · obtain ⟨h1, h2⟩ := hid_some e
    rw [hid_out h1]; exact I.gh _ _ h2
  · by_cases hc : a ∈ C
    · exact hid_in hc
    · rw [hid_out hc]; exact I.muG a ha
  · exact I.notbl a ps (hid_some e).2
/-- H with the cells at C as they stand in K -/
def shw (C : List Addr) (K H : Hp) : Hp := fun a => if a ∈ C then K a else H a
theorem shw_in {K : Hp} {a : Addr} (h : a ∈ C) : shw C K H a = K a := by unfold shw; rw [if_pos h]
theorem shw_out {K : Hp} {a : Addr} (h : a ∉ C) : shw C K H a = H a := by unfold shw; rw [if_neg h]
theorem shw_sub {K : Hp} (h : ∀ c ∈ C, H c = none) : Sub H (shw C K H) := fun a o e => by
  rw [shw_out (fun hc => by rw [h a hc] at e; cases e)]; exact e
theorem hid_shw {K : Hp} (h : ∀ c ∈ C, H c = none) : hid C (shw C K H) = H := by
  funext a
  by_cases hc : a ∈ C
  · rw [hid_in hc, h a hc]
  · rw [hid_out hc, shw_out hc]
theorem shw_hid : shw C H (hid C H) = H := by
  funext a
  by_cases hc : a ∈ C
  · rw [shw_in hc]
  · rw [shw_out hc, hid_out hc]
theorem Core.shw {tabs : List NdefX.NTab} {S : Store} {K : Hp} (I : Core g tabs G μ S H) (hK : CellsIn C K) (h0 : ∀ c ∈ C, H c = none) : Core g tabs (shw C K G) μ S (shw C K H) := by
  have g0 : ∀ c ∈ C, G c = none := fun c hc => I.gh.none (h0 c hc)
  have sG : Sub G (MP.shw C K G) := shw_sub g0
  have sH : Sub H (MP.shw C K H) := shw_sub h0
  refine ⟨fun a o e => ?_, I.munod, fun a ha => ?_, I.slen, fun n o a e1 e2 => ?_, I.tabs.ext sH, fun a ps e => ?_⟩
  · by_cases hc : a ∈ C
    · rw [shw_in hc] at e ⊢; exact e
    · rw [shw_out hc] at e ⊢; exact I.gh _ _ e
  · obtain ⟨n, hn⟩ := List.mem_iff_getElem?.mp ha
    have hl : n < S.length := by rw [I.slen]; exact (List.getElem?_eq_some_iff.mp hn).1
    have m := I.store n S[n] a (List.getElem?_eq_getElem hl) hn
    obtain ⟨u, q, _⟩ := mrep_some m
    rw [shw_out (fun hc => by rw [h0 a hc] at q; cases q)]
    exact I.muG a ha
  · have m := I.store n o a e1 e2
    obtain ⟨u, q, _⟩ := mrep_some m
    exact mrep_mono sG (fun _ _ h => h) ((sH _ _ q).trans q.symm) m
  · by_cases hc : a ∈ C
    · rw [shw_in hc] at e
      obtain ⟨o, u, q, _⟩ := hK a hc
      rw [q] at e
      unfold CellO at e
      cases e
    · rw [shw_out hc] at e; exact I.notbl a ps e
/-- behind a call that knew the cells: they are forgotten -/
theorem Ends0.hid {tabs : List NdefX.NTab} {K G' H' : Hp} {μ' : List Addr} {S' : Store} (gh : Sub G H) (h0 : ∀ c ∈ C, H c = none) (hK : CellsIn C K) (hmu : ∀ c ∈ C, c ∉ μ) (J : Ends0 g tabs (MP.shw C K G) μ (MP.shw C K H) G' μ' S' H') : Ends0 g tabs G μ H (hid C G') μ' S' (hid C H') ∧ CellsIn C G' := by
  have cG : CellsIn C G' := fun c hc => by
    obtain ⟨o, u, e, d⟩ := hK c hc
    exact ⟨o, u, J.g0 _ _ (by show MP.shw C K G c = _; rw [shw_in hc]; exact e), d⟩
  have cH : CellsIn C H' := fun c hc => let ⟨o, u, e, d⟩ := cG c hc; ⟨o, u, J.gh _ _ e, d⟩
  have g0 : ∀ c ∈ C, G c = none := fun c hc => gh.none (h0 c hc)
  refine ⟨⟨fun a o e => ?_, fun a o e n1 n2 => ?_, fun a e => ?_, fun a o e => ?_, fun a o e => ?_, ?_, J.munod, fun a ha => ?_, J.slen, fun n o a e1 e2 => mrep_hid cG cH (J.store n o a e1 e2), rfl, fun i sl e => by simp at e, fun i j m m' e => by simp at e, tabsN_hid cH J.tabs, fun a ps e => J.notbl a ps (hid_some e).2, fun b vs e => nomatch e⟩, cG⟩
  · obtain ⟨h1, h2⟩ := hid_some e
    rw [hid_out h1]; exact J.gh _ _ h2
  · have nc : a ∉ C := fun hc => by
      have e : H a = some o := e
      rw [h0 a hc] at e; cases e
    rw [hid_out nc]
    exact J.base a o (by show MP.shw C K H a = _; rw [shw_out nc]; exact e) n1 n2
  · by_cases hc : a ∈ C
    · exact h0 a hc
    · rw [hid_out hc] at e
      have := J.gone a e
      have : MP.shw C K H a = none := this
      rw [shw_out hc] at this
      exact this
  · have nc : a ∉ C := fun hc => by
      have e : G a = some o := e
      rw [g0 a hc] at e; cases e
    rw [hid_out nc]
    exact J.g0 _ _ (by show MP.shw C K G a = _; rw [shw_out nc]; exact e)
  · obtain ⟨h1, h2⟩ := hid_some e
    rcases J.gnew a o h2 with q | q | q
    · have q : MP.shw C K G a = some o := q
      rw [shw_out h1] at q
      exact .inl q
    · have q : MP.shw C K H a = none := q
      rw [shw_out h1] at q
      exact .inr (.inl q)
    · exact .inr (.inr q)
  · obtain ⟨more, e, hm⟩ := J.mu0
    refine ⟨more, e, fun a ha => ?_⟩
    have q : MP.shw C K H a = none := hm a ha
    by_cases hc : a ∈ C
    · exact h0 a hc
    · rw [shw_out hc] at q; exact q
  · by_cases hc : a ∈ C
    · exact hid_in hc
    · rw [hid_out hc]; exact J.muG a ha
/-- behind a call that did not know the cells: they are known again -/
theorem Ends0.shw {tabs : List NdefX.NTab} {G' H' : Hp} {μ' : List Addr} {S' : Store} (gh : Sub G H) (hC : CellsIn C G) (hn : ∀ c ∈ C, H' c = none) (J : Ends0 g tabs (MP.hid C G) μ (MP.hid C H) G' μ' S' H') : Ends0 g tabs G μ H (MP.shw C G G') μ' S' (MP.shw C H H') := by
  have n' : ∀ c ∈ C, G' c = none := fun c hc => J.gh.none (hn c hc)
  have sG : Sub G' (MP.shw C G G') := shw_sub n'
  have sH : Sub H' (MP.shw C H H') := shw_sub hn
  refine ⟨fun a o e => ?_, fun a o e n1 n2 => ?_, fun a e => ?_, fun a o e => ?_, fun a o e => ?_, ?_, J.munod, fun a ha => ?_, J.slen, fun n o a e1 e2 => ?_, rfl, fun i sl e => by simp at e, fun i j m m' e => by simp at e, J.tabs.ext sH, fun a ps e => ?_, fun b vs e => nomatch e⟩
  · by_cases hc : a ∈ C
    · rw [shw_in hc] at e ⊢; exact gh _ _ e
    · rw [shw_out hc] at e ⊢; exact J.gh _ _ e
  · by_cases hc : a ∈ C
    · rw [shw_in hc]; exact e
    · rw [shw_out hc]
      exact J.base a o (by show MP.hid C H a = _; rw [hid_out hc]; exact e) n1 n2
  · by_cases hc : a ∈ C
    · rw [shw_in hc] at e; exact e
    · rw [shw_out hc] at e
      have : MP.hid C H a = none := J.gone a e
      rw [hid_out hc] at this
      exact this
  · by_cases hc : a ∈ C
    · rw [shw_in hc]; exact e
    · rw [shw_out hc]
      exact J.g0 _ _ (by show MP.hid C G a = _; rw [hid_out hc]; exact e)
  · by_cases hc : a ∈ C
    · rw [shw_in hc] at e; exact .inl e
    · rw [shw_out hc] at e
      rcases J.gnew a o e with q | q | q
      · exact .inl (hid_some q).2
      · have q : MP.hid C H a = none := q
        rw [hid_out hc] at q
        exact .inr (.inl q)
      · exact .inr (.inr q)
  · obtain ⟨more, e, hm⟩ := J.mu0
    refine ⟨more, e, fun a ha => ?_⟩
    have q : MP.hid C H a = none := hm a ha
    by_cases hc : a ∈ C
    · exfalso
      have hmem : a ∈ μ' := by rw [e]; exact List.mem_append_right _ ha
      obtain ⟨u, q2, _⟩ := J.muH hmem
      rw [hn a hc] at q2; cases q2
    · rw [hid_out hc] at q; exact q
  · obtain ⟨u, q2, _⟩ := J.muH ha
    rw [shw_out (fun hc => by rw [hn a hc] at q2; cases q2)]
    exact J.muG a ha
  · have m := J.store n o a e1 e2
    obtain ⟨u, q, _⟩ := mrep_some m
    exact mrep_mono sG (fun _ _ h => h) ((sH _ _ q).trans q.symm) m
  · by_cases hc : a ∈ C
    · rw [shw_in hc] at e
      obtain ⟨o, u, q, _⟩ := hC a hc
      rw [q] at e
      unfold CellO at e
      cases e
    · rw [shw_out hc] at e; exact J.notbl a ps e
end
/-! ### the concrete heap -/
section
variable {P : Program} {w : World} {C : List Addr} {H : Hp} {h : Heap}
theorem cellO_own {c b : Addr} {o : Obj} : CellO c o ≠ .own b := fun z => by unfold CellO at z; cases z
theorem hok_hid (hC : CellsIn C H) (k : HOk P w H h) : HOk P w (hid C H) h := fun a o e => by
  obtain ⟨h1, h2⟩ := hid_some e
  refine (k a o h2).stay (fun b u _ q => q) (fun b q => ?_) fun b xs q => ?_
  · rw [hid_out (hC.out q fun c o z => cellO_own z.symm)]; exact q
  · rw [hid_out (hC.out q fun c o z => by unfold CellO at z; cases z)]; exact q
theorem hok_shw {K : Hp} (h0 : ∀ c ∈ C, H c = none) (hK : ∀ c ∈ C, ∃ o, K c = some (CellO c o) ∧ h.get? c = some o) (k : HOk P w H h) : HOk P w (shw C K H) h := fun a o e => by
  by_cases hc : a ∈ C
  · rw [shw_in hc] at e
    obtain ⟨u, q1, q2⟩ := hK a hc
    rw [q1] at e
    cases e
    exact ⟨q2, ⟨⟨u, q2⟩, ⟨u, q2⟩, fun h1 h2 ⟨v, x⟩ st => ⟨v, st _ x⟩⟩⟩
  · rw [shw_out hc] at e
    refine (k a o e).stay (fun b u _ q => q) (fun b q => ?_) fun b xs q => ?_
    · exact shw_sub h0 _ _ q
    · exact shw_sub h0 _ _ q
theorem un_hid {fs : List Addr} {H1' : Hp} {h' : Heap} {K : Hp} (h0 : ∀ c ∈ C, H c = none) (hK : ∀ c ∈ C, ∃ o, K c = some (CellO c o) ∧ h.get? c = some o) (k' : HOk P w H1' h') (u : Un fs [] (shw C K H) H1' h h') : Un fs [] H (hid C H1') h h' := by
  have out : ∀ {a : Addr} {o : HO}, H a = some o → a ∉ C := fun {a o} e hc => by rw [h0 a hc] at e; cases e
  have key : ∀ c ∈ C, ∀ o, h.get? c = some o → h'.get? c = some o := fun c hc o e => by
    obtain ⟨o', q1, q2⟩ := hK c hc
    rw [e] at q2
    cases q2
    have z := u.frzs c o _ (show shw C K H c = some (.frz o _) by rw [shw_in hc]; exact q1)
    exact (k' c _ z).1
  refine ⟨fun b o e n nf nx => ?_, fun b o e n hf nx => ?_, fun b o e n nx => ?_, u.there, fun b xs e => ?_, fun b o v e => ?_, fun b ps e => ?_⟩
  · by_cases hc : b ∈ C
    · exact key b hc o e
    · exact u.keep b o e (by rw [shw_out hc]; exact n) nf nx
  · by_cases hc : b ∈ C
    · exact ⟨o.slots, key b hc o e⟩
    · exact u.slot b o e (by rw [shw_out hc]; exact n) hf nx
  · by_cases hc : b ∈ C
    · exact hid_in hc
    · rw [hid_out hc]; exact u.free b o e (by rw [shw_out hc]; exact n) nx
  · rw [hid_out (out e)]; exact u.tups b xs (shw_sub h0 _ _ e)
  · rw [hid_out (out e)]; exact u.frzs b o v (shw_sub h0 _ _ e)
  · obtain ⟨more, z⟩ := u.tbls b ps (shw_sub h0 _ _ e)
    exact ⟨more, by rw [hid_out (out e)]; exact z⟩
theorem un_shw {fs : List Addr} {H1' : Hp} {h' : Heap} (hC : CellsIn C H) (ok : HOk P w H h) (ok' : HOk P w H1' h') (hf : ∀ b ∈ fs, H b = none) (u : Un fs [] (hid C H) H1' h h') : Un fs [] H (shw C H H1') h h' ∧ HOk P w (shw C H H1') h' ∧ ∀ c ∈ C, H1' c = none := by
  have at_ : ∀ c ∈ C, ∃ o, H c = some (CellO c o) ∧ h.get? c = some o := fun c hc => by
    obtain ⟨o, v, e, _⟩ := hC c hc
    exact ⟨o, e, (ok c _ e).1⟩
  have nfs : ∀ c ∈ C, c ∉ fs := fun c hc hb => by
    obtain ⟨o, e, _⟩ := at_ c hc
    rw [hf c hb] at e; cases e
  have n1 : ∀ c ∈ C, H1' c = none := fun c hc => by
    obtain ⟨o, _, e⟩ := at_ c hc
    exact u.free c o e (hid_in hc) (by simp)
  have key : ∀ c ∈ C, ∃ o, H c = some (CellO c o) ∧ h'.get? c = some o := fun c hc => by
    obtain ⟨o, e1, e2⟩ := at_ c hc
    exact ⟨o, e1, u.keep c o e2 (hid_in hc) (nfs c hc) (by simp)⟩
  refine ⟨⟨fun b o e n nf nx => ?_, fun b o e n hf nx => ?_, fun b o e n nx => ?_, u.there, fun b xs e => ?_, fun b o v e => ?_, fun b ps e => ?_⟩, hok_shw n1 key ok', n1⟩
  · exact u.keep b o e (by unfold hid; split; rfl; exact n) nf nx
  · exact u.slot b o e (by unfold hid; split; rfl; exact n) hf nx
  · have nc : b ∉ C := fun hc => by
      obtain ⟨o, e, _⟩ := at_ b hc
      rw [n] at e; cases e
    rw [shw_out nc]; exact u.free b o e (by rw [hid_out nc]; exact n) nx
  · have nc := hC.out e fun c o z => by unfold CellO at z; cases z
    rw [shw_out nc]; exact u.tups b xs (by rw [hid_out nc]; exact e)
  · by_cases hc : b ∈ C
    · rw [shw_in hc]; exact e
    · rw [shw_out hc]; exact u.frzs b o v (by rw [hid_out hc]; exact e)
  · have nc := hC.out e fun c o z => by unfold CellO at z; cases z
    obtain ⟨more, z⟩ := u.tbls b ps (by rw [hid_out nc]; exact e)
    exact ⟨more, by rw [shw_out nc]; exact z⟩
end
end MP

namespace MP
open PySem PySem.Spec L2
section
variable {g : Gp} {T : Tx} {B : Bs} {G : Hp} {μ : List Addr} {ρ : Fr} {S : Store} {σ : L2.St} {H : Hp}
theorem slotV_noown {sl : Slot} {v : V} (h : slotV g T μ G sl v) : ∀ m, sl ≠ .own m := fun m q => by subst q; exact h
/-- a slot is set -/
theorem Sim.setslot {i : Nat} {sl : Slot} {v : V} (I : Sim g T B G μ ρ S σ H) (hv : slotV g T μ G sl v) : Sim g T B G μ (ρ.set i sl) S (σ.set i (some v)) H := by
  have no := slotV_noown hv
  have get : ∀ {j : Nat} {s' : Slot}, (ρ.set i sl)[j]? = some s' → (j = i ∧ s' = sl ∧ i < ρ.length) ∨ (j ≠ i ∧ ρ[j]? = some s') := fun {j s'} e => by
    by_cases hj : j = i
    · subst hj
      rw [List.getElem?_set] at e
      simp only [if_true] at e
      split at e
      · rename_i hl; cases e; exact .inl ⟨rfl, rfl, hl⟩
      · cases e
    · rw [List.getElem?_set_ne (Ne.symm hj)] at e; exact .inr ⟨hj, e⟩
  have es : ∀ {j : Nat}, j ≠ i → (σ.set i (some v))[j]? = σ[j]? := fun hj => List.getElem?_set_ne (Ne.symm hj)
  refine ⟨I.gh, I.base, I.gone, I.g0, I.gnew, I.mu0, I.munod, I.muG, I.slen, I.store, by simpa using I.len, fun j s' e => ?_, fun j k m m' e1 e2 ne => ?_, I.tabs, I.notbl, fun b vs e => ?_⟩
  · rcases get e with ⟨rfl, rfl, hl⟩ | ⟨hj, q⟩
    · exact slotOk_of hv (by rw [List.getElem?_set_self (by rw [← I.len]; exact hl)])
    · have z := I.slots j s' q
      cases s' with
      | none => trivial
      | own m => obtain ⟨b, e1, z⟩ := z; exact ⟨b, (es hj).trans e1, z⟩
      | lck m => obtain ⟨b, e1, z⟩ := z; exact ⟨b, (es hj).trans e1, z⟩
      | val d => obtain ⟨w, e1, r⟩ := z; exact ⟨w, (es hj).trans e1, r⟩
      | fdef d => obtain ⟨w, e1, r⟩ := z; exact ⟨w, (es hj).trans e1, r⟩
      | clo d c => obtain ⟨w, e1, r⟩ := z; exact ⟨w, (es hj).trans e1, r⟩
      | exn d => obtain ⟨w, e1, r⟩ := z; exact ⟨w, (es hj).trans e1, r⟩
  · rcases get e1 with ⟨_, z, _⟩ | ⟨hj, q1⟩
    · exact absurd z.symm (no m)
    rcases get e2 with ⟨_, z, _⟩ | ⟨hk, q2⟩
    · exact absurd z.symm (no m')
    rw [es hj, es hk]
    exact I.dis j k m m' q1 q2 ne
  · obtain ⟨z1, z2, z3, z4, z5⟩ := I.pins b vs e
    refine ⟨z1, z2, z3, z4, fun j m q => ?_⟩
    rcases get q with ⟨_, z, _⟩ | ⟨hj, q⟩
    · exact absurd z.symm (no m)
    · rw [es hj]; exact z5 j m q
/-- the tables grow, things known for ever are added -/
theorem Sim.grow {G1 H1 : Hp} (I : Sim g T B G μ ρ S σ H) (hE : LamX.ExtN H H1) (hn : ∀ b, H1 b = none → H b = none) (ht : NdefX.TabsN T.tabs H1) (sg : Sub G G1) (hg : Sub G1 H1) (hnew : ∀ a o, G1 a = some o → G a = some o ∨ ∃ φ, o = .ext φ) : Sim g T B G1 μ ρ S σ H1 := by
  have hm : ∀ {a : Addr} {u : HO}, H a = some u → (∀ ps, u ≠ .tbl ps) → H1 a = H a := fun {a u} e nt => by rw [e]; exact hE a u e nt
  have g1 : ∀ {a : Addr} {u : HO}, H a = some u → (∀ ps, u ≠ .tbl ps) → (∀ φ, u ≠ .ext φ) → G a = none → G1 a = none := fun {a u} e nt ne z => by
    cases q : G1 a with
    | none => rfl
    | some o =>
      rcases hnew a o q with h | ⟨φ, h⟩
      · rw [z] at h; cases h
      · have h2 := hg _ _ q
        rw [hm e nt, e] at h2
        cases h2
        exact absurd h (ne φ)
  have mne : ∀ {a : Addr} {o : MO}, mrep g μ G H a o → ∃ u, H a = some u ∧ (∀ ps, u ≠ .tbl ps) ∧ ∀ φ, u ≠ .ext φ := fun {a o} m => by
    obtain ⟨u, e, nt⟩ := mrep_some m
    exact ⟨u, e, nt, fun φ z => mrep_noext m (by rw [e, z])⟩
  refine ⟨hg, fun a o e n1 n2 => hE a o (I.base a o e n1 n2) n2, fun a e => I.gone a (hn a e), I.g0.trans sg, fun a o e => ?_, I.mu0, I.munod, fun a ha => ?_, I.slen, fun n o a e1 e2 => ?_, I.len, fun i sl e => ?_, I.dis, ht, fun a ps e => ?_, fun b vs e => ?_⟩
  · rcases hnew a o e with h | h
    · exact I.gnew a o h
    · exact .inr (.inr h)
  · obtain ⟨n, hn⟩ := List.mem_iff_getElem?.mp ha
    have hl : n < S.length := by rw [I.slen]; exact (List.getElem?_eq_some_iff.mp hn).1
    obtain ⟨u, e, nt, ne⟩ := mne (I.store n S[n] a (List.getElem?_eq_getElem hl) hn)
    exact g1 e nt ne (I.muG a ha)
  · have m := I.store n o a e1 e2
    obtain ⟨u, e, nt, ne⟩ := mne m
    exact mrep_mono sg (fun _ _ h => h) (hm e nt) m
  · have z := I.slots i sl e
    cases sl with
    | none => trivial
    | own o =>
      obtain ⟨a, e1, e2, e3, e4, e5⟩ := z
      obtain ⟨u, q, nt, ne⟩ := mne e2
      exact ⟨a, e1, mrep_mono sg (fun _ _ h => h) (hm q nt) e2, e3, g1 q nt ne e4, e5⟩
    | lck o => obtain ⟨a, e1, e2, e3⟩ := z; exact ⟨a, e1, mrepL_mono sg (fun _ _ h => h) rfl e2, e3⟩
    | val d => obtain ⟨w, e1, r⟩ := z; exact ⟨w, e1, slotV_mono sg (fun _ _ h => h) r⟩
    | fdef d => obtain ⟨w, e1, r⟩ := z; exact ⟨w, e1, slotV_mono sg (fun _ _ h => h) r⟩
    | clo d c => obtain ⟨w, e1, r⟩ := z; exact ⟨w, e1, slotV_mono sg (fun _ _ h => h) r⟩
    | exn d => obtain ⟨w, e1, r⟩ := z; exact ⟨w, e1, slotV_mono sg (fun _ _ h => h) r⟩
  · rcases hnew a _ e with h | ⟨φ, h⟩
    · exact I.notbl a ps h
    · cases h
  · obtain ⟨z1, z2, z3, z4, z5⟩ := I.pins b vs e
    exact ⟨(hm z1 vs.nt).trans z1, z2, g1 z1 vs.nt vs.ne z3, z4, z5⟩
end
section
variable {T : Tx} {W : WX} {X : Cx} {pos : Pos}
/-- a def within a def -/
theorem s_fdef {nm : Nat → Nat → Str} {c P : Addr} {d : NfD} {i k : Nat} (TB : LamX.TabB X.base X.mg c P) (hcode : X.env.code = .ref c) (hm : (P, nm) ∈ T.tabs) (hn : nm pos.line pos.col = X.env.qual ++ d.name) (hu : ∀ p ∈ T.tabs, p.1 = P → p.2 = nm)
    (hfree : ∀ y ∈ d.scope.names, y.2 = .free → X.env.scope.names.lookup y.1 = some .cell ∨ X.env.scope.names.lookup y.1 = some .free) (hd0 : d.params.defaults = []) (hk0 : d.params.kw_defaults = []) (ha : annTrees d.params none X.env = [])
    (hN : X.N.Nodup) (hi : X.N[i]? = some d.name) (hx : Loc X.env.scope d.name) (hf : X.fn d.name = true ∨ X.env.scope.names.lookup d.name = some .local) (hk : T.nfs[k]? = some d) (hc : T.cells = X.env.cells) (hq : d.qual = X.env.qual ++ d.name) :
    SS T W X (.FunctionDef d.name d.params d.body [] none [] d.scope none d.name pos) (fun ρ S => if i < ρ.length then .ok .nx (ρ.set i (.fdef k)) S else .stk) := by
  refine ss_weak (NdefX.ps_ndefM TB hcode hm hn hu hfree hd0 hk0 ha hN hi hx hf) fun D σ H s I q => ⟨I.tabs, fun f c' H1 hE hnn ht h0 h1 h2 => ?_⟩
  have hl : i < s.ρ.length := by
    by_cases h : i < s.ρ.length
    · exact h
    · unfold AftS at q
      simp only [if_neg h] at q
  let G1 : Hp := fun a => if a = f ∨ a = c' then H1 a else s.G a
  have sg : Sub s.G G1 := fun a o e => by
    show (if a = f ∨ a = c' then H1 a else s.G a) = some o
    split
    · exact hE a o (I.gh _ _ e) fun ps z => I.notbl a ps (by rw [e, z])
    · exact e
  have hg : Sub G1 H1 := fun a o e => by
    have e2 : (if a = f ∨ a = c' then H1 a else s.G a) = some o := e
    split at e2
    · exact e2
    · exact hE a o (I.gh _ _ e2) fun ps z => I.notbl a ps (by rw [e2, z])
  have hnew : ∀ a o, G1 a = some o → s.G a = some o ∨ ∃ φ, o = .ext φ := fun a o e => by
    have e2 : (if a = f ∨ a = c' then H1 a else s.G a) = some o := e
    split at e2
    · rename_i hc
      rcases hc with z | z
      · rw [z, h1] at e2; cases e2; exact .inr ⟨_, rfl⟩
      · rw [z, h2] at e2; cases e2; exact .inr ⟨_, rfl⟩
    · exact .inl e2
  have J := Sim.grow I hE hnn ht sg hg hnew
  have e1 : G1 f = some (NdefX.FnO f (d.nf (cloFrom T.cells d.scope.names []) c')) := by
    show (if f = f ∨ f = c' then H1 f else s.G f) = _
    rw [if_pos (.inl rfl), h1, hc]
    unfold NfD.nf
    rw [hq]
  have e2 : G1 c' = some (LamX.CodeO c' d.qual) := by
    show (if c' = f ∨ c' = c' then H1 c' else s.G c') = _
    rw [if_pos (.inr rfl), h2, hq]
  have J2 := J.setslot (i := i) (sl := .fdef k) (v := .ref f) ⟨f, c', d, rfl, hk, e1, e2⟩
  unfold AftS at q
  simp only [if_pos hl] at q
  exact q ⟨s.B, G1, s.μ, s.ρ.set i (.fdef k), s.S⟩ _ _ ⟨rfl, sg, fun _ _ h => h⟩ rfl rfl J2
/-! ### calls with inner defs, lent things, an exception for arguments -/
/-- an argument, at the call -/
def argA (X : Cx) (T : Tx) (s : Sg) (σ : L2.St) (H : Hp) : Slot → V → Prop
  | .val d, v => rep X.gp s.μ s.G d v
  | .lck o, v => ∃ a, v = .ref a ∧ mrepL X.gp s.μ s.G H a o ∧ a ∉ s.μ
  | .clo k caps, v => ∃ (f c' : Addr) (d : NfD) (ws : List V) (js : List Nat), v = .ref f ∧ T.nfs[k]? = some d ∧ s.G f = some (NdefX.FnO f (d.nf (cloFrom T.cells d.scope.names []) c')) ∧ s.G c' = some (LamX.CodeO c' d.qual) ∧ T.cells = X.env.cells ∧
      (∀ y ∈ d.scope.names, y.2 = .free → X.env.scope.names.lookup y.1 = some .cell ∧ X.fn y.1 = true) ∧ (∀ y ∈ d.fr, (y, NameKind.free) ∈ d.scope.names) ∧ js.map (fun j => X.N[j]?) = d.fr.map some ∧ reps X.gp s.μ s.G caps ws ∧ js.map (fun j => σ[j]?) = ws.map fun w => some (some w)
  | .exn c, v => ∃ a, v = .ref a ∧ T.exn = some (a, gcls X.gp c)
  | _, _ => False
def argsA (X : Cx) (T : Tx) (s : Sg) (σ : L2.St) (H : Hp) : List Slot → List V → Prop := Paired (argA X T s σ H)
/-- a place of a slot, of a value -/
theorem sp_peekS {i : Nat} {x : Str} (hN : X.N[i]? = some x) (hv : Vis X.env.scope x) (hd : (x == ("__debug__" : Str)) = false) (hcd : (x == ("__classdict__" : Str)) = false) : SP T W X (.Name x pos) (peekS i) :=
  (pe_var hN hv hd hcd).weak fun σ H Q ⟨s, I, q⟩ => by
    unfold Aft peekS at q
    cases es : s.ρ[i]? with
    | none => simp only [es] at q
    | some sl =>
      have z := I.slots i sl es
      cases sl with
      | none => simp only [es] at q
      | own o => simp only [es] at q; obtain ⟨a, e1, _⟩ := z; exact ⟨_, e1, q s H (Le.refl _) rfl rfl I _ e1⟩
      | lck o => simp only [es] at q; obtain ⟨a, e1, _⟩ := z; exact ⟨_, e1, q s H (Le.refl _) rfl rfl I _ e1⟩
      | val d => simp only [es] at q; obtain ⟨v, e1, _⟩ := z; exact ⟨_, e1, q s H (Le.refl _) rfl rfl I _ e1⟩
      | fdef k => simp only [es] at q; obtain ⟨v, e1, _⟩ := z; exact ⟨_, e1, q s H (Le.refl _) rfl rfl I _ e1⟩
      | clo k c => simp only [es] at q; obtain ⟨v, e1, _⟩ := z; exact ⟨_, e1, q s H (Le.refl _) rfl rfl I _ e1⟩
      | exn c => simp only [es] at q; obtain ⟨v, e1, _⟩ := z; exact ⟨_, e1, q s H (Le.refl _) rfl rfl I _ e1⟩
theorem as_cons {a : Expr} {es : List Expr} {pa : M PV} {ml : M (List PV)} (ha : SP T W X a pa) (hr : SPs T W X es ml) (hs : starEach (a :: es) X.env = (false, eval a X.env) :: starEach es X.env) : SPs T W X (a :: es) (mbind pa fun p => mbind ml fun l => mret (p :: l)) := ps_cons' ha hr hs
/-- what an inner def handed in asks of the text -/
structure CloI (X : Cx) (T : Tx) (k : Nat) (js : List Nat) : Prop where
  ex : ∃ d, T.nfs[k]? = some d ∧ T.cells = X.env.cells ∧ (∀ y ∈ d.scope.names, y.2 = .free → X.env.scope.names.lookup y.1 = some .cell ∧ X.fn y.1 = true) ∧ (∀ y ∈ d.fr, (y, NameKind.free) ∈ d.scope.names) ∧ js.map (fun j => X.N[j]?) = d.fr.map some
def AsI (X : Cx) (T : Tx) : As → Prop
  | .nil => True
  | .v _ r => AsI X T r
  | .lend _ r => AsI X T r
  | .exn _ r => AsI X T r
  | .clo _ k js r => CloI X T k js ∧ AsI X T r
theorem takes_ok {σ : L2.St} {H : Hp} {g : Gp} : ∀ {js : List Nat} {caps : List D} {ρ' : Fr} {S' : Store} {s : Sg}, At g T s σ H → takes js s.ρ s.S = .ok caps ρ' S' →
    ∃ s' ws, Le s s' ∧ s'.ρ = ρ' ∧ s'.S = S' ∧ S' = s.S ∧ At g T s' σ H ∧ reps g s'.μ s'.G caps ws ∧ js.map (fun j => σ[j]?) = ws.map fun w => some (some w)
  | [], caps, ρ', S', s, I, h => by
    cases h
    exact ⟨s, [], Le.refl _, rfl, rfl, rfl, I, rfl, rfl⟩
  | j :: js, caps, ρ', S', s, I, h => by
    obtain ⟨d, ρ1, S1, h1, h2⟩ := mbind_ok h
    obtain ⟨l, ρ2, S2, h3, h4⟩ := mbind_ok h2
    cases h4
    have key : ∃ s1 w, Le s s1 ∧ s1.ρ = ρ1 ∧ s1.S = S1 ∧ S1 = s.S ∧ At g T s1 σ H ∧ σ[j]? = some (some w) ∧ rep g s1.μ s1.G d w := by
      unfold take at h1
      cases es : s.ρ[j]? with
      | none => simp only [es] at h1; cases h1
      | some sl =>
        have z := I.slots j sl es
        cases sl with
        | val y =>
          simp only [es] at h1
          cases h1
          obtain ⟨w, e1, r⟩ := z
          exact ⟨s, w, Le.refl _, rfl, rfl, rfl, I, e1, r⟩
        | own o =>
          simp only [es] at h1
          cases hm : moD o with
          | none => simp only [hm] at h1; cases h1
          | some y =>
            simp only [hm] at h1
            cases h1
            obtain ⟨p, u, e1, sg, J, r⟩ := I.frzslot hm es
            exact ⟨{ s with G := upd s.G p u, ρ := s.ρ.set j (.val d) }, _, ⟨rfl, sg, fun _ _ h => h⟩, rfl, rfl, rfl, J, e1, r⟩
        | _ => simp only [es] at h1; cases h1
    obtain ⟨s1, w, l1, e1, e2, e3, J1, hw, r1⟩ := key
    rw [← e1, ← e2] at h3
    obtain ⟨s2, ws, l2, e4, e5, e6, J2, r2, hws⟩ := takes_ok J1 h3
    exact ⟨s2, w :: ws, l1.trans l2, e4, e5, e6.trans (e2.trans e3), J2, ⟨w, ws, rfl, rep_le l2 r1, r2⟩, by rw [List.map_cons, List.map_cons, hw, hws]⟩
theorem argA_le {s s' : Sg} {σ : L2.St} {H : Hp} (l : Le s s') (hμ : s'.μ = s.μ) {sl : Slot} {v : V} (h : argA X T s σ H sl v) : argA X T s' σ H sl v := by
  cases sl with
  | val d => exact rep_le l h
  | lck o =>
    obtain ⟨a, e, r, n⟩ := h
    exact ⟨a, e, mrepL_mono l.G l.μ rfl r, by rw [hμ]; exact n⟩
  | clo k caps =>
    obtain ⟨f, c', d, ws, js, h1, h2, h3, h4, h5, h6, h7, h8, h9, h10⟩ := h
    exact ⟨f, c', d, ws, js, h1, h2, l.G _ _ h3, l.G _ _ h4, h5, h6, h7, h8, reps_le l h9, h10⟩
  | exn c => exact h
  | _ => exact h
theorem takes_mu {s : Sg} {σ : L2.St} {H : Hp} {g : Gp} {s' : Sg} (I : At g T s σ H) (J : At g T s' σ H) (l : Le s s') (h : s'.S = s.S) : s'.μ = s.μ := by
  have h1 : s'.μ.length = s.μ.length := by rw [← J.slen, ← I.slen, h]
  refine List.ext_getElem? fun n => ?_
  by_cases hn : n < s.μ.length
  · rw [List.getElem?_eq_getElem hn]
    exact l.μ n _ (List.getElem?_eq_getElem hn)
  · rw [List.getElem?_eq_none (by omega), List.getElem?_eq_none (by omega)]
/-- the arguments at the call -/
theorem resA_ok {σ : L2.St} {H : Hp} : ∀ {as : As} {ps : List PV} {vs : List V} {l : List Slot} {ρ' : Fr} {S' : Store} {s : Sg}, AsI X T as → At X.gp T s σ H → Paired (fun p v => prep X.gp s σ p v) ps vs → (∀ (p : PV), p ∈ ps → True) → resA as ps s.ρ s.S = .ok l ρ' S' →
    ∃ s', Le s s' ∧ s'.ρ = ρ' ∧ s'.S = S' ∧ S' = s.S ∧ At X.gp T s' σ H ∧ s'.μ = s.μ ∧ Paired (argA X T s' σ H) l vs
  | .nil, [], vs, l, ρ', S', s, ha, I, hp, _, h => by
    cases h
    cases hp
    exact ⟨s, Le.refl _, rfl, rfl, rfl, I, rfl, .nil⟩
  | .v e r, .v d :: ps, vs, l, ρ', S', s, ha, I, hp, _, h => by
    obtain ⟨l2, ρ2, S2, h3, h4⟩ := mbind_ok h
    cases h4
    cases hp with
    | cons q hp =>
      obtain ⟨s', le, e1, e2, e3, J, em, pr⟩ := resA_ok (as := r) ha I hp (fun _ _ => trivial) h3
      exact ⟨s', le, e1, e2, e3, J, em, .cons (show rep X.gp s'.μ s'.G d _ from rep_le le q) pr⟩
  | .lend i r, .s j :: ps, vs, l, ρ', S', s, ha, I, hp, _, h => by
    have h5 : (if i = j then mbind (lendM i) fun s => mbind (resA r ps) fun l => mret (s :: l) else mstk) s.ρ s.S = .ok l ρ' S' := h
    split at h5
    · rename_i hij
      subst hij
      obtain ⟨sl, ρ1, S1, h1, h2⟩ := mbind_ok h5
      obtain ⟨l2, ρ2, S2, h3, h4⟩ := mbind_ok h2
      cases h4
      cases hp with
      | cons q hp =>
        rename_i v vs
        have q : σ[i]? = some (some v) := q
        have key : ρ1 = s.ρ ∧ S1 = s.S ∧ argA X T s σ H sl v := by
          unfold lendM at h1
          cases es : s.ρ[i]? with
          | none => simp only [es] at h1; cases h1
          | some sl0 =>
            have z := I.slots i sl0 es
            cases sl0 with
            | val d =>
              simp only [es] at h1
              cases h1
              obtain ⟨w, e1, r⟩ := z
              rw [q] at e1
              cases e1
              exact ⟨rfl, rfl, r⟩
            | own o =>
              simp only [es] at h1
              cases h1
              obtain ⟨a, e1, r, n, _⟩ := z
              rw [q] at e1
              cases e1
              exact ⟨rfl, rfl, a, rfl, r.L, n⟩
            | lck o =>
              simp only [es] at h1
              cases h1
              obtain ⟨a, e1, r, n⟩ := z
              rw [q] at e1
              cases e1
              obtain ⟨u, e2, nt⟩ := mrepL_some r
              refine ⟨rfl, rfl, a, rfl, mrepL_mono (Sub.refl _) (fun _ _ h => h) ((I.base a u e2 n nt).trans e2.symm) r, fun hm => ?_⟩
              obtain ⟨more, em, hf⟩ := I.mu0
              rw [em] at hm
              rcases List.mem_append.mp hm with hm | hm
              · exact n hm
              · rw [hf a hm] at e2; cases e2
            | _ => simp only [es] at h1; cases h1
        obtain ⟨e1, e2, ka⟩ := key
        subst e1 e2
        obtain ⟨s', le, e1, e2, e3, J, em, pr⟩ := resA_ok (as := r) ha I hp (fun _ _ => trivial) h3
        exact ⟨s', le, e1, e2, e3, J, em, .cons (argA_le le em ka) pr⟩
    · cases h5
  | .clo i k js r, .s j :: ps, vs, l, ρ', S', s, ha, I, hp, _, h => by
    have h5 : (if i = j then mbind (cloM i k js) fun s => mbind (resA r ps) fun l => mret (s :: l) else mstk) s.ρ s.S = .ok l ρ' S' := h
    split at h5
    · rename_i hij
      subst hij
      obtain ⟨sl, ρ1, S1, h1, h2⟩ := mbind_ok h5
      obtain ⟨l2, ρ2, S2, h3, h4⟩ := mbind_ok h2
      cases h4
      obtain ⟨⟨d, c1, c2, c3, c4, c5⟩, ha⟩ := ha
      cases hp with
      | cons q hp =>
        rename_i v vs
        have q : σ[i]? = some (some v) := q
        have key : ∃ s1, Le s s1 ∧ s1.ρ = ρ1 ∧ s1.S = S1 ∧ S1 = s.S ∧ At X.gp T s1 σ H ∧ argA X T s1 σ H sl v := by
          unfold cloM at h1
          cases es : s.ρ[i]? with
          | none => simp only [es] at h1; cases h1
          | some sl0 =>
            have z := I.slots i sl0 es
            cases sl0 with
            | fdef k' =>
              simp only [es] at h1
              split at h1
              · rename_i hk
                subst hk
                obtain ⟨caps, ρ3, S3, g1, g2⟩ := mbind_ok h1
                cases g2
                obtain ⟨w, e1, f, c', d', f1, f2, f3, f4⟩ := z
                rw [q] at e1
                cases e1
                rw [c1] at f2
                cases f2
                obtain ⟨s1, ws, le, e2, e3, e4, J, rc, hw⟩ := takes_ok I g1
                exact ⟨s1, le, e2, e3, e4, J, f, c', d, ws, js, f1, c1, le.G _ _ f3, le.G _ _ f4, c2, c3, c4, c5, rc, hw⟩
              · cases h1
            | _ => simp only [es] at h1; cases h1
        obtain ⟨s1, le1, e1, e2, e3, J1, ka⟩ := key
        subst e1 e2
        have hp1 : Paired (fun p v => prep X.gp s1 σ p v) ps vs := Paired.mapP hp fun p v => prep_le le1
        obtain ⟨s', le, e1, e2, e4, J, em, pr⟩ := resA_ok (as := r) ha J1 hp1 (fun _ _ => trivial) h3
        exact ⟨s', le1.trans le, e1, e2, e4.trans e3, J, em.trans (takes_mu I J1 le1 e3), .cons (argA_le le em ka) pr⟩
    · cases h5
  | .exn i r, .s j :: ps, vs, l, ρ', S', s, ha, I, hp, _, h => by
    have h5 : (if i = j then mbind (exnM i) fun s => mbind (resA r ps) fun l => mret (s :: l) else mstk) s.ρ s.S = .ok l ρ' S' := h
    split at h5
    · rename_i hij
      subst hij
      obtain ⟨sl, ρ1, S1, h1, h2⟩ := mbind_ok h5
      obtain ⟨l2, ρ2, S2, h3, h4⟩ := mbind_ok h2
      cases h4
      cases hp with
      | cons q hp =>
        rename_i v vs
        have q : σ[i]? = some (some v) := q
        have key : ρ1 = s.ρ ∧ S1 = s.S ∧ argA X T s σ H sl v := by
          unfold exnM at h1
          cases es : s.ρ[i]? with
          | none => simp only [es] at h1; cases h1
          | some sl0 =>
            have z := I.slots i sl0 es
            cases sl0 with
            | exn c =>
              simp only [es] at h1
              cases h1
              obtain ⟨w, e1, a, e2, e3⟩ := z
              rw [q] at e1
              cases e1
              exact ⟨rfl, rfl, a, e2, e3⟩
            | _ => simp only [es] at h1; cases h1
        obtain ⟨e1, e2, ka⟩ := key
        subst e1 e2
        obtain ⟨s', le, e1, e2, e3, J, em, pr⟩ := resA_ok (as := r) ha I hp (fun _ _ => trivial) h3
        exact ⟨s', le, e1, e2, e3, J, em, .cons (argA_le le em ka) pr⟩
    · cases h5
  | .lend _ _, .v _ :: _, vs, l, ρ', S', s, ha, I, hp, _, h => by cases h
  | .clo _ _ _ _, .v _ :: _, vs, l, ρ', S', s, ha, I, hp, _, h => by cases h
  | .exn _ _, .v _ :: _, vs, l, ρ', S', s, ha, I, hp, _, h => by cases h
  | .nil, _ :: _, vs, l, ρ', S', s, ha, I, hp, _, h => by cases h
  | .v _ _, [], vs, l, ρ', S', s, ha, I, hp, _, h => by cases h
  | .v _ _, .s _ :: _, vs, l, ρ', S', s, ha, I, hp, _, h => by cases h
  | .lend _ _, [], vs, l, ρ', S', s, ha, I, hp, _, h => by cases h
  | .clo _ _ _ _, [], vs, l, ρ', S', s, ha, I, hp, _, h => by cases h
  | .exn _ _, [], vs, l, ρ', S', s, ha, I, hp, _, h => by cases h
theorem takes_noexc : ∀ (js : List Nat) (ρ : Fr) (S : Store) (c : Str) (ρ' : Fr) (S' : Store), takes js ρ S ≠ .exc c ρ' S'
  | [], ρ, S, c, ρ', S' => fun h => nomatch h
  | j :: js, ρ, S, c, ρ', S' => by
    unfold takes mbind take
    cases ρ[j]? with
    | none => exact fun h => nomatch h
    | some sl =>
      cases sl with
      | val d =>
        dsimp only
        cases h : takes js ρ S with
        | ok a ρ1 S1 => exact fun h => nomatch h
        | exc c2 ρ1 S1 => exact absurd h (takes_noexc js _ _ _ _ _)
        | stk => exact fun h => nomatch h
      | own o =>
        dsimp only
        cases moD o with
        | none => exact fun h => nomatch h
        | some d =>
          dsimp only
          cases h : takes js (ρ.set j (.val d)) S with
          | ok a ρ1 S1 => exact fun h => nomatch h
          | exc c2 ρ1 S1 => exact absurd h (takes_noexc js _ _ _ _ _)
          | stk => exact fun h => nomatch h
      | _ => exact fun h => nomatch h
theorem mb_noexc {α β : Type} {m : M α} {k : α → M β} {ρ : Fr} {S : Store} (h1 : ∀ c ρ' S', m ρ S ≠ .exc c ρ' S') (h2 : ∀ a ρ1 S1, m ρ S = .ok a ρ1 S1 → ∀ c ρ' S', k a ρ1 S1 ≠ .exc c ρ' S') : ∀ c ρ' S', mbind m k ρ S ≠ .exc c ρ' S' := fun c ρ' S' h => by
  unfold mbind at h
  cases e : m ρ S with
  | ok a ρ1 S1 => rw [e] at h; exact h2 a ρ1 S1 e c ρ' S' h
  | exc c2 ρ1 S1 => exact h1 c2 ρ1 S1 e
  | stk => rw [e] at h; cases h
theorem resA_noexc : ∀ (as : As) (ps : List PV) (ρ : Fr) (S : Store) (c : Str) (ρ' : Fr) (S' : Store), resA as ps ρ S ≠ .exc c ρ' S'
  | .nil, [], ρ, S, c, ρ', S' => fun h => nomatch h
  | .nil, _ :: _, ρ, S, c, ρ', S' => fun h => nomatch h
  | .v e r, [], ρ, S, c, ρ', S' => fun h => nomatch h
  | .v e r, .v d :: ps, ρ, S, c, ρ', S' => mb_noexc (fun c ρ' S' => resA_noexc r ps ρ S c ρ' S') (fun _ _ _ _ _ _ _ h => by cases h) c ρ' S'
  | .v e r, .s j :: ps, ρ, S, c, ρ', S' => fun h => nomatch h
  | .lend i r, [], ρ, S, c, ρ', S' => fun h => nomatch h
  | .lend i r, .v d :: ps, ρ, S, c, ρ', S' => fun h => nomatch h
  | .lend i r, .s j :: ps, ρ, S, c, ρ', S' => by
    show (if i = j then mbind (lendM i) fun s => mbind (resA r ps) fun l => mret (s :: l) else mstk) ρ S ≠ _
    split
    · refine mb_noexc (fun c ρ' S' => ?_) (fun a ρ1 S1 _ => mb_noexc (fun c ρ' S' => resA_noexc r ps ρ1 S1 c ρ' S') (fun _ _ _ _ _ _ _ h => by cases h)) c ρ' S'
      unfold lendM
      split <;> exact fun h => nomatch h
    · exact fun h => nomatch h
  | .clo i k js r, [], ρ, S, c, ρ', S' => fun h => nomatch h
  | .clo i k js r, .v d :: ps, ρ, S, c, ρ', S' => fun h => nomatch h
  | .clo i k js r, .s j :: ps, ρ, S, c, ρ', S' => by
    show (if i = j then mbind (cloM i k js) fun s => mbind (resA r ps) fun l => mret (s :: l) else mstk) ρ S ≠ _
    split
    · refine mb_noexc (fun c ρ' S' => ?_) (fun a ρ1 S1 _ => mb_noexc (fun c ρ' S' => resA_noexc r ps ρ1 S1 c ρ' S') (fun _ _ _ _ _ _ _ h => by cases h)) c ρ' S'
      unfold cloM
      split
      · split
        · exact mb_noexc (fun c ρ' S' => takes_noexc js ρ S c ρ' S') (fun _ _ _ _ _ _ _ h => by cases h) c ρ' S'
        · exact fun h => nomatch h
      · exact fun h => nomatch h
    · exact fun h => nomatch h
  | .exn i r, [], ρ, S, c, ρ', S' => fun h => nomatch h
  | .exn i r, .v d :: ps, ρ, S, c, ρ', S' => fun h => nomatch h
  | .exn i r, .s j :: ps, ρ, S, c, ρ', S' => by
    show (if i = j then mbind (exnM i) fun s => mbind (resA r ps) fun l => mret (s :: l) else mstk) ρ S ≠ _
    split
    · refine mb_noexc (fun c ρ' S' => ?_) (fun a ρ1 S1 _ => mb_noexc (fun c ρ' S' => resA_noexc r ps ρ1 S1 c ρ' S') (fun _ _ _ _ _ _ _ h => by cases h)) c ρ' S'
      unfold exnM
      split <;> exact fun h => nomatch h
    · exact fun h => nomatch h
/-- a call that the evaluator can do, with such arguments -/
def CallsA (T : Tx) (X : Cx) (W : WX) (cl : Calls) (ok : Str → Bool) : Prop :=
  ∀ (x : Str) (f : Addr) (pins : List (Addr × Obj)) (st : Shared) (σ : L2.St) (H : Hp) (args : List Slot) (us : List Value) (vs : List V) (s : Sg) (Q : VK),
    ok x = true → X.mg x = some (.ref f) → Inv X pins σ H st → Vals vs us → At X.gp T s σ H → Paired (argA X T s σ H) args vs →
    Aft X.gp T W (lift0 (cl.fa x args)) s σ (fun d s' H' => ∀ v, rep X.gp s'.μ s'.G d v → Q v H') →
    wpAny (model X.prog X.w) X.A (call (.ref f) us) (EP X pins σ Q) X.xe st
theorem r_calla {x : Str} {f : Addr} {p : Pos} {a : Expr} {es : List Expr} {as : As} {cl : Calls} {ml : M (List PV)} (hg : Gl X x) (hm : X.mg x = some (.ref f)) (hk : PySem.W.keepIn X.K (.ref f) = true) {ok : Str → Bool} (hok : ok x = true) (hC : CallsA T X W cl ok) (hd : (x == ("__debug__" : Str)) = false)
    (hn : ∀ e ∈ a :: es, ∀ x p, e ≠ .Starred x p) (ha : AsI X T as) (h : SPs T W X (a :: es) ml) :
    SE T W X (.Call (.Name x p) (a :: es) [] pos) (mbind ml fun ps => mbind (resA as ps) fun l => lift0 (cl.fa x l)) := by
  refine ⟨fun pins st σ H Q I ⟨s, A, q⟩ => ?_⟩
  refine PySem.wpAny_Call_Name_kw (ld_glob I hg hm ?_ hd)
  refine PySem.W.callWith_K (h₀ := X.base) I.ok.mod.kin hk (thn (h.run pos pins st σ H (fun vs H1 => ∃ s1 ps, At X.gp T s1 σ H1 ∧ Paired (fun p v => prep X.gp s1 σ p v) ps vs ∧ Aft X.gp T W (mbind (resA as ps) fun l => lift0 (cl.fa x l)) s1 σ fun d s' H' => ∀ v, rep X.gp s'.μ s'.G d v → Q v H') I ⟨s, A, q.bind.mono fun ps s1 H1 le J q1 vs hv => ⟨s1, ps, J, hv, q1⟩⟩)
    fun us s1 ⟨vs, H1, I1, r, s2, ps, J, hv, q2⟩ => ⟨I1.kIn, ?_⟩) (starCons (hn a List.mem_cons_self)) (starAny (fun e he => hn e (List.mem_cons_of_mem _ he)) pos)
  unfold Aft mbind at q2
  cases er : resA as ps s2.ρ s2.S with
  | stk => rw [er] at q2; exact q2.elim
  | exc c ρ S => exact absurd er (resA_noexc as ps _ _ c ρ S)
  | ok l ρ S =>
    rw [er] at q2
    obtain ⟨s3, le, e1, e2, e3, J3, em, pr⟩ := resA_ok ha J hv (fun _ _ => trivial) er
    refine hC x f pins s1 σ H1 l us vs s3 Q hok hm I1 r J3 pr ?_
    unfold Aft
    subst e1 e2
    dsimp only at q2
    cases ec : lift0 (cl.fa x l) s3.ρ s3.S with
    | stk => rw [ec] at q2; exact q2
    | exc c ρ S => rw [ec] at q2; exact fun s' H' l' => q2 s' H' (le.trans l')
    | ok d ρ S => rw [ec] at q2; exact fun s' H' l' => q2 s' H' (le.trans l')
end
end MP

namespace MP
open PySem PySem.Spec L2
section
variable {g : Gp} {T : Tx} {B : Bs} {G : Hp} {μ : List Addr} {ρ : Fr} {S : Store} {σ : L2.St} {H : Hp}
/-- a thing that was being built is no longer watched -/
theorem Sim.unpin {f : Addr → Option PinO} (I : Sim g T { B with pin := f } G μ ρ S σ H) (h : ∀ a o, B.pin a = some o → f a = some o) : Sim g T B G μ ρ S σ H :=
  ⟨I.gh, I.base, I.gone, I.g0, I.gnew, I.mu0, I.munod, I.muG, I.slen, I.store, I.len, I.slots, I.dis, I.tabs, I.notbl, fun a o e => I.pins a o (h a o e)⟩
/-- a new dict -/
def FreshM (g : Gp) (s : Sg) (σ : L2.St) (H : Hp) (o : MO) (v : V) : Prop := ∃ p, v = .ref p ∧ mrep g s.μ s.G H p o ∧ p ∉ s.μ ∧ s.G p = none ∧ s.B.H0 p = none ∧ s.B.pin p = none ∧ ∀ (i : Nat) m, s.ρ[i]? = some (.own m) → σ[i]? ≠ some (some (.ref p))
theorem Aft.repin {α : Type} {W : WX} {m : M α} {s : Sg} {Q : α → Sg → Hp → Prop} {f : Addr → Option PinO} (h : ∀ a o, s.B.pin a = some o → f a = some o) (q : Aft g T W m s σ Q) : Aft g T W m { s with B := { s.B with pin := f } } σ fun a s' H' => Q a { s' with B := s.B } H' := by
  unfold Aft at q ⊢
  dsimp only
  have key : ∀ {s' : Sg} {H' : Hp}, Le { s with B := { s.B with pin := f } } s' → At g T s' σ H' → Le s { s' with B := s.B } ∧ At g T { s' with B := s.B } σ H' := fun {s' H'} le J => ⟨⟨rfl, le.G, le.μ⟩, by
    have e : s'.B = { s.B with pin := f } := le.B
    have J : Sim g T s'.B s'.G s'.μ s'.ρ s'.S σ H' := J
    rw [e] at J
    exact J.unpin h⟩
  cases e : m s.ρ s.S with
  | ok a ρ S =>
    rw [e] at q
    intro s' H' le e1 e2 J
    obtain ⟨l, j⟩ := key le J
    exact q _ H' l e1 e2 j
  | exc c ρ S =>
    rw [e] at q
    intro s' H' le e1 e2 J
    obtain ⟨l, j⟩ := key le J
    exact q _ H' l e1 e2 j
  | stk => rw [e] at q; exact q
end
section
variable {T : Tx} {W : WX} {X : Cx} {pos : Pos}
def tM (T : Tx) (W : WX) (g : Gp) (m : M MO) : TE := fun σ H Q => ∃ s, At g T s σ H ∧ Aft g T W m s σ fun o s' H' => ∀ v, FreshM g s' σ H' o v → Q v H'
abbrev SM (T : Tx) (W : WX) (X : Cx) (e : Expr) (m : M MO) : Prop := PE X e (tM T W X.gp m)
theorem FreshM.freeze {g : Gp} {s : Sg} {σ : L2.St} {H : Hp} {o : MO} {d : D} {v : V} (hd : moD o = some d) (I : At g T s σ H) (h : FreshM g s σ H o v) : ∃ s', Le s s' ∧ s'.ρ = s.ρ ∧ s'.S = s.S ∧ At g T s' σ H ∧ rep g s'.μ s'.G d v := by
  obtain ⟨p, e, r, h1, h2, h3, h7, h4⟩ := h
  obtain ⟨u, q, nt⟩ := mrep_some r
  have sg : Sub s.G (upd s.G p u) := Sub.add h2
  have J : At g T { s with G := upd s.G p u } σ H := I.freeze q h1 h2 h3 h4 nt h7
  refine ⟨{ s with G := upd s.G p u }, ⟨rfl, sg, fun _ _ h => h⟩, rfl, rfl, J, ?_⟩
  subst e
  cases o with
  | lst l =>
    cases hd
    obtain ⟨vs, q2, r⟩ := r
    rw [q2] at q
    cases q
    exact ⟨p, vs, rfl, upd_same, reps_mono sg (fun _ _ h => h) _ _ r⟩
  | dct t ks vs =>
    cases hd
    cases t <;>
    · obtain ⟨kvs, q2, k, r⟩ := r
      rw [q2] at q
      cases q
      exact ⟨p, kvs, rfl, .inl upd_same, k, reps_mono sg (fun _ _ h => h) _ _ r⟩
  | ins _ _ => cases hd
theorem se_of_sm {e : Expr} {m : M MO} (h : SM T W X e m) : SE T W X e (asM m) := h.weak fun σ H Q ⟨s, I, q⟩ => ⟨s, I, q.bind.mono fun o s1 H1 le J q1 v fr => by
  obtain ⟨d, e, q2⟩ := q1.opt
  obtain ⟨s2, l2, e1, e2, J2, r⟩ := fr.freeze e J
  exact q2.ret' l2 e1 e2 J2 v r⟩
/-- {} -/
theorem r_dnew {t : Bool} : SM T W X (.Dict [] [] pos) (fDlit t (mret [])) := by
  have k : ∀ {s : Sg} {σ : L2.St} {H : Hp} {p : Addr} {o : HO}, At X.gp T s σ H → H p = none → mrep X.gp s.μ s.G (upd H p o) p (.dct t [] []) → At X.gp T s σ (upd H p o) ∧ FreshM X.gp s σ (upd H p o) (.dct t [] []) (.ref p) := fun {s σ H p o} I hp r =>
    ⟨I.fresh hp, p, rfl, r, I.nmu hp, I.gh.none hp, I.gone p hp, I.npin hp, fun i m h => I.own_ne hp h⟩
  cases t with
  | false =>
    refine pe_dnewK.weak fun σ H Q ⟨s, I, q⟩ => fun p hp => ?_
    obtain ⟨J, f⟩ := k (o := .dK []) I hp ⟨[], upd_same, rfl, rfl⟩
    exact q s _ (Le.refl _) rfl rfl J _ f
  | true =>
    refine pe_dnewT.weak fun σ H Q ⟨s, I, q⟩ => fun p hp => ?_
    obtain ⟨J, f⟩ := k (o := .dT []) I hp ⟨[], upd_same, rfl, rfl⟩
    exact q s _ (Le.refl _) rfl rfl J _ f
/-! ### displays -/
def flatV : List (V × V) → List V
  | [] => []
  | p :: r => p.1 :: p.2 :: flatV r
structure SKV (T : Tx) (W : WX) (X : Cx) (pos : Pos) (keys : List (Option Expr)) (values : List Expr) (ml : M (List D)) : Prop where
  ex : ∃ trs, PPs X pos keys values trs ∧ ∀ (σ : L2.St) (H : Hp) (Q : List (V × V) → Hp → Prop) (s : Sg), At X.gp T s σ H → Aft X.gp T W ml s σ (fun l s' H' => ∀ ps, reps X.gp s'.μ s'.G l (flatV ps) → Q ps H') → tPairs trs σ H Q
theorem kv_nil : SKV T W X pos [] [] (mret []) := ⟨[], pps_nil, fun σ H Q s I q => q.ret I [] rfl⟩
theorem mbind_assoc {α β γ : Type} (m : M α) (k : α → M β) (k2 : β → M γ) : mbind (mbind m k) k2 = mbind m fun a => mbind (k a) k2 := by
  funext ρ S
  unfold mbind
  cases m ρ S <;> rfl
theorem mret_bind {α β : Type} (a : α) (k : α → M β) : mbind (mret a) k = k a := rfl
theorem kv_cons {k v : Expr} {keys : List (Option Expr)} {values : List Expr} {mk mv : M D} {ml : M (List D)} (hk : SE T W X k mk) (hv : SE T W X v mv) (hr : SKV T W X pos keys values ml) :
    SKV T W X pos (some k :: keys) (v :: values) (mbind mk fun x => mbind (mbind mv fun y => mbind ml fun l => mret (y :: l)) fun l => mret (x :: l)) := by
  obtain ⟨trs, h1, h2⟩ := hr
  refine ⟨(_, _) :: trs, pps_cons hk hv h1, fun σ H Q s I q => ⟨s, I, q.bind.mono fun x s1 H1 le J q1 w hw => ?_⟩⟩
  rw [mbind_assoc] at q1
  refine ⟨s1, J, q1.bind.mono fun y s2 H2 le2 J2 q2 u hu => ?_⟩
  rw [mbind_assoc] at q2
  refine h2 σ H2 _ s2 J2 (q2.bind.mono fun l s3 H3 le3 J3 q3 ps hps => ?_)
  exact (show Aft X.gp T W (mret (x :: y :: l)) s3 σ _ from q3).ret J3 ((w, u) :: ps) ⟨w, _, rfl, rep_le (le2.trans le3) hw, u, _, rfl, rep_le le3 hu, hps⟩
theorem putK_rep {g : Gp} {μ : List Addr} {G : Hp} {ks vs : List D} {kvs : List (Key × V)} {x d : D} {k : Key} {v : V} (h1 : keysK ks = some (kvs.map (·.1))) (h2 : reps g μ G vs (kvs.map (·.2))) (hk : keyK x = some k) (hd : rep g μ G d v) :
    (if dhas ks x then keysK ks = some ((putK kvs k v).map (·.1)) ∧ reps g μ G (dputV ks vs x d) ((putK kvs k v).map (·.2)) else keysK (ks ++ [x]) = some ((putK kvs k v).map (·.1)) ∧ reps g μ G (vs ++ [d]) ((putK kvs k v).map (·.2))) := by
  obtain ⟨i1, _⟩ := dget_valV (fun l => keysK_nil) (fun d r l => keysK_cons) (fun a b k j => keyK_eq) hk h1 h2
  have ea := valV_any k kvs
  rw [← i1] at ea
  unfold putK
  cases e : dhas ks x with
  | true =>
    rw [ea, e, if_pos rfl, if_pos rfl]
    obtain ⟨j1, j2⟩ := dput_valV (kfs := keysK) rfl (fun _ _ => rfl) (fun a b k j => keyK_eq) hk hd h1 h2
    exact ⟨by rw [j2]; exact h1, j1⟩
  | false =>
    rw [ea, e, if_neg (by decide), if_neg (by decide)]
    refine ⟨?_, ?_⟩
    · rw [kfs_snoc (kfs := keysK) rfl (fun _ _ => rfl) (fun a b k j => keyK_eq) hk h1]; simp
    · rw [List.map_append]
      exact reps_append h2 ⟨_, _, rfl, hd, rfl⟩
theorem dbuild_K {g : Gp} {μ : List Addr} {G : Hp} : ∀ {l kr vr : List D} {ps : List (V × V)} {ks vs ks' vs' : List D} {kvs : List (Key × V)}, unflat l = some (kr, vr) → reps g μ G l (flatV ps) → dbuild false kr vr ks vs = some (ks', vs') → keysK ks = some (kvs.map (·.1)) → reps g μ G vs (kvs.map (·.2)) →
    ∃ more : List (Key × V), ps = more.map (fun kv => (kV kv.1, kv.2)) ∧ keysK ks' = some ((mergeK kvs more).map (·.1)) ∧ reps g μ G vs' ((mergeK kvs more).map (·.2))
  | [], kr, vr, ps, ks, vs, ks', vs', kvs, h, hr, hb, h1, h2 => by
    cases h
    cases hb
    cases ps with
    | nil => exact ⟨[], rfl, h1, h2⟩
    | cons p ps => exact absurd (show flatV (p :: ps) = [] from hr) (fun z => nomatch z)
  | [x], kr, vr, ps, ks, vs, ks', vs', kvs, h, hr, hb, h1, h2 => by cases h
  | x :: y :: l, kr, vr, ps, ks, vs, ks', vs', kvs, h, hr, hb, h1, h2 => by
    obtain ⟨⟨k0, v0⟩, e1, e2⟩ := Option.map_eq_some_iff.mp (show (unflat l).map (fun p => (x :: p.1, y :: p.2)) = some (kr, vr) from h)
    cases e2
    cases ps with
    | nil => obtain ⟨_, _, z, _⟩ := hr; cases z
    | cons p ps =>
      obtain ⟨w, r, z, q1, u, r2, z2, q2, q3⟩ := hr
      cases z
      cases z2
      have hb : (if keyOk false x then (if dhas ks x then dbuild false k0 v0 ks (dputV ks vs x y) else dbuild false k0 v0 (ks ++ [x]) (vs ++ [y])) else none) = some (ks', vs') := hb
      split at hb
      · rename_i hk
        obtain ⟨k, hk⟩ := Option.isSome_iff_exists.mp (show (keyK x).isSome = true from hk)
        have pr := putK_rep h1 h2 hk q2
        have ew := keyK_kV hk q1
        have go : ∀ {ks1 vs1}, dbuild false k0 v0 ks1 vs1 = some (ks', vs') → keysK ks1 = some ((putK kvs k p.2).map (·.1)) → reps g μ G vs1 ((putK kvs k p.2).map (·.2)) → ∃ more : List (Key × V), p :: ps = more.map (fun kv => (kV kv.1, kv.2)) ∧ keysK ks' = some ((mergeK kvs more).map (·.1)) ∧ reps g μ G vs' ((mergeK kvs more).map (·.2)) := fun {ks1 vs1} hb a b => by
          obtain ⟨more, e, r1, r2⟩ := dbuild_K e1 q3 hb a b
          refine ⟨(k, p.2) :: more, ?_, r1, r2⟩
          rw [e, List.map_cons, ← ew]
        split at hb
        · rename_i hh; rw [if_pos hh] at pr; exact go hb pr.1 pr.2
        · rename_i hh; rw [if_neg hh] at pr; exact go hb pr.1 pr.2
      · cases hb
theorem flat_len : ∀ ps : List (V × V), (flatV ps).length = 2 * ps.length
  | [] => rfl
  | p :: ps => by
    show (flatV ps).length + 1 + 1 = 2 * (ps.length + 1)
    rw [flat_len ps]; omega
theorem evlen {α : Type} {n : Nat} : True := trivial
/-- {k: v, ..}, keys ints and texts -/
theorem r_dlitK {keys : List (Option Expr)} {values : List Expr} {ml : M (List D)} (h : SKV T W X pos keys values ml) (hall : keys.all (·.isSome) = true) (hl : keys.length = values.length) (h0 : keys ≠ []) (h15 : keys.length ≤ 15)
    (hlen : ∀ ρ S l ρ' S', ml ρ S = .ok l ρ' S' → l.length ≤ 30) : SM T W X (.Dict keys values pos) (fDlit false ml) := by
  obtain ⟨trs, h1, h2⟩ := h
  refine (pe_disp h1 hall hl h0 h15).weak fun σ H Q ⟨s, I, q⟩ => fun p hp => ?_
  have Ip : At X.gp T { s with B := { s.B with pin := fun a => if a = p then some (.dK []) else s.B.pin a } } σ (upd H p (.dK [])) := Sim.repin (vs := .dK []) I (I.nmu hp) (I.gh.none hp) (I.gone p hp) (fun i m e => I.own_ne hp e) (.inl hp)
  have q0 : Aft X.gp T W ml s σ fun l s1 H1 => l.length ≤ 30 ∧ Aft X.gp T W (mopt (((unflat l).bind fun p => dbuild false p.1 p.2 [] []).map fun p => MO.dct false p.1 p.2)) s1 σ fun o s' H' => ∀ v, FreshM X.gp s' σ H' o v → Q v H' := by
    have z := q.bind
    unfold Aft at z ⊢
    cases e : ml s.ρ s.S with
    | ok a ρ S => rw [e] at z; exact fun s' H' l e1 e2 J => ⟨hlen _ _ _ _ _ e, z s' H' l e1 e2 J⟩
    | exc c ρ S => rw [e] at z; exact z
    | stk => rw [e] at z; exact z
  refine h2 σ _ _ _ Ip ((q0.repin (f := fun a => if a = p then some (.dK []) else s.B.pin a) fun a o e => by
    have : a ≠ p := fun z => by rw [z, I.npin hp] at e; cases e
    show (if a = p then _ else s.B.pin a) = _
    rw [if_neg this]; exact e).mono fun l s1 H1 le J ⟨hle, q1⟩ ps hps => ?_)
  have bp : s1.B.pin p = some (.dK []) := by rw [le.B]; exact if_pos rfl
  obtain ⟨p1, p2, p3, p4, p5⟩ := J.pins p _ bp
  obtain ⟨o, eo, q2⟩ := q1.opt
  obtain ⟨⟨ks', vs'⟩, eo1, eo2⟩ := Option.map_eq_some_iff.mp eo
  obtain ⟨⟨kr, vr⟩, e1, e2⟩ := Option.bind_eq_some_iff.mp eo1
  obtain ⟨more, ep, r1, r2⟩ := dbuild_K (kvs := []) e1 hps e2 rfl rfl
  subst eo2
  have en : more.length ≤ 15 := by
    have a := reps_len hps
    rw [flat_len, ep, List.length_map] at a
    omega
  refine ⟨p1, more, ep, en, ?_⟩
  have J1 : At X.gp T { s1 with B := s.B } σ H1 := by
    have J : Sim X.gp T s1.B s1.G s1.μ s1.ρ s1.S σ H1 := J
    rw [le.B] at J
    refine J.unpin fun a o e => ?_
    have : a ≠ p := fun z => by rw [z, I.npin hp] at e; cases e
    show (if a = p then _ else s.B.pin a) = _
    rw [if_neg this]; exact e
  have q3 : ∀ v, FreshM X.gp { s1 with B := s.B } σ (upd H1 p (.dK (mergeK [] more))) (.dct false ks' vs') v → Q v (upd H1 p (.dK (mergeK [] more))) := by
    have J2 := Sim.repin (D := p) (vs := .dK (mergeK [] more)) J1 p2 p3 (by have := p4; rw [le.B] at this; exact this) p5 (.inr ⟨.dK [], p1⟩)
    have J3 : At X.gp T { s1 with B := s.B } σ (upd H1 p (.dK (mergeK [] more))) := by
      refine Sim.unpin J2 fun a o e => ?_
      have : a ≠ p := fun z => by rw [z, I.npin hp] at e; cases e
      show (if a = p then _ else s.B.pin a) = _
      rw [if_neg this]; exact e
    exact q2.ret J3
  exact q3 _ ⟨p, rfl, ⟨mergeK [] more, upd_same, r1, r2⟩, p2, p3, by have := p4; rw [le.B] at this; exact this, I.npin hp, p5⟩
/-- {k: v}, k a tuple -/
theorem dT_put {pins : List (Addr × Obj)} {σ : L2.St} {H : Hp} {st : Shared} {d b : Addr} {kvs : List (List Key × V)} {k : List Key} {y : V} {u : Value} {Q : PUnit → Shared → Prop} {E : Value → Shared → Prop} (hu : X.A.units + 70 < cLine) (I : Inv X pins σ H st) (e : H d = some (.dT kvs)) (eb : H b = some (.tup (k.map kV))) (l : kvs.length < sizeLine) (ry : RelV y u)
    (h : ∀ s', Inv X pins σ (upd H d (.dT (putK kvs k y))) s' → Q () s') : wpAny (model X.prog X.w) X.A (dictSet d (.ref b) u) Q E st := by
  obtain ⟨z, hd, xs, rel, dd⟩ := dt_of I.hok e
  have hz : xs.length ≤ sizeLine := by rw [← Paired.length rel]; exact z
  have hl2 : (putK kvs k y).length ≤ sizeLine := by have := length_putK kvs k y; omega
  have hr : (tupleKind (mixKind X.prog X.w)).room X.A := (by omega : X.A.units < cLine)
  refine wpAny_dictSet_heap (hsz := hz) hr (key_of I.hok eb) dd fun h' dd' hs => h _ ?_
  obtain ⟨o, es, ep, w1, w2, w3, w4, _, w5⟩ := dd'
  refine d_write I (by rw [e]; exact True.intro) hs ⟨o, w1⟩ ⟨hl2, hd, _, (rel.put k eb ry).keeps fun c ys ec => ?_, o, es, ep, w1, w2, w3, w4, w5⟩
  rw [upd_ne (ne_of ec e (fun z => nomatch z))]
  exact ec
theorem r_dlitT {keys : List (Option Expr)} {values : List Expr} {ml : M (List D)} (hu : X.A.units + 70 < cLine) (h : SKV T W X pos keys values ml) (hall : keys.all (·.isSome) = true) (hl : keys.length = values.length) (h1 : keys.length = 1)
    (hlen : ∀ ρ S l ρ' S', ml ρ S = .ok l ρ' S' → l.length = 2) : SM T W X (.Dict keys values pos) (fDlit true ml) := by
  obtain ⟨trs, g1, g2⟩ := h
  refine ⟨fun pins st σ H Q I ⟨s, A, q⟩ => ?_⟩
  have hp := I.hok.fresh (Nat.le_refl st.heap.objs.size)
  have I1 := I.laid (a := st.heap.objs.size) (o := .dT []) (h' := st.heap.push { cls := .type "dict", data := .dict #[] }) (t' := st.toks) (fun _ _ q => Heap.get?_push_of_some _ q) (Nat.le_refl _) (dt_empty st.heap I.big)
  generalize hpe : st.heap.objs.size = p at hp I1
  have Ip : At X.gp T { s with B := { s.B with pin := fun a => if a = p then some (.dT []) else s.B.pin a } } σ (upd H p (.dT [])) := Sim.repin (vs := .dT []) A (A.nmu hp) (A.gh.none hp) (A.gone p hp) (fun i m e => A.own_ne hp e) (.inl hp)
  have q0 : Aft X.gp T W ml s σ fun l s1 H1 => l.length = 2 ∧ Aft X.gp T W (mopt (((unflat l).bind fun p => dbuild true p.1 p.2 [] []).map fun p => MO.dct true p.1 p.2)) s1 σ fun o s' H' => ∀ v, FreshM X.gp s' σ H' o v → Q v H' := by
    have z := q.bind
    unfold Aft at z ⊢
    cases e : ml s.ρ s.S with
    | ok a ρ S => rw [e] at z; exact fun s' H' l e1 e2 J => ⟨hlen _ _ _ _ _ e, z s' H' l e1 e2 J⟩
    | exc c ρ S => rw [e] at z; exact z
    | stk => rw [e] at z; exact z
  have off : ∀ a o, s.B.pin a = some o → (if a = p then some (PinO.dT []) else s.B.pin a) = some o := fun a o e => by
    have : a ≠ p := fun z => by rw [z, A.npin hp] at e; cases e
    rw [if_neg this]; exact e
  have run := g2 σ _ (fun ps H2 => H2 p = some (.dT []) ∧ ∃ kk b y, ps = [(.ref b, y)] ∧ H2 b = some (.tup (kk.map kV)) ∧ Q (.ref p) (upd H2 p (.dT (putK [] kk y)))) _ Ip ((q0.repin (f := fun a => if a = p then some (.dT []) else s.B.pin a) off).mono fun l s1 H1 le J ⟨hle, q1⟩ ps hps => by
    have bp : s1.B.pin p = some (.dT []) := by rw [le.B]; exact if_pos rfl
    obtain ⟨p1, p2, p3, p4, p5⟩ := J.pins p _ bp
    obtain ⟨o, eo, q2⟩ := q1.opt
    obtain ⟨⟨ks', vs'⟩, eo1, eo2⟩ := Option.map_eq_some_iff.mp eo
    obtain ⟨⟨kr, vr⟩, e1, e2⟩ := Option.bind_eq_some_iff.mp eo1
    subst eo2
    match l, hle, hps, e1 with
    | [x, y], _, hps, e1 =>
      cases e1
      have e2 : (if keyOk true x then (if dhas [] x then dbuild true [] [] [] (dputV [] [] x y) else dbuild true [] [] ([] ++ [x]) ([] ++ [y])) else none) = some (ks', vs') := e2
      split at e2
      · rename_i hk
        obtain ⟨kk, hk⟩ := Option.isSome_iff_exists.mp (show (keyT x).isSome = true from hk)
        cases e2
        obtain ⟨w, r, z, q5, u, r2, z2, q6, z3⟩ := hps
        cases z2
        cases ps with
        | nil => cases z
        | cons pr ps =>
          have z : pr.1 :: pr.2 :: flatV ps = w :: u :: r2 := z
          injection z with za zb
          injection zb with zb zc
          have hps0 : ps = [] := by
            have z3 : r2 = [] := z3
            rw [z3] at zc
            cases ps with
            | nil => rfl
            | cons _ _ => cases zc
          subst hps0
          obtain ⟨items, rfl⟩ : ∃ items, x = .tup items := by cases x <;> first | exact ⟨_, rfl⟩ | cases hk
          obtain ⟨b, xs, ev, qg, rr⟩ := q5
          have hk' : keysK items = some kk := hk
          rw [keysK_kV hk' rr] at qg
          have s1B : s1.B = { s.B with pin := fun a => if a = p then some (.dT []) else s.B.pin a } := le.B
          have J1 : At X.gp T { s1 with B := s.B } σ H1 := by
            have J : Sim X.gp T s1.B s1.G s1.μ s1.ρ s1.S σ H1 := J
            rw [s1B] at J
            exact J.unpin off
          have p4' : s.B.H0 p = none := by have := p4; rw [s1B] at this; exact this
          refine ⟨p1, kk, b, u, ?_, J.gh _ _ qg, ?_⟩
          · rw [← ev, ← za, ← zb]
          · have J2 := Sim.repin (D := p) (vs := .dT (putK [] kk u)) J1 p2 p3 p4' p5 (.inr ⟨.dT [], p1⟩)
            have J3 : At X.gp T { s1 with B := s.B } σ (upd H1 p (.dT (putK [] kk u))) := by
              refine Sim.unpin J2 fun a o e => ?_
              have : a ≠ p := fun z => by rw [z, A.npin hp] at e; cases e
              show (if a = p then _ else s.B.pin a) = _
              rw [if_neg this]; exact e
            refine q2.ret J3 _ ⟨p, rfl, ⟨putK [] kk u, upd_same, ?_, ?_⟩, p2, p3, p4', A.npin hp, p5⟩
            · show (keyT (.tup items)).bind (fun k => (keysT []).map (k :: ·)) = _
              rw [hk]
              rfl
            · exact ⟨u, [], rfl, q6, rfl⟩
      · cases e2)
  refine wpAny_Dict_any hall hl (fun z => by rw [z] at h1; cases h1) (by omega) (thn (g1.run pins _ σ _ _ I1 run) fun us s2 ⟨ps, H2, I2, rel, e, kk, b, y, eps, eb, hq⟩ => ?_)
  subst eps
  obtain ⟨u1, u2, eu, r1, r2⟩ : ∃ u1 u2, us = [(u1, u2)] ∧ RelV (.ref b) u1 ∧ RelV y u2 := by
    cases rel with
    | cons r rt =>
      cases rt
      exact ⟨_, _, rfl, r.1, r.2⟩
  subst eu
  cases (show u1 = Value.ref b from r1)
  unfold storeAll
  rw [List.forIn_cons]
  rw [hpe]
  refine wpAny_bind (wpAny_bind (dT_put hu I2 e eb (by rw [sizeLine_eq]; decide) r2 fun s' I3 => wpAny_pure ?_))
  show wpAny _ _ (forIn [] PUnit.unit _) _ _ _
  rw [List.forIn_nil]
  exact wpAny_pure ⟨.ref p, _, I3, rfl, hq⟩
end
end MP

namespace MP
open PySem PySem.Spec L2 PyProof.Rows
section
variable {T : Tx} {W : WX} {X : Cx} {pos : Pos} {e : Expr}
abbrev setDM (i : Nat) (mo : M MO) : M Fl := mbind mo fun o => fun ρ S => if i < ρ.length then .ok .nx (ρ.set i (.own o)) S else .stk
theorem s_setD {i : Nat} {x : Str} {p2 : Pos} {mo : M MO} (hN : X.N.Nodup) (hi : X.N[i]? = some x) (hx : Loc X.env.scope x) (hf : X.fn x = true ∨ X.env.scope.names.lookup x = some .local) (he : SM T W X e mo) (hs : swapsWith e (some (.Name x p2)) pos.line X.env = pure false) :
    SS T W X (.Assign [.Name x p2] e pos) (setDM i mo) :=
  ss_weak (ps_set hN hi hx he hs hf) fun D σ H s I q => ⟨s, I, q.bind.mono fun o s1 H1 le J q1 v hv => by
    have hl : i < s1.ρ.length := by
      by_cases h : i < s1.ρ.length
      · exact h
      · unfold AftS at q1
        simp only [if_neg h] at q1
    unfold AftS at q1
    simp only [if_pos hl] at q1
    obtain ⟨p, ev, r, h1, h2, h3, h4, h5⟩ := hv
    subst ev
    exact q1 { s1 with ρ := s1.ρ.set i (.own o) } _ H1 ⟨rfl, Sub.refl _, fun _ _ h => h⟩ rfl rfl (J.setown r h1 h2 h3 h5 h4)⟩
/-! ### list.index, list.count -/
def rCountD (K : PySem.W.Frag) : V → List V → Hp → VK → Prop := fun x xs H Q => ∃ (a : Addr) (y : V) (d : PyData) (ds : List PyData), x = V.ref a ∧ xs = [y] ∧ Dp K H (V.ref a) (.list ds) ∧ Dp K H y d ∧
  SeqAt.shaped (.list ds) = true ∧ SeqAt.shaped d = true ∧ Q (.int (ds.countP fun z => PyData.eqv z d : Nat)) H
theorem mt_countD (hu : X.A.units + 65 < cLine) : MtR X "list.count" (rCountD X.K) := by
  intro pins st σ H x xs v us Q I rx rxs h
  obtain ⟨a, y, d, ds, rfl, rfl, hl, hy, sl, sd, q⟩ := h
  cases rx
  obtain ⟨w, rfl, rw_⟩ := rxs.one
  obtain ⟨bs, r1⟩ := Dp.reads I d y w hy rw_
  have c1 : PyData.canLayAll0 ds = true := SeqAt.canLay_of_shaped sl
  have room : X.A.units + 1 + min (PyData.depthAll ds) d.depth < cLine := room_in_shaped sd hu
  cases hl with
  | lst hs ha =>
    obtain ⟨its, rv, ⟨⟨cls, dd, data, sls⟩, n, ho, hc, hdn, hdt⟩, hlen⟩ := I.list hs
    simp only at hc hdt
    subst hc hdt
    obtain ⟨as, h4⟩ := Dp.readsAll I ds _ its ha rv
    have hm : its.map (SeqAt.readOf st.heap) = ds := SeqAt.readsAll_map ds its as c1 h4
    refine call_meets PySem.F.slot_list_count ⟨_, ho, rfl⟩ PySem.F.entry_list_count (PySem.F.args_list_count_2 _ _)
      (SeqAt.list_countAt a its.toArray n dd sls w (fun u => PyData.eqv (SeqAt.readOf st.heap u) d)) ⟨ho, SeqAt.items_eqAt (vs := its.toArray) (show ReadsAll st.heap its.toArray.toList ds as from h4) r1 c1 (SeqAt.canLay_of_shaped sd) room, ?_⟩
    have ec : its.toArray.toList.countP (fun u => PyData.eqv (SeqAt.readOf st.heap u) d) = ds.countP fun z => PyData.eqv z d := by
      rw [← hm, List.countP_map]
      rfl
    rw [ec]
    exact ⟨.int _, H, I.tok _, ⟨_, rfl⟩, q⟩
theorem toPs_map : ∀ l : List D, toPs l = l.map toP
  | [] => rfl
  | d :: l => by rw [List.map_cons, ← toPs_map l]; rfl
theorem lays_get : ∀ {l : List D}, lays l = true → ∀ z ∈ l, lay z = true
  | [], _, z, h => by cases h
  | d :: l, hl, z, h => by
    obtain ⟨l1, l2⟩ := Bool.and_eq_true_iff.mp (show (lay d && lays l) = true from hl)
    rcases List.mem_cons.mp h with h | h
    · rw [h]; exact l1
    · exact lays_get l2 z h
def lmName : Lm → Str × String
  | .index => ("index", "list.index")
  | .count => ("count", "list.count")
def rLm (T : Tx) (g : Gp) (m : Lm) : V → List V → Hp → VK → Prop := fun x xs H Q => ∃ σ s dx ds d, At g T s σ H ∧ wrep g s H dx x ∧ wreps g s H ds xs ∧ opLm m dx ds = some d ∧ Fin1 g T s σ d Q
theorem mt_index' (hu : X.A.units + 70 < cLine) : MtR X "list.index" (rLm T X.gp .index) := by
  intro pins st σ H x xs v us Q I rx r h
  obtain ⟨σ', s, dx, ds, d, A, wx, w, e, fin⟩ := h
  unfold opLm at e
  split at e
  · rename_i l y h2
    obtain ⟨z, rfl, wz⟩ := w1 w
    split at e
    · rename_i hs
      obtain ⟨s1, s2⟩ := Bool.and_eq_true_iff.mp hs
      obtain ⟨j, e1, e2⟩ := Option.map_eq_some_iff.mp e
      subst e2
      obtain ⟨a, vs, ex, _, _⟩ := wx.lst A.gh
      obtain ⟨hj, ej, hlt⟩ := List.findIdx?_eq_some_iff_getElem.mp e1
      have ll : lays l = true := lay_of_shp s2
      have ly := lay_of_shp s1
      have key : ∀ u ∈ l, PyData.eqv (toP u) (toP y) = deq u y := fun u hu => eqv_toP u y (lays_get ll u hu) ly
      have dl := wdp A.gh (lay_of_shp s2) wx
      subst ex
      refine mt_indexD (by omega) pins st σ H _ _ v us Q I rx r ⟨a, z, toP y, toPs l, j, toP l[j], rfl, rfl, dl, wdp A.gh ly wz, shaped_of s2, shaped_of s1, ?_, ?_, fun m z' hm hz' => ?_, fin.here A rfl⟩
      · rw [toPs_map, List.getElem?_map, List.getElem?_eq_getElem hj]; rfl
      · rw [key _ (List.getElem_mem hj)]; exact ej
      · have hml : m < l.length := by omega
        rw [toPs_map, List.getElem?_map, List.getElem?_eq_getElem hml] at hz'
        have ez : toP l[m] = z' := Option.some.inj hz'
        rw [← ez, key _ (List.getElem_mem hml)]
        have := hlt m hm
        simpa using this
    · cases e
  · rename_i _ h2; cases h2
  · cases e
theorem mt_count' (hu : X.A.units + 70 < cLine) : MtR X "list.count" (rLm T X.gp .count) := by
  intro pins st σ H x xs v us Q I rx r h
  obtain ⟨σ', s, dx, ds, d, A, wx, w, e, fin⟩ := h
  unfold opLm at e
  split at e
  · rename_i _ h2; cases h2
  · rename_i l y h2
    obtain ⟨z, rfl, wz⟩ := w1 w
    split at e
    · rename_i hs
      obtain ⟨s1, s2⟩ := Bool.and_eq_true_iff.mp hs
      cases e
      obtain ⟨a, vs, ex, _, _⟩ := wx.lst A.gh
      have ll : lays l = true := lay_of_shp s2
      have ly := lay_of_shp s1
      have dl := wdp A.gh (lay_of_shp s2) wx
      subst ex
      refine mt_countD (by omega) pins st σ H _ _ v us Q I rx r ⟨a, z, toP y, toPs l, rfl, rfl, dl, wdp A.gh ly wz, shaped_of s2, shaped_of s1, fin.here A ?_⟩
      have ec : (toPs l).countP (fun u => PyData.eqv u (toP y)) = l.countP fun u => deq u y := by
        rw [toPs_map, List.countP_map]
        refine List.countP_congr fun u hu => ?_
        rw [show ((fun u => PyData.eqv u (toP y)) ∘ toP) u = PyData.eqv (toP u) (toP y) from rfl, eqv_toP u y (lays_get ll u hu) ly]
      rw [ec]
      exact rfl
    · cases e
  · cases e
theorem r_lm {m : Lm} {a b : Expr} {es : List Expr} {pa : M PV} {ml : M (List PV)} {apos : Pos} (hu : X.A.units + 70 < cLine) (hn : ∀ e ∈ b :: es, ∀ x p, e ≠ .Starred x p) (hl : es.length < 20) (hb : ∀ f as ks p, a ≠ .Call f as ks p) (hline : (apos.endLine == pos.line) = true) (ha : SP T W X a pa) (h : SPs T W X (b :: es) ml) :
    SE T W X (.Call (.Attribute a (lmName m).1 apos) (b :: es) [] pos) (mbind pa fun p => mbind (mval p) fun x => match x with
    | .lst _ => mbind ml fun ps => mbind (mval p) fun x => mbind (mvals ps) fun ds => mopt (opLm m x ds)
    | _ => mstk) := by
  have k : ∀ σ H Q, tE T W X.gp (mbind pa fun p => mbind (mval p) fun x => match x with
    | .lst _ => mbind ml fun ps => mbind (mval p) fun x => mbind (mvals ps) fun ds => mopt (opLm m x ds)
    | _ => mstk) σ H Q → tBM X.K "list" (rLm T X.gp m) (tP T W X.gp pa) (tPs T W X.gp ml) σ H Q := fun σ H Q ⟨s, I, q⟩ => ⟨s, I, q.bind.mono fun p s1 H1 le J q1 v hv => by
    obtain ⟨x, w, q2⟩ := q1.val J hv
    cases x with
    | lst l0 =>
      obtain ⟨a0, vs0, e0, h0, _⟩ := w.lst J.gh
      refine ⟨by rw [e0]; exact tyV_ref h0, s1, J, q2.bind.mono fun ps s2 H2 le2 J2 q3 vs hvs => ?_⟩
      obtain ⟨dx, wx, q4⟩ := q3.val J2 (prep_le le2 hv)
      obtain ⟨ds, wd, q5⟩ := q4.vals J2 hvs
      obtain ⟨d, e, q6⟩ := q5.opt
      exact ⟨σ, s2, dx, ds, d, J2, wx, wd, e, fun s' H' v l e1 e2 J' r => q6.ret' l e1 e2 J' v r⟩
    | _ => exact (Aft.stk q2).elim⟩
  cases m with
  | index => exact (pe_bm PySem.F.plainAttrs_list PySem.F.slot_list_index PySem.F.type_list_index (mt_index' (T := T) hu) ha h (noAttrB hb) (few_of hn hl) hline (starCons (hn b List.mem_cons_self)) (starAny (fun e he => hn e (List.mem_cons_of_mem _ he)) pos)).weak k
  | count => exact (pe_bm PySem.F.plainAttrs_list PySem.F.slot_list_count PySem.F.type_list_count (mt_count' (T := T) hu) ha h (noAttrB hb) (few_of hn hl) hline (starCons (hn b List.mem_cons_self)) (starAny (fun e he => hn e (List.mem_cons_of_mem _ he)) pos)).weak k
/-! ### isinstance of the exception that is handled -/
def clsVal (mg : Str → Option Value) (x : Str) : Value := match mg x with
  | some u => u
  | none => (bootBuiltins x).getD .none
/-- what is known of the classes of exceptions, asked by isinstance -/
def SubK (K : PySem.W.Frag) (mg : Str → Option Value) (sub : Str → Str → Option Bool) : Prop := ∀ c x b, sub c x = some b → ∃ D, mg c = some (.ref D) ∧ ExcC K D ∧ PySem.W.kitOne K (.ref D) (clsVal mg x) = some b
/-- the exception that is handled stands in the state -/
def ExnAt (X : Cx) (T : Tx) : Prop := ∀ a cls, T.exn = some (a, cls) → ∃ oe, (a, oe) ∈ X.pn ∧ Zc cls none oe ∧ ∃ vs, oe.data = .fields vs
def rIsX (X : Cx) : List V → Hp → VK → Prop := fun xs H Q => ∃ a D oe, (a, oe) ∈ X.pn ∧ ExcC X.K D ∧ Zc (.ref D) none oe ∧ (∃ vs, oe.data = .fields vs) ∧
  ((∃ c cv b, xs = [.ref a, c] ∧ ClsV c cv ∧ PySem.W.kitOne X.K (.ref D) cv = some b ∧ Q (.bl b) H) ∨ ∃ tp cs ws b, xs = [.ref a, .ref tp] ∧ H tp = some (.tup cs) ∧ Paired ClsV cs ws ∧ PySem.W.kitAny X.K (.ref D) ws = some b ∧ Q (.bl b) H)
theorem call_isX : CallR X (.builtin "isinstance") (rIsX X) := by
  intro pins st σ H xs us Q I r h
  obtain ⟨a, D, oe, hp, C, hz, ⟨vs, hv⟩, h⟩ := h
  obtain ⟨hget, _⟩ := I.pin (a, oe) (List.mem_append.mpr (.inl hp))
  have J : PySem.W.InstAt st.heap a oe D none := by
    obtain ⟨oc, od, oda, osl⟩ := oe
    obtain ⟨h1, h2⟩ := hz
    dsimp only at h1 h2 hv
    subst h1 h2 hv
    exact ⟨hget, rfl, rfl, trivial⟩
  have Z := PySem.W.handS_kitx_exc (x := a) (ox := oe) C.hg C.hk C.hs C.hd C.ha C.hn C.ht C.hm
  rcases h with ⟨c, cv, b, rfl, k, e, q⟩ | ⟨tp, cs, ws, b, rfl, hT, k, e, q⟩
  · cases r with
    | cons rx rr =>
      cases rr with
      | cons rt rr =>
        cases rr
        cases rx
        have ec := k.eq rt
        subst ec
        exact PySem.W.kia_one Z I.kIn J e (fun z => nomatch z) fun tk => ⟨.bl b, H, I.kept (t' := tk) fun _ _ z => z, rfl, q⟩
  · cases r with
    | cons rx rr =>
      cases rr with
      | cons rt rr =>
        cases rr
        cases rx
        cases rt
        obtain ⟨_, its, rv, o, h1, h2, n, h3⟩ := (show ObjOk X.prog X.w H st.heap tp (.tup cs) from I.hok tp _ hT)
        have e3 := ClsV.all k rv
        subst e3
        obtain ⟨oc, od, dt, sl⟩ := o
        simp only at h2 h3
        subst h2 h3
        exact PySem.W.kia_tup Z I.kIn J h1 e (fun z => nomatch z) fun tk => ⟨.bl b, H, I.kept (t' := tk) fun _ _ z => z, rfl, q⟩
/-- names of classes -/
inductive ClsEs (X : Cx) : List Expr → List Str → List V → Prop where
  | nil : ClsEs X [] [] []
  | cons {x : Str} {p : Pos} {v : V} {es : List Expr} {xs : List Str} {vs : List V} (h : PE X (.Name x p) (tC v)) (k : ClsV v (clsVal X.mg x)) (r : ClsEs X es xs vs) : ClsEs X (.Name x p :: es) (x :: xs) (v :: vs)
theorem ClsEs.pa {es : List Expr} {xs : List Str} {vs : List V} (h : ClsEs X es xs vs) : PA X es fun σ H Q => Q vs H := by
  induction h with
  | nil => exact pa_nil
  | cons h k r ih => exact pa_cons h ih
theorem ClsEs.all {es : List Expr} {xs : List Str} {vs : List V} (h : ClsEs X es xs vs) : Paired ClsV vs (xs.map (clsVal X.mg)) := by
  induction h with
  | nil => exact .nil
  | cons h k r ih => exact .cons k ih
theorem anyO_kit {sub : Str → Str → Option Bool} {c : Str} {D : Addr} (hk : SubK X.K X.mg sub) (hD : X.mg c = some (.ref D)) : ∀ {xs : List Str} {b : Bool}, anyO (sub c) xs = some b → PySem.W.kitAny X.K (.ref D) (xs.map (clsVal X.mg)) = some b
  | [], b, h => by cases h; rfl
  | x :: xs, b, h => by
    unfold anyO at h
    obtain ⟨b', e1, e2⟩ := Option.bind_eq_some_iff.mp h
    obtain ⟨D', h1, _, h2⟩ := hk c x b' e1
    rw [hD] at h1
    cases h1
    refine kitAny_cons h2 (fun z => ?_) fun z => ?_
    · subst z; exact anyO_kit hk hD e2
    · subst z; cases e2; rfl
def isxM (sub : Str → Str → Option Bool) (i : Nat) (cs : List Str) : M D := fun ρ S => match ρ[i]? with
    | some (.exn c) => (match anyO (sub c) cs with | some b => .ok (.bl b) ρ S | none => .stk)
    | _ => .stk
theorem isx_at {sub : Str → Str → Option Bool} {i : Nat} {x : Str} {cs : List Str} {s : Sg} {σ : L2.St} {H : Hp} {Q : D → Sg → Hp → Prop} (hx : ExnAt X T) (hk : SubK X.K X.mg sub) (I : At X.gp T s σ H) (q : Aft X.gp T W (isxM sub i (x :: cs)) s σ Q) :
    ∃ a D oe b, σ[i]? = some (some (.ref a)) ∧ (a, oe) ∈ X.pn ∧ ExcC X.K D ∧ Zc (.ref D) none oe ∧ (∃ vs, oe.data = .fields vs) ∧ (∃ c, X.mg c = some (.ref D) ∧ anyO (sub c) (x :: cs) = some b) ∧ Aft X.gp T W (mret (.bl b)) s σ Q := by
  unfold Aft isxM at q
  cases es : s.ρ[i]? with
  | none => simp only [es] at q
  | some sl =>
    cases sl with
    | exn c =>
      simp only [es] at q
      obtain ⟨v, e1, a, e2, e3⟩ := I.slots i _ es
      subst e2
      obtain ⟨oe, h1, h2, h3⟩ := hx a _ e3
      cases ea : anyO (sub c) (x :: cs) with
      | none => simp only [ea] at q
      | some b =>
        simp only [ea] at q
        have ea' := ea
        unfold anyO at ea
        obtain ⟨b', e4, _⟩ := Option.bind_eq_some_iff.mp ea
        obtain ⟨D, g1, g2, _⟩ := hk c x b' e4
        have g1' : X.gp.mg c = some (.ref D) := g1
        rw [g1'] at h2
        exact ⟨a, D, oe, b, e1, h1, g2, h2, h3, ⟨c, g1, ea'⟩, q⟩
    | _ => simp only [es] at q
theorem r_isx {sub : Str → Str → Option Bool} {i : Nat} {y x : Str} {p p1 p2 : Pos} (hg : Gl X "isinstance") (hm : X.mg "isinstance" = none) (hx : ExnAt X T) (hk : SubK X.K X.mg sub) (hN : X.N[i]? = some y) (hv : Vis X.env.scope y) (hd : (y == ("__debug__" : Str)) = false) (hcd : (y == ("__classdict__" : Str)) = false) {v : V} (hc : PE X (.Name x p2) (tC v)) (hcv : ClsV v (clsVal X.mg x)) :
    SE T W X (.Call (.Name "isinstance" p) [.Name y p1, .Name x p2] [] pos) (isxM sub i [x]) := by
  refine (pe_callB call_isX hg hm PyProof.Rows.boot_isinstance (pa_cons (pe_var hN hv hd hcd) (pa_cons hc pa_nil)) (by decide) (by decide) rfl rfl).weak fun σ H Q ⟨s, I, q⟩ => ?_
  obtain ⟨a, D, oe, b, e1, h1, h2, h3, h4, ⟨c, g1, g2⟩, q2⟩ := isx_at hx hk I q
  refine ⟨_, e1, a, D, oe, h1, h2, h3, h4, .inl ⟨v, clsVal X.mg x, b, rfl, hcv, ?_, q2.ret I _ rfl⟩⟩
  unfold anyO at g2
  obtain ⟨b', e4, e5⟩ := Option.bind_eq_some_iff.mp g2
  obtain ⟨D', z1, _, z2⟩ := hk c x b' e4
  rw [g1] at z1
  cases z1
  rw [z2]
  cases b' with
  | true => exact e5
  | false => exact e5
theorem r_isxT {sub : Str → Str → Option Bool} {i : Nat} {y x : Str} {cs : List Str} {vs : List V} {es : List Expr} {k2 : Nat} {p p1 p2 : Pos} (hg : Gl X "isinstance") (hm : X.mg "isinstance" = none) (hx : ExnAt X T) (hk : SubK X.K X.mg sub) (hN : X.N[i]? = some y) (hv : Vis X.env.scope y) (hd : (y == ("__debug__" : Str)) = false) (hcd : (y == ("__classdict__" : Str)) = false) (hes : ClsEs X es (x :: cs) vs) (hl : vs.length ≤ 100) :
    SE T W X (.Call (.Name "isinstance" p) [.Name y p1, .Tuple es k2 p2] [] pos) (isxM sub i (x :: cs)) := by
  refine (pe_callB call_isX hg hm PyProof.Rows.boot_isinstance (pa_cons (pe_var hN hv hd hcd) (pa_cons (pe_tup hes.pa) pa_nil)) (by decide) (by decide) rfl rfl).weak fun σ H Q ⟨s, I, q⟩ => ?_
  obtain ⟨a, D, oe, b, e1, h1, h2, h3, h4, ⟨c, g1, g2⟩, q2⟩ := isx_at hx hk I q
  refine ⟨_, e1, by rw [sizeLine_eq]; omega, fun tp htp => ⟨a, D, oe, h1, h2, h3, h4, .inr ⟨tp, vs, _, b, rfl, upd_same, hes.all, anyO_kit hk g1 g2, ?_⟩⟩⟩
  exact q2.ret (I.fresh (o := .tup vs) htp) _ rfl
/-! ### repr -/
abbrev SysK (K : PySem.W.Frag) : Prop := ∃ o, K.lookup sysModules = some o
theorem sys_off {pins : List (Addr × Obj)} {σ : L2.St} {H : Hp} {st : Shared} {a : Addr} {o : HO} (sk : SysK X.K) (I : L2.Inv X pins σ H st) (e : H a = some o) : a ≠ sysModules := fun z => by
  obtain ⟨u, hu⟩ := sk
  rw [z, (I.bs _ _ (I.mod.kin _ _ hu)).2] at e
  cases e
theorem reads_list (sk : SysK X.K) {pins : List (Addr × Obj)} {σ : L2.St} {H : Hp} {st : Shared} {a : Addr} {vs : List V} {ps : List PyData} (I : L2.Inv X pins σ H st) (e : H a = some (.lst vs)) (h : ∀ us, Vals vs us → ∃ as, ReadsAll st.heap us ps as ∧ sysModules ∉ as) : ∃ as, Reads st.heap (.ref a) (.list ps) as ∧ sysModules ∉ as := by
  obtain ⟨_, its, n, rv, hg⟩ := (show ObjOk X.prog X.w H st.heap a (.lst vs) from I.hok a _ e)
  obtain ⟨as, r, ns⟩ := h its rv
  refine ⟨a :: as, .list hg rfl rfl r, fun z => ?_⟩
  rcases List.mem_cons.mp z with z | z
  · exact sys_off sk I e z.symm
  · exact ns z
theorem reads_dct0 {pins : List (Addr × Obj)} {σ : L2.St} {H : Hp} {st : Shared} {a : Addr} (I : L2.Inv X pins σ H st) (e : Rd H a (.dK [])) : ∃ as, Reads st.heap (.ref a) (.dict []) as ∧ sysModules ∉ as := by
  obtain ⟨_, hd, vs, rel, o, es, ep, h1, h2, h3, _, h5, _⟩ := dk_rd I.hok e
  cases rel
  have e0 : es.toList = [] := by
    cases q : es.toList with
    | nil => rfl
    | cons _ _ => rw [q] at h5; cases h5
  refine ⟨[a], Reads.dict (kvs := []) (as := []) (bs := []) h1 h2.1 h3 (by rw [e0]; exact .nil) (by rw [e0]; exact .nil), fun z => ?_⟩
  rw [List.mem_singleton.mp z] at hd
  simp at hd
mutual
theorem reads_of (sk : SysK X.K) {pins : List (Addr × Obj)} {σ : L2.St} {H G : Hp} {μ : List Addr} {st : Shared} (I : L2.Inv X pins σ H st) (hs : Sub G H) : ∀ (d : D) (p : PyData) (v : V) (u : Value), pyD d = some p → rep X.gp μ G d v → RelV v u → ∃ as, Reads st.heap u p as ∧ sysModules ∉ as
  | .non, p, v, u, hp, hr, rv => by
    cases hp
    rw [show v = .non from hr] at rv
    cases (show u = Value.none from rv)
    exact ⟨[], .none, by simp⟩
  | .bl b, p, v, u, hp, hr, rv => by
    cases hp
    rw [show v = .bl b from hr] at rv
    cases (show u = Value.bool b from rv)
    exact ⟨[], .bool b, by simp⟩
  | .int b, p, v, u, hp, hr, rv => by
    cases hp
    rw [show v = .int b from hr] at rv
    obtain ⟨t, rfl⟩ := rv
    exact ⟨[], .int b t, by simp⟩
  | .str b, p, v, u, hp, hr, rv => by
    cases hp
    rw [show v = .str b from hr] at rv
    obtain ⟨t, rfl⟩ := rv
    exact ⟨[], .str b t, by simp⟩
  | .tup l, p, v, u, hp, ⟨a, vs, e, q, r⟩, rv => by
    obtain ⟨ps, e1, e2⟩ := Option.map_eq_some_iff.mp (show (pyDs l).map PyData.tuple = some p from hp)
    subst e2 e
    cases (show u = Value.ref a from rv)
    obtain ⟨_, its, rv2, o, h1, h2, n, h3⟩ := (show ObjOk X.prog X.w H st.heap a (.tup vs) from I.hok a _ (hs _ _ q))
    obtain ⟨as, ra, ns⟩ := readss_of sk I hs l ps vs its e1 r rv2
    exact ⟨as, .tuple h1 h2 h3 ra, ns⟩
  | .lst l, p, v, u, hp, ⟨a, vs, e, q, r⟩, rv => by
    obtain ⟨ps, e1, e2⟩ := Option.map_eq_some_iff.mp (show (pyDs l).map PyData.list = some p from hp)
    subst e2 e
    cases (show u = Value.ref a from rv)
    exact reads_list sk I (hs _ _ q) fun us hus => readss_of sk I hs l ps vs us e1 r hus
  | .dct false [] [], p, v, u, hp, ⟨a, kvs, e, q, k, r⟩, rv => by
    cases hp
    subst e
    cases (show u = Value.ref a from rv)
    have ek : kvs = [] := by
      have z : some [] = some (kvs.map (·.1)) := k
      have := Option.some.inj z
      simpa using this.symm
    subst ek
    exact reads_dct0 I (Rd.mono hs q)
  | .dct true _ _, p, v, u, hp, _, _ => by cases hp
  | .dct false (_ :: _) _, p, v, u, hp, _, _ => by cases hp
  | .dct false [] (_ :: _), p, v, u, hp, _, _ => by cases hp
  | .fz _, p, v, u, hp, _, _ => by cases hp
  | .ref _, p, v, u, hp, _, _ => by cases hp
  | .fn _, p, v, u, hp, _, _ => by cases hp
theorem readss_of (sk : SysK X.K) {pins : List (Addr × Obj)} {σ : L2.St} {H G : Hp} {μ : List Addr} {st : Shared} (I : L2.Inv X pins σ H st) (hs : Sub G H) : ∀ (ds : List D) (ps : List PyData) (vs : List V) (us : List Value), pyDs ds = some ps → reps X.gp μ G ds vs → Vals vs us → ∃ as, ReadsAll st.heap us ps as ∧ sysModules ∉ as
  | [], ps, vs, us, hp, hr, rv => by
    cases hp
    rw [show vs = [] from hr] at rv
    cases rv
    exact ⟨[], .nil, by simp⟩
  | d :: ds, ps, vs, us, hp, ⟨v, r, e, h1, h2⟩, rv => by
    obtain ⟨p, e1, e2⟩ := Option.bind_eq_some_iff.mp (show (pyD d).bind (fun x => (pyDs ds).map (x :: ·)) = some ps from hp)
    obtain ⟨ps', e3, e4⟩ := Option.map_eq_some_iff.mp e2
    subst e4 e
    cases rv with
    | cons r1 r2 =>
      obtain ⟨as, a1, a2⟩ := reads_of sk I hs d p v _ e1 h1 r1
      obtain ⟨bs, b1, b2⟩ := readss_of sk I hs ds ps' r _ e3 h2 r2
      exact ⟨as ++ bs, .cons a1 b1, fun z => (List.mem_append.mp z).elim a2 b2⟩
end
def rRepr (T : Tx) (g : Gp) : List V → Hp → VK → Prop := fun xs H Q => ∃ σ s ds d, At g T s σ H ∧ wreps g s H ds xs ∧ opBl .repr ds = some d ∧ Fin1 g T s σ d Q
theorem reads_w (sk : SysK X.K) {pins : List (Addr × Obj)} {σ σ' : L2.St} {H : Hp} {st : Shared} {s : Sg} {d : D} {p : PyData} {v : V} {u : Value} (I : L2.Inv X pins σ H st) (A : At X.gp T s σ' H) (hp : pyD d = some p) (w : wrep X.gp s H d v) (rv : RelV v u) : ∃ as, Reads st.heap u p as ∧ sysModules ∉ as := by
  rcases w with w | ⟨l, a, vs, e, e2, q, r⟩ | ⟨t, ks, vs, a, e, e2, m⟩
  · exact reads_of sk I A.gh d p v u hp w rv
  · subst e e2
    obtain ⟨ps, e1, e2⟩ := Option.map_eq_some_iff.mp (show (pyDs l).map PyData.list = some p from hp)
    subst e2
    cases (show u = Value.ref a from rv)
    exact reads_list sk I q fun us hus => readss_of sk I A.gh l ps vs us e1 r hus
  · subst e e2
    cases t with
    | true => cases hp
    | false =>
      cases ks with
      | cons _ _ => cases hp
      | nil =>
        cases vs with
        | cons _ _ => cases hp
        | nil =>
          cases hp
          cases (show u = Value.ref a from rv)
          obtain ⟨kvs, q, k, r⟩ := m
          have ek : kvs = [] := by
            have z : some [] = some (kvs.map (·.1)) := k
            have := Option.some.inj z
            simpa using this.symm
          subst ek
          exact reads_dct0 I q
theorem call_repr (sk : SysK X.K) (hg : X.A.guards = some []) (hu : X.A.units + 70 < cLine) : CallR X (.builtin "repr") (rRepr T X.gp) := by
  intro pins st σ H xs us Q I r h
  obtain ⟨σ', s, ds, d, A, w, e, fin⟩ := h
  obtain ⟨d0, rfl, e⟩ : ∃ d0, ds = [d0] ∧ (reprD d0).map D.str = some d := by
    cases ds with
    | nil => cases e
    | cons d0 r0 =>
      cases r0 with
      | nil => exact ⟨d0, rfl, by cases d0 <;> exact e⟩
      | cons _ _ => cases d0 <;> cases e
  obtain ⟨x, e1, e2⟩ := Option.map_eq_some_iff.mp e
  subst e2
  unfold reprD at e1
  obtain ⟨p, e3, e4⟩ := Option.bind_eq_some_iff.mp e1
  obtain ⟨z, rfl, wz⟩ := w1 w
  split at e4
  · rename_i hc
    cases e4
    rw [Bool.and_eq_true, Bool.and_eq_true] at hc
    obtain ⟨⟨c1, c2⟩, c3⟩ := hc
    have c2 := of_decide_eq_true c2
    have c3 := okl c3
    obtain ⟨u, rfl, ru⟩ := r.one
    obtain ⟨as, rd, ns⟩ := reads_w sk I A e3 wz ru
    have fq : Q (.str p.shown) H := fin.here A rfl
    have back : ∀ h' t tk, (∀ b o, st.heap.get? b = some o → h'.get? b = some o) → EP X pins σ Q (.str p.shown t) { st with heap := h', toks := tk } := fun h' t tk hk => ⟨.str p.shown, H, I.kept (t' := tk) hk, ⟨t, rfl⟩, fq⟩
    have viaRef : ∀ a, u = .ref a → wpAny (model X.prog X.w) X.A (call (.builtin "repr") [u]) (EP X pins σ Q) X.xe st := fun a ea => by
      subst ea
      exact repr_of_reads' rd c1 (fun _ => ns) hg (by omega) (fun _ _ e => e) (fun h' t tk hk => back h' t tk hk) c3
    cases rd with
    | none => exact P.repr_of_none (back _ _ _ fun _ _ e => e)
    | bool b => exact P.repr_of_bool (back _ _ _ fun _ _ e => e)
    | int i t => exact P.repr_of_int (of_decide_eq_true c1) (back _ _ _ fun _ _ e => e)
    | str y t => exact P.repr_of_str (back _ _ _ fun _ _ e => e) c3
    | list => exact viaRef _ rfl
    | tuple => exact viaRef _ rfl
    | dict => exact viaRef _ rfl
  · cases e4
theorem r_repr {p : Pos} {a : Expr} {es : List Expr} {ml : M (List PV)} (sk : SysK X.K) (hgd : X.A.guards = some []) (hu : X.A.units + 70 < cLine) (hg : Gl X "repr") (hm : X.mg "repr" = none) (hn : ∀ e ∈ a :: es, ∀ x p, e ≠ .Starred x p) (h : SPs T W X (a :: es) ml) :
    SE T W X (.Call (.Name "repr" p) (a :: es) [] pos) (mbind ml fun ps => mbind (mvals ps) fun ds => mopt (opBl .repr ds)) :=
  (pe_callB (call_repr (T := T) sk hgd hu) hg hm (by decide +kernel) h (by decide) (by decide) (starCons (hn a List.mem_cons_self)) (starAny (fun e he => hn e (List.mem_cons_of_mem _ he)) pos)).weak fun σ H Q ⟨s, I, q⟩ => ⟨s, I, q.bind.mono fun ps s1 H1 le J q1 vs hv => by
    obtain ⟨ds, w, q2⟩ := q1.vals J hv
    obtain ⟨d, e, q3⟩ := q2.opt
    exact ⟨σ, s1, ds, d, J, w, e, fun s' H' v l e1 e2 J' r => q3.ret' l e1 e2 J' v r⟩⟩
end
end MP

namespace MP
open PySem PySem.Spec L2
/-- what is told of the top -/
structure Gz where
  gcs : List (Str × D)
  fns : List Str
  blt : List Str
  exs : List Str
  cls : List Str
  hot : List Str
  nfs : List NfD
/-- .. and of a body's names -/
structure Cz where
  N : List Str
  sc : Scope
  fnb : Str → Bool
  P : Gz
  calm : Bool
  own : Bool
  qual : Str
  nms : List (Nat × Nat × Str)
  ok : List Str
/-- the defs that may be called -/
def okB (c : Cz) (x : Str) : Bool := c.calm || c.ok.contains x
/-- an except suite -/
def hotCz (c : Cz) : Cz := { c with calm := false, own := false, ok := c.P.hot }
def nodbg (x : Str) : Bool := !(x == ("__debug__" : Str)) && !(x == ("__classdict__" : Str))
def visB (c : Cz) (x : Str) : Bool := (match c.sc.names.lookup x with
  | some .local => true
  | some .cell => true
  | some .free => true
  | _ => false) && nodbg x
def stoB (c : Cz) (x : Str) : Bool := match c.sc.names.lookup x with
  | some .local => true
  | some .cell => c.fnb x
  | _ => false
def glB (c : Cz) (x : Str) : Bool := decide (c.sc.names.lookup x = some .globalImplicit) && nodbg x
def bltB (c : Cz) (x : Str) : Bool := glB c x && c.P.blt.contains x
def fnB (c : Cz) (x : Str) : Bool := glB c x && c.P.fns.contains x
def slotB (c : Cz) (i : Nat) (x : Str) : Bool := decide (c.N[i]? = some x)
def litEq : D → D → Bool
  | .non, .non => true
  | .bl a, .bl b => a == b
  | .int a, .int b => a == b
  | .str a, .str b => a == b
  | _, _ => false
theorem litEq_eq {a b : D} (h : litEq a b = true) : a = b := by
  cases a <;> cases b <;> first
    | rfl
    | (unfold litEq at h; simp only [beq_iff_eq] at h; rw [h])
    | (unfold litEq at h; cases h)
def cstB : Const → D → Bool
  | .none, .non => true
  | .bool a, .bl b => a == b
  | .int a, .int b => a == b
  | .str a, .str b => a == b
  | _, _ => false
def noStar : Expr → Bool
  | .Starred _ _ => false
  | _ => true
theorem noStar_ne {e : Expr} (h : noStar e = true) : ∀ x p, e ≠ .Starred x p := fun x p q => by subst q; cases h
def noCall : Expr → Bool
  | .Call _ _ _ _ => false
  | _ => true
theorem noCall_ne {e : Expr} (h : noCall e = true) : ∀ f as ks p, e ≠ .Call f as ks p := fun f as ks p q => by subst q; cases h
def noSlice : Expr → Bool
  | .Slice _ _ _ _ => false
  | _ => true
theorem noSlice_plain {b : Expr} (h : noSlice b = true) : PlainIx b := fun o i => by cases b <;> first | rfl | cases h
def noSet : Expr → Bool
  | .Set _ _ _ => false
  | _ => true
theorem noSet_folded {e : Expr} (h : noSet e = true) (env : Env) : ∀ x, foldedSetIterable e env x = pure x := fun x => by cases e <;> first | rfl | cases h
def noComp : Expr → Bool
  | .ListComp _ _ _ _ | .SetComp _ _ _ _ | .DictComp _ _ _ _ _ => false
  | _ => true
theorem noComp_swap {e : Expr} (h : noComp e = true) (t : Option Expr) (l : Nat) (env : Env) : swapsWith e t l env = pure false := by cases e <;> first | rfl | cases h
def noTup : Expr → Bool
  | .Tuple _ _ _ | .List _ _ => false
  | _ => true
theorem noTup_swap {t e : Expr} (h : noTup t = true ∨ noTup e = true) (env : Env) : swappedStores [t] e env = pure none := by
  rcases h with h | h
  · cases t <;> first | rfl | cases h
  · cases e <;> first
      | (cases t <;> rfl)
      | cases h
def plainT : Expr → Bool
  | .UnaryOp .Not _ _ | .BoolOp _ _ _ | .IfExp _ _ _ _ | .Compare _ _ _ _ => false
  | _ => true
theorem plainT_true {e : Expr} (h : plainT e = true) (env : Env) : ∀ whole, isTrue e env whole = (do let v ← whole; standAt e.pos; holding [v] (truthy v)) := fun whole => by
  cases e <;> first
    | rfl
    | cases h
    | (rename_i op _ _; cases op <;> first | rfl | cases h)
theorem assignEach_plain {env : Env} : ∀ {es : List Expr}, es.all noStar = true → (assignEach es env).length = es.length ∧ (assignEach es env).findIdx? (·.1) = none
  | [], _ => ⟨rfl, rfl⟩
  | e :: es, h => by
    simp only [List.all_cons, Bool.and_eq_true] at h
    obtain ⟨h1, h2⟩ := assignEach_plain (env := env) h.2
    have e1 : assignEach (e :: es) env = (false, assign e env) :: assignEach es env := by
      cases e <;> first | rfl | (exact absurd h.1 (by simp [noStar]))
    rw [e1]
    refine ⟨congrArg Nat.succ h1, ?_⟩
    rw [List.findIdx?_cons]
    simp [h2]
theorem assignEach_cons {env : Env} {e : Expr} {es : List Expr} (h : noStar e = true) : (assignEach (e :: es) env).map (·.2) = assign e env :: (assignEach es env).map (·.2) := by
  cases e <;> first | rfl | (exact absurd h (by simp [noStar]))
/-- the scope of a block, as it runs -/
def blkCz (c : Cz) (scope : Scope) : Cz := { c with sc := relS scope c.sc, fnb := fun x => scope.names.lookup x == some .cell, own := false }
def ownP (c : Cz) (own : List Nat) : List (Str × Nat) := own.map fun i => (c.N.getD i Str.empty, i)
theorem ownP_ix (c : Cz) (own : List Nat) : (ownP c own).map (·.2) = own := by
  unfold ownP
  rw [List.map_map]
  exact List.map_id _
def tgsLen : Tgs → Nat
  | .nil => 0
  | .cons _ ts => tgsLen ts + 1
mutual
def chkG (c : Cz) : Tg → Expr → Bool
  | .v i, .Name x _ => slotB c i x && stoB c x
  | .tup ts, .Tuple es _ _ => chkGs c ts es && es.all noStar && c.calm
  | .tupS n ts, .Tuple es _ _ => chkGS c ts es && decide (es.length = n + 1) && c.calm
  | _, _ => false
def chkGs (c : Cz) : Tgs → List Expr → Bool
  | .nil, [] => true
  | .cons t ts, e :: es => chkG c t e && chkGs c ts es
  | _, _ => false
def chkGS (c : Cz) : Tgs → List Expr → Bool
  | .cons t .nil, [.Starred e _] => chkG c t e
  | .cons t ts, e :: es => chkG c t e && noStar e && chkGS c ts es
  | _, _ => false
end
def subIx (a b : List Nat) : Bool := a.all fun i => b.contains i
theorem subIx_sub {a b : List Nat} (h : subIx a b = true) : ∀ i ∈ a, i ∈ b := fun i hi => by
  have := List.all_eq_true.mp h i hi
  simpa using this
def tyNames : List Ty → List Expr → Bool
  | [], [] => true
  | t :: ts, .Name x _ :: es => decide ((tyName t).map (fun u => (u : Str)) = some x) && tyNames ts es
  | _, _ => false
def isRepr : Bl → Bool
  | .repr => true
  | _ => false
def clsB (c : Cz) (x : Str) : Bool := glB c x && c.P.cls.contains x
def exB (c : Cz) (x : Str) : Bool := glB c x && c.P.exs.contains x
def cloB (c : Cz) (k : Nat) (js : List Nat) : Bool := c.own && match c.P.nfs[k]? with
  | some d => (d.scope.names.all fun y => match y.2 with
    | .free => decide (c.sc.names.lookup y.1 = some .cell) && c.fnb y.1
    | _ => true) && (d.fr.all fun y => decide ((y, NameKind.free) ∈ d.scope.names)) && decide (js.map (fun j => c.N[j]?) = d.fr.map some)
  | none => false
def clsEs (c : Cz) : List Str → List Expr → Bool
  | [], [] => true
  | x :: xs, .Name z _ :: es => decide (x = z) && clsB c z && clsEs c xs es
  | _, _ => false
def nkv (kvs : Es) : Nat := match kvs with
  | .nil => 0
  | .cons _ r => nkv r + 1
def isNil : E → Bool
  | .nil => true
  | _ => false
mutual
def chkE (c : Cz) : E → Expr → Bool
  | .cst d, .Constant k _ _ => cstB k d
  | .gc x d, .Name y _ => decide (x = y) && glB c y && c.P.gcs.any fun q => decide (q.1 = y) && litEq q.2 d
  | .fnv x, .Name y _ => decide (x = y) && fnB c y
  | .var i, .Name y _ => slotB c i y && visB c y
  | .bin o a b, .BinOp l o' r _ => decide (o = o') && chkE c a l && chkE c b r
  | .binL o a b, .BinOp l o' r _ => decide (o = o') && chkE c a l && chkE c b r
  | .cmp o a b, .Compare l [o'] [r] _ => decide (o = o') && chkE c a l && chkE c b r && !behindInMarks o' r
  | .cmp2 o1 o2 a b d, .Compare l [p1, p2] [r, q] _ => decide (o1 = p1) && decide (o2 = p2) && chkE c a l && chkE c b r && chkE c d q && !lastMarks [p1, p2] [r, q]
  | .bop o es, .BoolOp o' xs _ => decide (o = o') && chkB c es xs
  | .not_ a, .UnaryOp .Not x _ => chkE c a x
  | .neg a, .UnaryOp .USub x _ => chkE c a x
  | .ite t a b, .IfExp tx x y _ => chkT c t tx && chkE c a x && chkE c b y
  | .tup es, .Tuple xs _ _ => chkEs c es xs
  | .lst es, .List xs _ => chkEs c es xs
  | .new es, .List xs _ => chkEs c es xs
  | .idx a b, .Subscript x y _ => chkE c a x && chkE c b y && noSlice y
  | .sl a lo hi, .Subscript x (.Slice l h none _) _ => chkE c a x && (match l with
      | none => isNil lo
      | some z => !isNil lo && chkE c lo z) && (match h with
      | none => isNil hi
      | some z => !isNil hi && chkE c hi z)
  | .slL a lo hi, .Subscript x (.Slice l h none _) _ => chkE c a x && (match l with
      | none => isNil lo
      | some z => !isNil lo && chkE c lo z) && (match h with
      | none => isNil hi
      | some z => !isNil hi && chkE c hi z)
  | .call x es ks kes, .Call (.Name y _) xs kws _ => decide (x = y) && fnB c y && okB c y && chkEs c es xs && (match xs with
      | [] => ks.isEmpty && kws.isEmpty
      | _ => true) && decide (kws.map (·.arg) = ks.map some) && chkKs c kes kws
  | .callv i es, .Call (.Name y _) xs [] _ => slotB c i y && visB c y && chkEs c es xs && !xs.isEmpty && c.calm
  | .calla x as, .Call (.Name y _) xs [] _ => decide (x = y) && fnB c y && okB c y && chkAs c as xs && !xs.isEmpty
  | .bl b es, .Call (.Name y _) xs [] _ => decide ((blName b).1 = y) && bltB c y && chkEs c es xs && !xs.isEmpty && (if isRepr b then c.own else c.calm)
  | .fl .list es, .Call (.Name y _) xs [] _ => decide (("list" : Str) = y) && bltB c y && chkEs c es xs && !xs.isEmpty && c.calm
  | .fl .sorted es, .Call (.Name y _) xs [] _ => decide (("sorted" : Str) = y) && bltB c y && chkEs c es xs && !xs.isEmpty
  | .lm m o es, .Call (.Attribute ox y ap) xs [] p => decide ((lmName m).1 = y) && chkE c o ox && noCall ox && chkEs c es xs && !xs.isEmpty && decide (xs.length < 20) && (ap.endLine == p.line)
  | .isx i cs, .Call (.Name y _) [.Name v _, .Name z _] [] _ => decide (("isinstance" : Str) = y) && bltB c y && slotB c i v && visB c v && decide (cs = [z]) && clsB c z
  | .isx i cs, .Call (.Name y _) [.Name v _, .Tuple zs _ _] [] _ => decide (("isinstance" : Str) = y) && bltB c y && slotB c i v && visB c v && !cs.isEmpty && decide (cs.length ≤ 100) && clsEs c cs zs
  | .dlit t kvs, .Dict keys values _ => chkKV c kvs keys values && keys.all (·.isSome) && decide (keys.length = values.length) && decide (nkv kvs = 2 * keys.length) && (keys.isEmpty || (if t then decide (keys.length = 1) else decide (keys.length ≤ 15)))
  | .isi a ts, .Call (.Name y _) [x, .Name z _] [] _ => decide (("isinstance" : Str) = y) && bltB c y && bltB c z && chkE c a x && noStar x && (match ts with
      | [t] => decide ((tyName t).map (fun u => (u : Str)) = some z)
      | _ => false)
  | .isi a ts, .Call (.Name y _) [x, .Tuple zs _ _] [] _ => decide (("isinstance" : Str) = y) && bltB c y && chkE c a x && noStar x && !ts.isEmpty && decide (ts.length ≤ 100) && tyNames ts zs && (zs.all fun z => match z with
      | .Name u _ => bltB c u
      | _ => false)
  | .mt m o es, .Call (.Attribute ox y ap) xs [] p => decide ((mtName m).1 = y) && chkE c o ox && noCall ox && chkEs c es xs && !xs.isEmpty && decide (xs.length < 20) && (ap.endLine == p.line)
  | .mtF m o es, .Call (.Attribute ox y ap) xs [] p => decide ((mtFName m).1 = y) && chkE c o ox && noCall ox && chkEs c es xs && !xs.isEmpty && decide (xs.length < 20) && (ap.endLine == p.line)
  | .lc cl, .ListComp elt gs scope _ => chkCl c cl elt gs scope && c.calm
  | .fs es, .JoinedStr xs _ => chkEs c es xs && decide (2 ≤ xs.length)
  | .fmt e, .FormattedValue x k none _ => decide (k = -1) && chkE c e x
  | .nev, _ => true
  | _, _ => false
def chkB (c : Cz) : Es → List Expr → Bool
  | .cons e .nil, [x] => chkE c e x
  | .cons e es, x :: xs => chkE c e x && chkB c es xs
  | _, _ => false
def chkEs (c : Cz) : Es → List Expr → Bool
  | .nil, [] => true
  | .cons e es, x :: xs => chkE c e x && noStar x && chkEs c es xs
  | _, _ => false
def chkAs (c : Cz) : As → List Expr → Bool
  | .nil, [] => true
  | .v e r, x :: xs => chkE c e x && noStar x && chkAs c r xs
  | .lend i r, .Name y _ :: xs => slotB c i y && visB c y && chkAs c r xs
  | .clo i k js r, .Name y _ :: xs => slotB c i y && visB c y && cloB c k js && chkAs c r xs
  | .exn i r, .Name y _ :: xs => slotB c i y && visB c y && chkAs c r xs
  | _, _ => false
def chkKV (c : Cz) : Es → List (Option Expr) → List Expr → Bool
  | .nil, [], [] => true
  | .cons k (.cons v r), some a :: ks, b :: vs => chkE c k a && chkE c v b && chkKV c r ks vs
  | _, _, _ => false
def chkKs (c : Cz) : Es → List Keyword → Bool
  | .nil, [] => true
  | .cons e es, ⟨_, x, _⟩ :: xs => chkE c e x && chkKs c es xs
  | _, _ => false
def chkT (c : Cz) : T → Expr → Bool
  | .v e, x => plainT x && chkE c e x
  | .cmp o a b, .Compare l [o'] [r] _ => decide (o = o') && chkE c a l && chkE c b r && !behindInMarks o' r
  | .cmp2 o1 o2 a b d, .Compare l [p1, p2] [r, q] _ => decide (o1 = p1) && decide (o2 = p2) && chkE c a l && chkE c b r && chkE c d q && !lastMarks [p1, p2] [r, q]
  | .not_ t, .UnaryOp .Not x _ => chkT c t x
  | .bop o ts, .BoolOp o' xs _ => decide (o = o') && chkTs c ts xs
  | _, _ => false
def chkTs (c : Cz) : Ts → List Expr → Bool
  | .cons t .nil, [x] => chkT c t x
  | .cons t ts, x :: xs => chkT c t x && chkTs c ts xs
  | _, _ => false
def chkIfs (c : Cz) : Ts → List Expr → Bool
  | .nil, [] => true
  | .cons t .nil, [x] => chkT c t x
  | _, _ => false
def chkI (c : Cz) : It → Expr → Expr → Bool
  | .val e, _, x => chkE c e x && noSet x
  | .rng1 a, _, .Call (.Name y _) [x] [] _ => decide (("range" : Str) = y) && bltB c y && chkE c a x && noStar x
  | .rng2 a b, _, .Call (.Name y _) [x, z] [] _ => decide (("range" : Str) = y) && bltB c y && chkE c a x && chkE c b z && noStar x && noStar z
  | .rng3 a b d, _, .Call (.Name y _) [x, z, u] [] _ => decide (("range" : Str) = y) && bltB c y && chkE c a x && chkE c b z && chkE c d u && noStar x && noStar z && noStar u
  | .enm a, .Tuple _ _ _, .Call (.Name y _) [x] [] _ => decide (("enumerate" : Str) = y) && bltB c y && chkE c a x && noStar x
  | .zip a b, .Tuple _ _ _, .Call (.Name y _) [x, z] [] _ => decide (("zip" : Str) = y) && bltB c y && chkE c a x && chkE c b z && noStar x && noStar z
  | _, _, _ => false
def chkCl (c : Cz) : Cl → Expr → List Comprehension → Scope → Bool
  | .gen t own it cs (.fin e), elt, [⟨tg, iter, ifs, a⟩], scope => decide (a = 0) && chkI c it tg iter && noSet iter && blkC c.N c.sc scope (ownP c own) && subIx (tgIx t) own && chkG (blkCz c scope) t tg && chkIfs (blkCz c scope) cs ifs && chkE (blkCz c scope) e elt
  | .gen t own it cs (.gen t1 own1 it1 cs1 (.fin e)), elt, [⟨tg, iter, ifs, a⟩, ⟨tg1, iter1, ifs1, a1⟩], scope => decide (a = 0) && decide (a1 = 0) && chkI c it tg iter && noSet iter && noSet iter1 && blkC c.N c.sc scope (ownP c own) && subIx (tgIx t) own && subIx own1 own && subIx (tgIx t1) own1 &&
      chkG (blkCz c scope) t tg && chkIfs (blkCz c scope) cs ifs && chkI (blkCz c scope) it1 tg1 iter1 && chkG (blkCz c scope) t1 tg1 && chkIfs (blkCz c scope) cs1 ifs1 && chkE (blkCz c scope) e elt
  | _, _, _, _ => false
end
def noAnn (a : Arguments) : Bool := (a.args ++ a.posonlyargs ++ a.vararg.toList ++ a.kwonlyargs ++ a.kwarg.toList).all (·.annotation.isNone)
theorem annOf_nil {Y : Env} : ∀ {l : List Arg}, l.all (·.annotation.isNone) = true → annotationsOf l Y = []
  | [], _ => rfl
  | ⟨nm, none, p⟩ :: r, h => by
    simp only [List.all_cons, Bool.and_eq_true] at h
    have := annOf_nil (Y := Y) h.2
    unfold annotationsOf
    exact this
  | ⟨nm, some e, p⟩ :: r, h => by
    simp only [List.all_cons, Bool.and_eq_true] at h
    exact nomatch h.1
theorem noAnn_trees {a : Arguments} {Y : Env} (h : noAnn a = true) : annTrees a none Y = [] := by
  obtain ⟨po, as, va, ko, kd, kwa, df⟩ := a
  unfold annTrees
  have := annOf_nil (Y := Y) (show (as ++ po ++ va.toList ++ ko ++ kwa.toList).all (·.annotation.isNone) = true from h)
  dsimp only
  rw [this]
  rfl
mutual
def chkC (c : Cz) : C → Stmt → Bool
  | .skip, .Pass _ => true
  | .skip, .Expr (.Constant (.str _) _ _) _ => true
  | .ex e, .Expr x _ => chkE c e x && noComp x
  | .set t e, .Assign [tg] x _ => chkG c t tg && noStar tg && chkE c e x && noComp x && (noTup tg || noTup x)
  | .setO i e, .Assign [.Name y yp] x p => slotB c i y && stoB c y && ((noComp x && chkE c e x) || (match e, x with
      | .lc cl, .ListComp elt gs scope pos => c.calm && chkCl c cl elt gs scope && decide (c.sc.names.lookup y = some .local) && (yp.line == pos.line) && !(scope.names.any fun (n, k) => n == y && (k == .local || k == .cell))
      | _, _ => false))
  | .aug i o e, .AugAssign (.Name y _) o' x _ => slotB c i y && stoB c y && decide (o = o') && chkE c e x
  | .seti o i e, .Assign [.Subscript ox ix _] x _ => chkE c o ox && chkE c i ix && noSlice ix && chkE c e x && noComp x
  | .app o e, .Expr (.Call (.Attribute ox y ap) [x] [] p2) _ => decide (("append" : Str) = y) && chkE c o ox && noCall ox && (ap.endLine == p2.line) && chkE c e x && noStar x
  | .ext o e, .Expr (.Call (.Attribute ox y ap) [x] [] p2) _ => decide (("extend" : Str) = y) && chkE c o ox && noCall ox && (ap.endLine == p2.line) && chkE c e x && noStar x
  | .ret e, .Return (some x) _ => chkE c e x
  | .retN, .Return none _ => true
  | .ite t a b, .If x xs ys _ => chkT c t x && chkCs c a xs && chkCs c b ys
  | .setD i e, .Assign [.Name y yp] x _ => slotB c i y && stoB c y && noComp x && chkE c e x
  | .raise x, .Raise (some (.Call (.Name y _) [.Constant (.str _) _ _] [] _)) none _ => decide (x = y) && exB c y && c.calm
  | .tryc b x i h, .Try body [.ExceptHandler (some (.Name y _)) nm (b0 :: suite) _] [] [] _ => decide (x = y) && exB c y && c.calm && c.own && chkCs c b body && chkCs (hotCz c) h (b0 :: suite) && (match i, nm with
      | none, none => true
      | some i, some n => slotB c i n && decide (c.sc.names.lookup n = some .local)
      | _, _ => false)
  | .fdef i k, .FunctionDef name params body [] none [] scope none nm pos => decide (name = nm) && slotB c i name && stoB c name && c.own && c.calm && params.defaults.isEmpty && params.kw_defaults.isEmpty && noAnn params && (scope.names.all fun y => match y.2 with
      | .free => (match c.sc.names.lookup y.1 with
        | some .cell => true
        | some .free => true
        | _ => false)
      | _ => true) && decide ((pos.line, pos.col, c.qual ++ name) ∈ c.nms)
  | .for_ t it b, .For tg iter body [] _ => c.calm && chkG c t tg && chkI c it tg iter && noSet iter && chkCs c b body
  | .whl _ t b, .While x body [] _ => chkT c t x && chkCs c b body
  | .brk, .Break _ => true
  | .cont, .Continue _ => true
  | .nev, _ => true
  | _, _ => false
def chkCs (c : Cz) : C → List Stmt → Bool
  | .skip, [] => true
  | .seq a b, st :: rest => chkC c a st && chkCs c b rest
  | .nev, _ => true
  | _, _ => false
end
/-- the inner defs of a text -/
def nfAt (c : Cz) (scope : Scope) (name : Str) (params : Arguments) (body : List Stmt) : NfD := ⟨name, c.qual ++ name, params, body, scope, (scope.names.filter fun y => decide (y.2 = .free)).map (·.1)⟩
mutual
def fdC (c : Cz) : C → Stmt → List (Nat × NfD)
  | .fdef i k, .FunctionDef name params body _ _ _ scope _ _ _ => [(k, nfAt c scope name params body)]
  | .ite _ a b, .If _ xs ys _ => fdCs c a xs ++ fdCs c b ys
  | .for_ _ _ b, .For _ _ body _ _ => fdCs c b body
  | .whl _ _ b, .While _ body _ _ => fdCs c b body
  | .tryc b _ _ h, .Try body [.ExceptHandler _ _ suite _] _ _ _ => fdCs c b body ++ fdCs (hotCz c) h suite
  | _, _ => []
def fdCs (c : Cz) : C → List Stmt → List (Nat × NfD)
  | .seq a b, st :: rest => fdC c a st ++ fdCs c b rest
  | _, _ => []
end
end MP

namespace MP
open PySem PySem.Spec L2
/-- calls of every kind -/
structure Calls3 (T : Tx) (X : Cx) (W : WX) (cl : Calls) (ok : Str → Bool) (calm : Bool) : Prop where
  r : CallsR T X W cl ok
  a : CallsA T X W cl ok
  c : calm = true → CallsC T X W cl
/-- a class that is asked for -/
def ClsI (mg : Str → Option Value) (z : Str) : Prop := (∃ C, mg z = some (.ref C)) ∨ (mg z = none ∧ z ≠ "__name__" ∧ ∃ t : String, bootBuiltins z = some (.type t))
structure Gk (T : Tx) (X : Cx) (c : Cz) (W : WX) (cl : Calls) (sub : Str → Str → Option Bool) : Prop where
  N : X.N = c.N
  nd : c.N.Nodup
  sc : X.env.scope = c.sc
  fn : X.fn = c.fnb
  kind : c.sc.kind = .function
  calm : c.calm = true → X.calm = true ∧ T.exn = none
  hot : c.calm = false → ∃ p ∈ X.pn, L2H.Hot1 X.A p ∧ ∀ a cls, T.exn = some (a, cls) → a = p.1 ∧ Zc cls none p.2
  tk : L2N.Takes X W
  own : PassesOwn (model X.prog X.w) X.A X.env X.xe
  hu : X.A.units + 70 < cLine
  gcs : ∀ q ∈ c.P.gcs, ∃ u v, X.mg q.1 = some u ∧ RelV v u ∧ ∀ μ G, rep X.gp μ G q.2 v
  fns : ∀ x ∈ c.P.fns, ∃ f, X.mg x = some (.ref f) ∧ PySem.W.keepIn X.K (.ref f) = true
  blt : ∀ x ∈ c.P.blt, X.mg x = none
  exs : ∀ x ∈ c.P.exs, ExcI X.K X.mg x
  cls : ∀ x ∈ c.P.cls, ClsI X.mg x
  subI : SubI X.K X.mg sub
  subK : SubK X.K X.mg sub
  sysK : SysK X.K
  nfs : T.nfs = c.P.nfs
  fr : c.own = true → T.cells = X.env.cells ∧ X.stack = X.env :: X.outer ∧ X.env.frame = some X.env.locals ∧ X.A.guards = some []
  tb : c.own = true → c.nms ≠ [] → X.env.qual = c.qual ∧ ∃ nm cc P, LamX.TabB X.base X.mg cc P ∧ X.env.code = .ref cc ∧ (P, nm) ∈ T.tabs ∧ (∀ p ∈ T.tabs, p.1 = P → p.2 = nm) ∧ ∀ q ∈ c.nms, nm q.1 q.2.1 = q.2.2
  calls : Calls3 T X W cl (okB c) c.calm
  same : c.calm = true → ∀ (X' : Cx) (W' : WX), X'.gp = X.gp → X'.A = X.A → X'.calm = X.calm → L2N.Takes X' W' → Calls3 T X' W' cl (okB c) true
  suite : c.calm = true → c.own = true → ∀ (a : Addr) (oe : Obj) (cls : Value) (pn : List (Addr × Obj)), L2N.Zn cls none oe → (∃ vs, oe.data = .fields vs) → Calls3 { T with exn := some (a, cls) } (X.suite a ((a, oe) :: pn)) WF cl (fun x => c.P.hot.contains x) false
section
variable {T : Tx} {W : WX} {X : Cx} {c : Cz} {cl : Calls} {sub : Str → Str → Option Bool} (K : Gk T X c W cl sub)
include K
theorem Gk.slot {i : Nat} {x : Str} (h : slotB c i x = true) : X.N[i]? = some x := by rw [K.N]; exact of_decide_eq_true h
theorem nodbg_of {x : Str} (h : nodbg x = true) : (x == ("__debug__" : Str)) = false ∧ (x == ("__classdict__" : Str)) = false := by
  unfold nodbg at h
  simp only [Bool.and_eq_true, Bool.not_eq_true'] at h
  exact h
theorem Gk.vis {x : Str} (h : visB c x = true) : Vis X.env.scope x ∧ (x == ("__debug__" : Str)) = false ∧ (x == ("__classdict__" : Str)) = false := by
  unfold visB at h
  rw [Bool.and_eq_true] at h
  refine ⟨?_, nodbg_of K h.2⟩
  rw [K.sc]
  have h1 := h.1
  split at h1
  · exact .inl (by assumption)
  · exact .inr (.inl (by assumption))
  · exact .inr (.inr (by assumption))
  · cases h1
theorem Gk.sto {x : Str} (h : stoB c x = true) : Loc X.env.scope x ∧ (X.fn x = true ∨ X.env.scope.names.lookup x = some .local) := by
  unfold stoB at h
  rw [K.sc, K.fn]
  split at h
  · exact ⟨.inl (by assumption), .inr (by assumption)⟩
  · exact ⟨.inr (by assumption), .inl h⟩
  · cases h
theorem Gk.gl {x : Str} (h : glB c x = true) : Gl X x ∧ (x == ("__debug__" : Str)) = false := by
  unfold glB at h
  rw [Bool.and_eq_true] at h
  refine ⟨?_, (nodbg_of K h.2).1⟩
  show X.env.scope.names.lookup x = _
  rw [K.sc]
  exact of_decide_eq_true h.1
theorem Gk.bltn {x : Str} (h : bltB c x = true) : Gl X x ∧ X.mg x = none := by
  unfold bltB at h
  rw [Bool.and_eq_true] at h
  exact ⟨(K.gl h.1).1, K.blt x (by simpa using h.2)⟩
theorem Gk.fun_ {x : Str} (h : fnB c x = true) : Gl X x ∧ (x == ("__debug__" : Str)) = false ∧ ∃ f, X.mg x = some (.ref f) ∧ PySem.W.keepIn X.K (.ref f) = true := by
  unfold fnB at h
  rw [Bool.and_eq_true] at h
  exact ⟨(K.gl h.1).1, (K.gl h.1).2, K.fns x (by simpa using h.2)⟩
theorem Gk.exnAt : ExnAt X T := fun a cls e => by
  cases h : c.calm with
  | true => rw [(K.calm h).2] at e; cases e
  | false =>
    obtain ⟨p, hp, h1, h2⟩ := K.hot h
    obtain ⟨e1, e2⟩ := h2 a cls e
    obtain ⟨_, vs, hv, _⟩ := h1
    subst e1
    exact ⟨p.2, hp, e2, vs, hv⟩
theorem Gk.cl_ {x : Str} {p : Pos} (h : clsB c x = true) : ∃ v, PE X (.Name x p) (tC v) ∧ ClsV v (clsVal X.mg x) := by
  unfold clsB at h
  rw [Bool.and_eq_true] at h
  obtain ⟨g1, g2⟩ := K.gl h.1
  unfold clsVal
  rcases K.cls x (by simpa using h.2) with ⟨C, e⟩ | ⟨e, n, t, hb⟩
  · rw [e]
    exact ⟨.ref C, pe_glob g1 e rfl g2, .own C⟩
  · rw [e, hb]
    exact ⟨.ty t, pe_bltn g1 e hb rfl n g2, .ty t⟩
theorem Gk.ex_ {x : Str} (h : exB c x = true) : Gl X x ∧ (x == ("__debug__" : Str)) = false ∧ ExcI X.K X.mg x := by
  unfold exB at h
  rw [Bool.and_eq_true] at h
  exact ⟨(K.gl h.1).1, (K.gl h.1).2, K.exs x (by simpa using h.2)⟩
/-- a block's context -/
theorem Gk.blk {s : Shared} {H : Hp} {scope : Scope} {C : Addr} {cls : List (Str × Addr)} {fp : List Addr} (hc : c.calm = true) (hk : scope.kind = .function) : Gk T (X.blk s H scope (compEnvC scope cls C X.env) fp) (blkCz c scope) WF cl sub where
  N := K.N
  nd := K.nd
  sc := by show relS scope X.env.scope = _; rw [K.sc]; rfl
  fn := rfl
  kind := hk
  calm := K.calm
  hot := fun h => by
    have h : c.calm = false := h
    rw [hc] at h; cases h
  tk := fun u s' ⟨_, _, _, _, _, _, _, _, _, _, _, _, _, _, _, _, w⟩ => w
  own := PassesOwn.never
  hu := K.hu
  gcs := K.gcs
  fns := K.fns
  blt := K.blt
  exs := K.exs
  cls := K.cls
  subI := K.subI
  subK := K.subK
  sysK := K.sysK
  nfs := K.nfs
  fr := fun h => nomatch h
  tb := fun h => nomatch h
  calls := by
    have := K.same hc (X.blk s H scope (compEnvC scope cls C X.env) fp) WF rfl rfl rfl fun u s' ⟨_, _, _, _, _, _, _, _, _, _, _, _, _, _, _, _, w⟩ => w
    exact ⟨this.r, this.a, fun _ => this.c rfl⟩
  same := fun _ X' W' h1 h2 h3 h4 => K.same hc X' W' h1 h2 h3 h4
  suite := fun _ h => nomatch h
/-- the body of a try -/
theorem Gk.tr {W' : WX} {pn : List (Addr × Obj)} {xe : Value → Shared → Prop} (hc : c.calm = true) (tk : L2N.Takes (X.tr pn xe) W') (po : PassesOwn (model X.prog X.w) X.A X.env xe) : Gk T (X.tr pn xe) c W' cl sub where
  N := K.N
  nd := K.nd
  sc := K.sc
  fn := K.fn
  kind := K.kind
  calm := K.calm
  hot := fun h => by rw [hc] at h; cases h
  tk := tk
  own := po
  hu := K.hu
  gcs := K.gcs
  fns := K.fns
  blt := K.blt
  exs := K.exs
  cls := K.cls
  subI := K.subI
  subK := K.subK
  sysK := K.sysK
  nfs := K.nfs
  fr := K.fr
  tb := K.tb
  calls := by
    have := K.same hc (X.tr pn xe) W' rfl rfl rfl tk
    exact ⟨this.r, this.a, fun _ => this.c rfl⟩
  same := K.same
  suite := K.suite
/-- an except suite -/
theorem Gk.sui {a : Addr} {oe : Obj} {cls : Value} {pn : List (Addr × Obj)} (hc : c.calm = true) (ho : c.own = true) (z1 : L2N.Zn cls none oe) (z2 : ∃ vs, oe.data = .fields vs) : Gk { T with exn := some (a, cls) } (X.suite a ((a, oe) :: pn)) (hotCz c) WF cl sub where
  N := K.N
  nd := K.nd
  sc := K.sc
  fn := K.fn
  kind := K.kind
  calm := fun h => nomatch h
  hot := fun _ => ⟨(a, oe), List.mem_cons_self, ⟨rfl, by
    obtain ⟨vs, hv⟩ := z2
    exact ⟨vs, hv, z1.2.2 vs hv⟩⟩, fun a' cls' e => by cases e; exact ⟨rfl, z1.zc⟩⟩
  tk := fun u s' ⟨_, _, _, _, _, _, _, _, _, _, _, _, _, _, _, _, w⟩ => w
  own := PassesOwn.never
  hu := K.hu
  gcs := K.gcs
  fns := K.fns
  blt := K.blt
  exs := K.exs
  cls := K.cls
  subI := K.subI
  subK := K.subK
  sysK := K.sysK
  nfs := K.nfs
  fr := fun h => nomatch h
  tb := fun h => nomatch h
  calls := by
    have := K.suite hc ho a oe cls pn z1 z2
    exact ⟨this.r, this.a, fun h => nomatch h⟩
  same := fun h => nomatch h
  suite := fun h => nomatch h
end
section
variable {T : Tx} {W : WX} {X : Cx} {c : Cz} {cl : Calls} {sub : Str → Str → Option Bool} {pos : Pos}
theorem f_nev {ex : Expr} : SF T W X ex mstk := ⟨fun _ _ _ _ _ _ ⟨_, _, q⟩ => q.elim⟩
theorem e_nev {ex : Expr} : SE T W X ex mstk := ⟨fun _ _ _ _ _ _ ⟨_, _, q⟩ => q.elim⟩
theorem b_nev {ex : Expr} : SB T W X ex mstk := ⟨fun _ _ _ _ _ _ ⟨_, _, q⟩ => q.elim⟩
theorem sp_var {e : E} {ex : Expr} (K : Gk T X c W cl sub) (h : chkE c e ex = true) (he : SE T W X ex (evE cl sub e)) : SP T W X ex (asP e (evE cl sub e)) := by
  cases e with
  | var i =>
    cases ex with
    | Name x p =>
      unfold chkE at h
      rw [Bool.and_eq_true] at h
      obtain ⟨v1, v2, v3⟩ := K.vis h.2
      exact r_peek (K.slot h.1) v1 v2 v3
    | _ => unfold chkE at h; cases h
  | _ => exact sp_of_se he
theorem cst_ok {k : Const} {d : D} {j : Nat} (h : cstB k d = true) : SE T W X (.Constant k j pos) (mret d) := by
  cases k <;> cases d <;> first
    | (unfold cstB at h; cases h; done)
    | exact r_ret pe_non fun _ _ => rfl
    | (unfold cstB at h; simp only [beq_iff_eq] at h; subst h; exact r_ret pe_bl fun _ _ => rfl)
    | (unfold cstB at h; simp only [beq_iff_eq] at h; subst h; exact r_ret pe_int fun _ _ => rfl)
    | (unfold cstB at h; simp only [beq_iff_eq] at h; subst h; exact r_ret pe_str fun _ _ => rfl)
theorem evEs_len : ∀ (es : Es) (ρ : Fr) (S : Store) (l : List D) (ρ' : Fr) (S' : Store), evEs cl sub es ρ S = .ok l ρ' S' → ∀ kws : List Keyword, chkKs c es kws = true → l.length = kws.length
  | .nil, ρ, S, l, ρ', S', h, kws, hk => by
    unfold evEs at h
    cases h
    cases kws with
    | nil => rfl
    | cons _ _ => unfold chkKs at hk; cases hk
  | .cons e es, ρ, S, l, ρ', S', h, kws, hk => by
    cases kws with
    | nil => unfold chkKs at hk; cases hk
    | cons k kws =>
      obtain ⟨kn, kx, kp⟩ := k
      unfold evEs at h
      obtain ⟨d, ρ1, S1, h1, h2⟩ := mbind_ok h
      obtain ⟨l2, ρ2, S2, h3, h4⟩ := mbind_ok h2
      cases h4
      unfold chkKs at hk
      rw [Bool.and_eq_true] at hk
      exact congrArg Nat.succ (evEs_len es _ _ _ _ _ h3 kws hk.2)
theorem arr_len {kws : List Keyword} {ks : List Str} (h : kws.map (·.arg) = ks.map some) : kws.length = ks.length := by
  have := congrArg List.length h
  simpa using this
theorem chkEs_stars : ∀ {es : Es} {xs : List Expr}, chkEs c es xs = true → ∀ x ∈ xs, noStar x = true
  | .nil, [], _, x, hx => by cases hx
  | .nil, _ :: _, h, x, hx => by unfold chkEs at h; cases h
  | .cons _ _, [], h, x, hx => by unfold chkEs at h; cases h
  | .cons e es, y :: xs, h, x, hx => by
    unfold chkEs at h
    simp only [Bool.and_eq_true] at h
    rcases List.mem_cons.mp hx with hx | hx
    · subst hx; exact h.1.2
    · exact chkEs_stars h.2 x hx
theorem tys_names : ∀ {ts : List Ty} {zs : List Expr}, tyNames ts zs = true → ∃ us : List String, ts.map tyName = us.map some ∧ zs.length = us.length ∧ us.length = ts.length ∧ ∀ (K : Gk T X c W cl sub), (zs.all fun z => match z with
      | .Name u _ => bltB c u
      | _ => false) = true → TyEs X zs us
  | [], [], _ => ⟨[], rfl, rfl, rfl, fun _ _ => .nil⟩
  | [], _ :: _, h => by unfold tyNames at h; cases h
  | _ :: _, [], h => by unfold tyNames at h; cases h
  | t :: ts, z :: zs, h => by
    cases z with
    | Name x p =>
      unfold tyNames at h
      rw [Bool.and_eq_true] at h
      obtain ⟨us, h1, h2, h3, h4⟩ := tys_names h.2
      have h0 := of_decide_eq_true h.1
      cases hu : tyName t with
      | none => rw [hu] at h0; cases h0
      | some u =>
        rw [hu] at h0
        have hx : (u : Str) = x := Option.some.inj h0
        subst hx
        refine ⟨u :: us, by rw [List.map_cons, List.map_cons, hu, h1], by simp [h2], by simp [h3], fun K hz => ?_⟩
        simp only [List.all_cons, Bool.and_eq_true] at hz
        obtain ⟨g1, g2⟩ := K.bltn hz.1
        obtain ⟨n1, n2⟩ := ty_nn hu
        exact .cons (pe_bltn g1 g2 (tyV_boot hu) rfl n1 n2) (h4 K hz.2)
    | _ => unfold tyNames at h; cases h
/-! ### targets -/
mutual
theorem snd_G : ∀ (t : Tg) (ex : Expr) {X : Cx} {c : Cz} {W : WX}, Gk T X c W cl sub → chkG c t ex = true → SG T X ex (tgIx t) (bindT t)
  | .v i, ex, X, c, W, K, h => by
    cases ex with
    | Name x p =>
      unfold chkG at h
      rw [Bool.and_eq_true] at h
      obtain ⟨h1, h2⟩ := K.sto h.2
      have := g_name (T := T) (pos := p) (by rw [K.N]; exact K.nd) (K.slot h.1) h1 h2
      unfold tgIx
      exact this
    | _ => unfold chkG at h; cases h
  | .tup ts, ex, X, c, W, K, h => by
    cases ex with
    | Tuple es k p =>
      unfold chkG at h
      rw [Bool.and_eq_true, Bool.and_eq_true] at h
      obtain ⟨⟨h1, h2⟩, hc⟩ := h
      obtain ⟨a1, a2⟩ := assignEach_plain (env := X.env) h2
      obtain ⟨s1, s2⟩ := snd_Gs ts es K h1 h2
      have := g_tup (T := T) (pos := p) (k := k) (K.calm hc).1 s1 a1 a2 fun l ρ S hl => s2 l ρ S hl
      unfold tgIx
      exact this
    | _ => unfold chkG at h; cases h
  | .tupS n ts, ex, X, c, W, K, h => by
    cases ex with
    | Tuple es k p =>
      unfold chkG at h
      rw [Bool.and_eq_true, Bool.and_eq_true] at h
      obtain ⟨⟨h1, h2⟩, hc⟩ := h
      have hn := of_decide_eq_true h2
      obtain ⟨s1, s2, s3⟩ := snd_GS ts es K h1
      have := g_tupS (T := T) (pos := p) (k := k) (n := n) (K.calm hc).1 s1 (by rw [s2, hn]) (by rw [s3, hn]; rfl)
      unfold tgIx
      exact this
    | _ => unfold chkG at h; cases h
theorem snd_Gs : ∀ (ts : Tgs) (es : List Expr) {X : Cx} {c : Cz} {W : WX}, Gk T X c W cl sub → chkGs c ts es = true → es.all noStar = true → SGs T X es (tgIxs ts) (bindTs ts) ∧ ∀ (l : List D) (ρ : Fr) (S : Store), l.length ≠ es.length → bindTs ts l ρ S = .stk
  | .nil, [], X, c, W, K, h, hs => ⟨by
      have e : bindTs .nil = fun l => match l with | [] => mret () | _ => mstk := by funext l; cases l <;> rfl
      rw [e]
      exact gs_nil, fun l ρ S hl => by
    cases l with
    | nil => exact absurd rfl hl
    | cons _ _ => rfl⟩
  | .nil, _ :: _, X, c, W, K, h, hs => by unfold chkGs at h; cases h
  | .cons _ _, [], X, c, W, K, h, hs => by unfold chkGs at h; cases h
  | .cons t ts, e :: es, X, c, W, K, h, hs => by
    unfold chkGs at h
    rw [Bool.and_eq_true] at h
    simp only [List.all_cons, Bool.and_eq_true] at hs
    obtain ⟨s1, s2⟩ := snd_Gs ts es K h.2 hs.2
    refine ⟨?_, fun l ρ S hl => ?_⟩
    · have e : bindTs (.cons t ts) = fun l => match l with | d :: r => mbind (bindT t d) fun _ => bindTs ts r | _ => mstk := by funext l; cases l <;> rfl
      rw [e]
      exact gs_cons (snd_G t _ K h.1) s1 (assignEach_cons hs.1)
    · cases l with
      | nil => rfl
      | cons d l =>
        show mbind (bindT t d) (fun _ => bindTs ts l) ρ S = .stk
        unfold mbind
        cases e1 : bindT t d ρ S with
        | ok a ρ1 S1 => exact s2 l ρ1 S1 (fun z => hl (congrArg Nat.succ z))
        | exc c ρ1 S1 => exact absurd e1 (bindT_noexc t d ρ S c ρ1 S1)
        | stk => rfl
theorem snd_GS : ∀ (ts : Tgs) (es : List Expr) {X : Cx} {c : Cz} {W : WX}, Gk T X c W cl sub → chkGS c ts es = true → SGs T X es (tgIxs ts) (bindTs ts) ∧ (assignEach es X.env).length = es.length ∧ (assignEach es X.env).findIdx? (·.1) = some (es.length - 1)
  | .nil, _, X, c, W, K, h => by unfold chkGS at h; cases h
  | .cons _ .nil, [], X, c, W, K, h => by unfold chkGS at h; cases h
  | .cons _ (.cons _ _), [], X, c, W, K, h => by unfold chkGS at h; cases h
  | .cons t .nil, [e], X, c, W, K, h => by
    cases e with
    | Starred e p =>
      unfold chkGS at h
      refine ⟨?_, rfl, rfl⟩
      have e1 : bindTs (.cons t .nil) = fun l => match l with | [d] => bindT t d | _ => mstk := by
        funext l
        match l with
        | [] => rfl
        | [d] =>
          funext ρ S
          show mbind (bindT t d) (fun _ => bindTs .nil []) ρ S = bindT t d ρ S
          unfold mbind
          cases bindT t d ρ S <;> rfl
        | d :: d2 :: r =>
          funext ρ S
          show mbind (bindT t d) (fun _ => bindTs .nil (d2 :: r)) ρ S = .stk
          unfold mbind
          cases e1 : bindT t d ρ S with
          | ok a ρ1 S1 => rfl
          | exc c ρ1 S1 => exact absurd e1 (bindT_noexc t d ρ S c ρ1 S1)
          | stk => rfl
      rw [e1]
      unfold tgIxs tgIxs
      rw [List.append_nil]
      exact gs_star (snd_G t e K h) rfl
    | _ =>
      unfold chkGS at h
      simp only [chkGS, Bool.and_false, Bool.false_eq_true] at h
  | .cons t (.cons t2 ts), [e], X, c, W, K, h => by
    cases e <;> (unfold chkGS at h; simp only [chkGS, Bool.and_false, Bool.false_eq_true] at h)
  | .cons t .nil, e :: e2 :: es, X, c, W, K, h => by
    unfold chkGS at h
    simp only [chkGS, Bool.and_false, Bool.false_eq_true] at h
  | .cons t (.cons t2 ts), e :: e2 :: es, X, c, W, K, h => by
    unfold chkGS at h
    simp only [Bool.and_eq_true] at h
    obtain ⟨⟨h1, h2⟩, h3⟩ := h
    obtain ⟨s1, s2, s3⟩ := snd_GS (.cons t2 ts) (e2 :: es) K h3
    have e0 : assignEach (e :: e2 :: es) X.env = (false, assign e X.env) :: assignEach (e2 :: es) X.env := by
      cases e <;> first | rfl | (exact absurd h2 (by simp [noStar]))
    refine ⟨?_, by rw [e0]; exact congrArg Nat.succ s2, ?_⟩
    · have e1 : bindTs (.cons t (.cons t2 ts)) = fun l => match l with | d :: r => mbind (bindT t d) fun _ => bindTs (.cons t2 ts) r | _ => mstk := by funext l; cases l <;> rfl
      rw [e1]
      exact gs_cons (snd_G t _ K h1) s1 (assignEach_cons h2)
    · rw [e0, List.findIdx?_cons]
      simp [s3]
end
end
end MP

namespace MP
open PySem PySem.Spec L2
section
variable {T : Tx} {cl : Calls} {sub : Str → Str → Option Bool}
theorem lcFacts {X : Cx} {c : Cz} {W : WX} (K : Gk T X c W cl sub) {scope : Scope} {own : List Nat} (h : blkC c.N c.sc scope (ownP c own) = true) : BlkOk X.N X.env.scope scope (ownP c own) := by
  rw [K.N, K.sc]; exact blkOk_by h
/-- what a comprehension's soundness says -/
def LcOk (T : Tx) (W : WX) (X : Cx) (cl : Calls) (sub : Str → Str → Option Bool) (c : Cl) (elt : Expr) (gs : List Comprehension) (scope : Scope) : Prop :=
  (∀ pos, SF T W X (.ListComp elt gs scope pos) (lcM (evCl cl sub c))) ∧ ∀ (i : Nat) (y : Str) (py p2 pos : Pos), X.N[i]? = some y → X.env.scope.names.lookup y = some .local → (py.line == pos.line) = true → (scope.names.any fun (n, k) => n == y && (k == .local || k == .cell)) = false →
    SS T W X (.Assign [.Name y py] (.ListComp elt gs scope pos) p2) (setOM i (lcM (evCl cl sub c)))
theorem sts_nil {X : Cx} : STs T X [] (mret true) := ⟨fun pins st σ H Q I ⟨s, A, q⟩ => pts_nil.run pins st σ H Q I (q.ret A)⟩
theorem sts_one {X : Cx} {x : Expr} {m : M Bool} (h : SB T WF X x m) : STs T X [x] (mbind m fun b => if b then mret true else mret false) :=
  ⟨fun pins st σ H Q I ⟨s, A, q⟩ => (pts_one h).run pins st σ H Q I ⟨s, A, q.bind.mono fun b s1 H1 le J q1 => by cases b <;> exact q1.ret J⟩⟩
theorem isi_name {t : Ty} {z : Str} (h : (tyName t).map (fun u => (u : Str)) = some z) : ∃ u, tyName t = some u ∧ (u : Str) = z := by
  cases hu : tyName t with
  | none => rw [hu] at h; cases h
  | some u => rw [hu] at h; exact ⟨u, rfl, Option.some.inj h⟩
theorem nonempty_cons {α : Type} {l : List α} (h : (!l.isEmpty) = true) : ∃ a r, l = a :: r := by
  cases l with
  | nil => cases h
  | cons a r => exact ⟨a, r, rfl⟩

theorem isNil_eq {e : E} (h : isNil e = true) : e = .nil := by cases e <;> first | rfl | cases h
theorem asO_some {e : E} {m : M D} (h : isNil e = false) : asO e m = mbind m fun d => match d with
    | .int i => mret (.int i)
    | _ => mstk := by cases e <;> first | rfl | cases h
/-- parts of a slice -/
theorem snd_O {X : Cx} {c : Cz} {W : WX} {e : E} {l : Option Expr} (h : (match l with
      | none => isNil e
      | some z => !isNil e && chkE c e z) = true) (k : ∀ z, l = some z → chkE c e z = true → SE T W X z (evE cl sub e)) : SO T W X l (asO e (evE cl sub e)) := by
  cases l with
  | none =>
    have := isNil_eq h
    subst this
    exact o_nil
  | some z =>
    simp only [Bool.and_eq_true, Bool.not_eq_true'] at h
    rw [asO_some h.1]
    exact o_some (k z rfl h.2)
theorem cl_no0 {c : Cz} {e : E} {elt : Expr} {gs : List Comprehension} {scope : Scope} (h : chkCl c (.fin e) elt gs scope = true) : False := Bool.false_ne_true h
theorem cl_no1 {c : Cz} {t own it cs} {e : E} {elt : Expr} {scope : Scope} (h : chkCl c (.gen t own it cs (.fin e)) elt [] scope = true) : False := Bool.false_ne_true h
theorem cl_no2 {c : Cz} {t own it cs} {e : E} {elt : Expr} {g1 g2 gs} {scope : Scope} (h : chkCl c (.gen t own it cs (.fin e)) elt (g1 :: g2 :: gs) scope = true) : False := by obtain ⟨_, _, _, _⟩ := g1; exact Bool.false_ne_true h
theorem cl_no3 {c : Cz} {t own it cs t1 own1 it1 cs1} {e : E} {elt : Expr} {scope : Scope} (h : chkCl c (.gen t own it cs (.gen t1 own1 it1 cs1 (.fin e))) elt [] scope = true) : False := Bool.false_ne_true h
theorem cl_no4 {c : Cz} {t own it cs t1 own1 it1 cs1} {e : E} {elt : Expr} {g} {scope : Scope} (h : chkCl c (.gen t own it cs (.gen t1 own1 it1 cs1 (.fin e))) elt [g] scope = true) : False := by obtain ⟨_, _, _, _⟩ := g; exact Bool.false_ne_true h
theorem cl_no5 {c : Cz} {t own it cs t1 own1 it1 cs1} {e : E} {elt : Expr} {g1 g2 g3 gs} {scope : Scope} (h : chkCl c (.gen t own it cs (.gen t1 own1 it1 cs1 (.fin e))) elt (g1 :: g2 :: g3 :: gs) scope = true) : False := by obtain ⟨_, _, _, _⟩ := g1; obtain ⟨_, _, _, _⟩ := g2; exact Bool.false_ne_true h
theorem cl_no6 {c : Cz} {t own it cs t1 own1 it1 cs1 t2 own2 it2 cs2 r} {elt : Expr} {gs} {scope : Scope} (h : chkCl c (.gen t own it cs (.gen t1 own1 it1 cs1 (.gen t2 own2 it2 cs2 r))) elt gs scope = true) : False := Bool.false_ne_true h
theorem m_nev {X : Cx} {W : WX} {ex : Expr} : SM T W X ex mstk := ⟨fun _ _ _ _ _ _ ⟨_, _, q⟩ => q.elim⟩
theorem evEs_nkv : ∀ (kvs : Es) (ρ : Fr) (S : Store) (l : List D) (ρ' : Fr) (S' : Store), evEs cl sub kvs ρ S = .ok l ρ' S' → l.length = nkv kvs
  | .nil, ρ, S, l, ρ', S', h => by cases h; rfl
  | .cons e es, ρ, S, l, ρ', S', h => by
    obtain ⟨d, ρ1, S1, h1, h2⟩ := mbind_ok h
    obtain ⟨l2, ρ2, S2, h3, h4⟩ := mbind_ok h2
    cases h4
    exact congrArg Nat.succ (evEs_nkv es _ _ _ _ _ h3)
theorem cls_names {X : Cx} {c : Cz} {W : WX} (K : Gk T X c W cl sub) : ∀ {cs : List Str} {zs : List Expr}, clsEs c cs zs = true → ∃ vs, ClsEs X zs cs vs ∧ vs.length = cs.length
  | [], [], _ => ⟨[], .nil, rfl⟩
  | [], _ :: _, h => by simp [clsEs] at h
  | _ :: _, [], h => by simp [clsEs] at h
  | x :: cs, z :: zs, h => by
    cases z with
    | Name y p =>
      simp only [clsEs, Bool.and_eq_true, decide_eq_true_eq] at h
      obtain ⟨⟨h1, h2⟩, h3⟩ := h
      subst h1
      obtain ⟨v, e1, e2⟩ := K.cl_ (p := p) h2
      obtain ⟨vs, r1, r2⟩ := cls_names K h3
      exact ⟨v :: vs, .cons e1 e2 r1, congrArg Nat.succ r2⟩
    | _ => simp [clsEs] at h
theorem clo_i {X : Cx} {c : Cz} {W : WX} {k : Nat} {js : List Nat} (K : Gk T X c W cl sub) (h : cloB c k js = true) : CloI X T k js := by
  unfold cloB at h
  rw [Bool.and_eq_true] at h
  obtain ⟨ho, h⟩ := h
  split at h
  · rename_i d hd
    rw [Bool.and_eq_true, Bool.and_eq_true] at h
    obtain ⟨⟨h1, h2⟩, h3⟩ := h
    refine ⟨d, by rw [K.nfs]; exact hd, (K.fr ho).1, fun y hy e => ?_, fun y hy => of_decide_eq_true (List.all_eq_true.mp h2 y hy), by rw [K.N]; exact of_decide_eq_true h3⟩
    have := List.all_eq_true.mp h1 y hy
    rw [e] at this
    rw [K.sc, K.fn]
    have this : (decide (c.sc.names.lookup y.1 = some .cell) && c.fnb y.1) = true := this
    rw [Bool.and_eq_true] at this
    exact ⟨of_decide_eq_true this.1, this.2⟩
  · cases h
mutual
theorem snd_E : ∀ (e : E) (ex : Expr) {X : Cx} {c : Cz} {W : WX}, Gk T X c W cl sub → chkE c e ex = true → SE T W X ex (evE cl sub e) ∧ SF T W X ex (evF cl sub e) ∧ SM T W X ex (evM cl sub e)
  | .cst d, ex, X, c, W, K, h => by
    cases ex with
    | Constant k j p => exact ⟨cst_ok h, f_nev, m_nev⟩
    | _ => simp [chkE] at h
  | .gc x d, ex, X, c, W, K, h => by
    cases ex with
    | Name y p =>
      simp only [chkE, Bool.and_eq_true, List.any_eq_true, decide_eq_true_eq] at h
      obtain ⟨⟨h1, h2⟩, q, hq, h3, h4⟩ := h
      obtain ⟨u, v, e1, e2, e3⟩ := K.gcs q hq
      have e4 := litEq_eq h4
      rw [h3] at e1
      rw [e4] at e3
      obtain ⟨g1, g2⟩ := K.gl h2
      exact ⟨r_ret (pe_glob g1 e1 e2 g2) e3, f_nev, m_nev⟩
    | _ => simp [chkE] at h
  | .fnv x, ex, X, c, W, K, h => by
    cases ex with
    | Name y p =>
      simp only [chkE, Bool.and_eq_true, decide_eq_true_eq] at h
      obtain ⟨h1, h2⟩ := h
      subst h1
      obtain ⟨g1, g2, f, g3, g4⟩ := K.fun_ h2
      have r : ∀ μ G, rep X.gp μ G (.fn x) (.ref f) := fun μ G => ⟨f, rfl, g3, g4⟩
      exact ⟨r_ret (pe_glob (v := .ref f) g1 g3 rfl g2) r, f_nev, m_nev⟩
    | _ => simp [chkE] at h
  | .var i, ex, X, c, W, K, h => by
    cases ex with
    | Name y p =>
      simp only [chkE, Bool.and_eq_true] at h
      obtain ⟨v1, v2, v3⟩ := K.vis h.2
      exact ⟨r_var (K.slot h.1) v1 v2 v3, f_nev, m_nev⟩
    | _ => simp [chkE] at h
  | .bin o a b, ex, X, c, W, K, h => by
    cases ex with
    | BinOp l o' r p =>
      simp only [chkE, Bool.and_eq_true, decide_eq_true_eq] at h
      obtain ⟨⟨h1, h2⟩, h3⟩ := h
      subst h1
      exact ⟨r_bin (sp_var K h2 (snd_E a l K h2).1) (sp_var K h3 (snd_E b r K h3).1), f_nev, m_nev⟩
    | _ => simp [chkE] at h
  | .binL o a b, ex, X, c, W, K, h => by
    cases ex with
    | BinOp l o' r p =>
      simp only [chkE, Bool.and_eq_true, decide_eq_true_eq] at h
      obtain ⟨⟨h1, h2⟩, h3⟩ := h
      subst h1
      have := r_binL (pos := p) (o := o) (sp_var K h2 (snd_E a l K h2).1) (sp_var K h3 (snd_E b r K h3).1)
      exact ⟨se_of_sf this, this, m_nev⟩
    | _ => simp [chkE] at h
  | .cmp o a b, ex, X, c, W, K, h => by
    cases ex with
    | Compare l os rs p =>
      match os, rs, h with
      | [o'], [r], h =>
        simp only [chkE, Bool.and_eq_true, decide_eq_true_eq, Bool.not_eq_true'] at h
        obtain ⟨⟨⟨h1, h2⟩, h3⟩, h4⟩ := h
        subst h1
        exact ⟨r_cmp K.hu (sp_var K h2 (snd_E a l K h2).1) (sp_var K h3 (snd_E b _ K h3).1) h4, f_nev, m_nev⟩
      | [], _, h => simp [chkE] at h
      | _ :: _ :: _, _, h => simp [chkE] at h
      | [_], [], h => simp [chkE] at h
      | [_], _ :: _ :: _, h => simp [chkE] at h
    | _ => simp [chkE] at h
  | .cmp2 o o2 a b d, ex, X, c, W, K, h => by
    cases ex with
    | Compare l os rs p =>
      match os, rs, h with
      | [p1, p2], [r, q], h =>
        simp only [chkE, Bool.and_eq_true, decide_eq_true_eq, Bool.not_eq_true'] at h
        obtain ⟨⟨⟨⟨⟨h1, h2⟩, h3⟩, h4⟩, h5⟩, h6⟩ := h
        subst h1 h2
        exact ⟨r_cmp2 K.hu (sp_var K h3 (snd_E a l K h3).1) (sp_var K h4 (snd_E b _ K h4).1) (sp_var K h5 (snd_E d _ K h5).1) h6, f_nev, m_nev⟩
      | [], _, h => simp [chkE] at h
      | [_], _, h => simp [chkE] at h
      | _ :: _ :: _ :: _, _, h => simp [chkE] at h
      | [_, _], [], h => simp [chkE] at h
      | [_, _], [_], h => simp [chkE] at h
      | [_, _], _ :: _ :: _ :: _, h => simp [chkE] at h
    | _ => simp [chkE] at h
  | .bop o es, ex, X, c, W, K, h => by
    cases ex with
    | BoolOp o' xs p =>
      simp only [chkE, Bool.and_eq_true, decide_eq_true_eq] at h
      obtain ⟨h1, h2⟩ := h
      subst h1
      exact ⟨snd_B es xs o p K h2, f_nev, m_nev⟩
    | _ => simp [chkE] at h
  | .not_ a, ex, X, c, W, K, h => by
    cases ex with
    | UnaryOp o x p =>
      cases o with
      | Not =>
        simp only [chkE] at h
        exact ⟨r_not (snd_E a x K h).1, f_nev, m_nev⟩
      | _ => simp [chkE] at h
    | _ => simp [chkE] at h
  | .neg a, ex, X, c, W, K, h => by
    cases ex with
    | UnaryOp o x p =>
      cases o with
      | USub =>
        simp only [chkE] at h
        exact ⟨r_neg (snd_E a x K h).1, f_nev, m_nev⟩
      | _ => simp [chkE] at h
    | _ => simp [chkE] at h
  | .ite t a b, ex, X, c, W, K, h => by
    cases ex with
    | IfExp tx x y p =>
      simp only [chkE, Bool.and_eq_true] at h
      obtain ⟨⟨h1, h2⟩, h3⟩ := h
      exact ⟨r_ite (snd_T t tx K h1) (snd_E a x K h2).1 (snd_E b y K h3).1, f_nev, m_nev⟩
    | _ => simp [chkE] at h
  | .tup es, ex, X, c, W, K, h => by
    cases ex with
    | Tuple xs k p =>
      simp only [chkE] at h
      exact ⟨r_tup (snd_Es es xs K h).1, f_nev, m_nev⟩
    | _ => simp [chkE] at h
  | .lst es, ex, X, c, W, K, h => by
    cases ex with
    | List xs p =>
      simp only [chkE] at h
      have := r_lst (pos := p) (snd_Es es xs K h).1
      exact ⟨se_of_sf this, this, m_nev⟩
    | _ => simp [chkE] at h
  | .new es, ex, X, c, W, K, h => by
    cases ex with
    | List xs p =>
      simp only [chkE] at h
      exact ⟨r_new (snd_Es es xs K h).1, f_nev, m_nev⟩
    | _ => simp [chkE] at h
  | .idx a b, ex, X, c, W, K, h => by
    cases ex with
    | Subscript x y p =>
      simp only [chkE, Bool.and_eq_true] at h
      obtain ⟨⟨h1, h2⟩, h3⟩ := h
      exact ⟨r_idx K.hu (sp_var K h1 (snd_E a x K h1).1) (snd_E b y K h2).1 (noSlice_plain h3), f_nev, m_nev⟩
    | _ => simp [chkE] at h
  | .sl a lo hi, ex, X, c, W, K, h => by
    cases ex with
    | Subscript x y p =>
      cases y with
      | Slice l u st p2 =>
        cases st with
        | none =>
          simp only [chkE, Bool.and_eq_true] at h
          obtain ⟨⟨h1, h2⟩, h3⟩ := h
          exact ⟨r_sl (sp_var K h1 (snd_E a x K h1).1) (snd_O h2 fun z e hz => (snd_E lo z K hz).1) (snd_O h3 fun z e hz => (snd_E hi z K hz).1), f_nev, m_nev⟩
        | some _ => simp [chkE] at h
      | _ => simp [chkE] at h
    | _ => simp [chkE] at h
  | .slL a lo hi, ex, X, c, W, K, h => by
    cases ex with
    | Subscript x y p =>
      cases y with
      | Slice l u st p2 =>
        cases st with
        | none =>
          simp only [chkE, Bool.and_eq_true] at h
          obtain ⟨⟨h1, h2⟩, h3⟩ := h
          have := r_slL (pos := p) (p2 := p2) (sp_var K h1 (snd_E a x K h1).1) (snd_O h2 fun z e hz => (snd_E lo z K hz).1) (snd_O h3 fun z e hz => (snd_E hi z K hz).1)
          exact ⟨se_of_sf this, this, m_nev⟩
        | some _ => simp [chkE] at h
      | _ => simp [chkE] at h
    | _ => simp [chkE] at h
  | .nil, ex, X, c, W, K, h => by cases ex <;> simp [chkE] at h
  | .nev, ex, X, c, W, K, h => ⟨e_nev, f_nev, m_nev⟩
  | .call x es ks kes, ex, X, c, W, K, h => by
    cases ex with
    | Call fx xs kws p =>
      cases fx with
      | Name y p2 =>
        simp only [chkE, Bool.and_eq_true, decide_eq_true_eq] at h
        obtain ⟨⟨⟨⟨⟨⟨h1, h2⟩, h02⟩, h3⟩, h4⟩, h5⟩, h6⟩ := h
        subst h1
        obtain ⟨g1, g2, f, g3, g4⟩ := K.fun_ h2
        have hC := K.calls.r
        cases xs with
        | nil =>
          simp only [Bool.and_eq_true, List.isEmpty_iff] at h4
          obtain ⟨k1, k2⟩ := h4
          subst k1 k2
          cases es with
          | nil =>
            cases kes with
            | nil => exact ⟨r_call0 g1 g3 g4 h02 hC g2, f_nev, m_nev⟩
            | cons _ _ => simp [chkKs] at h6
          | cons _ _ => simp [chkEs] at h3
        | cons x1 xs =>
          have hn : ∀ e ∈ x1 :: xs, ∀ x p, e ≠ .Starred x p := fun e he => noStar_ne (chkEs_stars h3 e he)
          exact ⟨r_callK g1 g3 g4 h02 hC g2 hn (snd_Es es _ K h3).1 h5 (snd_Ks kes kws K h6) fun ρ S l ρ' S' e => (evEs_len kes ρ S l ρ' S' e kws h6).trans (arr_len h5), f_nev, m_nev⟩
      | _ => simp [chkE] at h
    | _ => simp [chkE] at h
  | .callv i es, ex, X, c, W, K, h => by
    cases ex with
    | Call fx xs kws p =>
      cases fx with
      | Name y p2 =>
        cases kws with
        | nil =>
          simp only [chkE, Bool.and_eq_true] at h
          obtain ⟨⟨⟨⟨h1, h2⟩, h3⟩, h4⟩, hc⟩ := h
          obtain ⟨x1, xs', e1⟩ := nonempty_cons h4
          subst e1
          obtain ⟨v1, v2, v3⟩ := K.vis h2
          have hn : ∀ e ∈ x1 :: xs', ∀ x p, e ≠ .Starred x p := fun e he => noStar_ne (chkEs_stars h3 e he)
          exact ⟨r_callv (K.slot h1) v1 v2 v3 (fun x => by unfold okB; rw [hc]; rfl) K.calls.r (K.calls.c hc) hn (snd_Es es _ K h3).1, f_nev, m_nev⟩
        | cons _ _ => simp [chkE] at h
      | _ => simp [chkE] at h
    | _ => simp [chkE] at h
  | .bl b es, ex, X, c, W, K, h => by
    cases ex with
    | Call fx xs kws p =>
      cases fx with
      | Name y p2 =>
        cases kws with
        | nil =>
          simp only [chkE, Bool.and_eq_true, decide_eq_true_eq] at h
          obtain ⟨⟨⟨⟨h1, h2⟩, h3⟩, h4⟩, hc⟩ := h
          obtain ⟨x1, xs', e1⟩ := nonempty_cons h4
          subst e1 h1
          obtain ⟨g1, g2⟩ := K.bltn h2
          have hn : ∀ e ∈ x1 :: xs', ∀ x p, e ≠ .Starred x p := fun e he => noStar_ne (chkEs_stars h3 e he)
          by_cases hr : b = .repr
          · subst hr
            have hc : c.own = true := hc
            exact ⟨r_repr K.sysK (K.fr hc).2.2.2 K.hu g1 g2 hn (snd_Es es _ K h3).2.1, f_nev, m_nev⟩
          · have hc : c.calm = true := by cases b <;> first | exact hc | exact absurd rfl hr
            exact ⟨r_bl (K.calm hc).1 K.hu hr g1 g2 hn (snd_Es es _ K h3).2.1, f_nev, m_nev⟩
        | cons _ _ => simp [chkE] at h
      | _ => simp [chkE] at h
    | _ => simp [chkE] at h
  | .fl b es, ex, X, c, W, K, h => by
    cases b with
    | sorted =>
      cases ex with
      | Call fx xs kws p =>
        cases fx with
        | Name y p2 =>
          cases kws with
          | nil =>
            simp only [chkE, Bool.and_eq_true, decide_eq_true_eq] at h
            obtain ⟨⟨⟨h1, h2⟩, h3⟩, h4⟩ := h
            obtain ⟨x1, xs', e1⟩ := nonempty_cons h4
            subst e1 h1
            obtain ⟨g1, g2⟩ := K.bltn h2
            have hn : ∀ e ∈ x1 :: xs', ∀ x p, e ≠ .Starred x p := fun e he => noStar_ne (chkEs_stars h3 e he)
            have := r_sorted (pos := p) (p := p2) g1 g2 hn (snd_Es es _ K h3).2.1
            exact ⟨se_of_sf this, this, m_nev⟩
          | cons _ _ => simp [chkE] at h
        | _ => simp [chkE] at h
      | _ => simp [chkE] at h
    | list =>
    cases ex with
    | Call fx xs kws p =>
      cases fx with
      | Name y p2 =>
        cases kws with
        | nil =>
          simp only [chkE, Bool.and_eq_true, decide_eq_true_eq] at h
          obtain ⟨⟨⟨⟨h1, h2⟩, h3⟩, h4⟩, hc⟩ := h
          obtain ⟨x1, xs', e1⟩ := nonempty_cons h4
          subst e1 h1
          obtain ⟨g1, g2⟩ := K.bltn h2
          have hn : ∀ e ∈ x1 :: xs', ∀ x p, e ≠ .Starred x p := fun e he => noStar_ne (chkEs_stars h3 e he)
          have := r_list (pos := p) (p := p2) (K.calm hc).1 g1 g2 hn (snd_Es es _ K h3).2.1
          exact ⟨se_of_sf this, this, m_nev⟩
        | cons _ _ => simp [chkE] at h
      | _ => simp [chkE] at h
    | _ => simp [chkE] at h
  | .isi a ts, ex, X, c, W, K, h => by
    cases ex with
    | Call fx xs kws p =>
      cases fx with
      | Name y p2 =>
        cases kws with
        | nil =>
          match xs, h with
          | [], h => simp [chkE] at h
          | [_], h => simp [chkE] at h
          | _ :: _ :: _ :: _, h => simp [chkE] at h
          | [x, z0], h =>
          cases z0 with
          | Name z p3 =>
            simp only [chkE, Bool.and_eq_true, decide_eq_true_eq] at h
            obtain ⟨⟨⟨⟨⟨h1, h2⟩, h3⟩, h4⟩, h5⟩, h6⟩ := h
            subst h1
            obtain ⟨g1, g2⟩ := K.bltn h2
            obtain ⟨g3, g4⟩ := K.bltn h3
            match ts, h6 with
            | [t], h6 =>
              obtain ⟨u, e1, e2⟩ := isi_name (of_decide_eq_true h6)
              subst e2
              exact ⟨r_isi g1 g2 e1 g3 g4 (noStar_ne h5) (sp_var K h4 (snd_E a x K h4).1), f_nev, m_nev⟩
            | [], h6 => cases h6
            | _ :: _ :: _, h6 => cases h6
          | Tuple zs k p3 =>
            simp only [chkE, Bool.and_eq_true, decide_eq_true_eq] at h
            obtain ⟨⟨⟨⟨⟨⟨⟨h1, h2⟩, h3⟩, h4⟩, h5⟩, h6⟩, h7⟩, h8⟩ := h
            subst h1
            obtain ⟨g1, g2⟩ := K.bltn h2
            obtain ⟨t, ts', e1⟩ := nonempty_cons h5
            subst e1
            obtain ⟨us, u1, u2, u3, u4⟩ := tys_names h7
            exact ⟨r_isiT g1 g2 u1 (u4 K h8) (by rw [u3]; exact h6) (noStar_ne h4) (sp_var K h3 (snd_E a x K h3).1), f_nev, m_nev⟩
          | _ => simp [chkE] at h
        | cons _ _ => simp [chkE] at h
      | _ => simp [chkE] at h
    | _ => simp [chkE] at h
  | .mt m o es, ex, X, c, W, K, h => by
    cases ex with
    | Call fx xs kws p =>
      cases fx with
      | Attribute ox y ap =>
        cases kws with
        | nil =>
          simp only [chkE, Bool.and_eq_true, decide_eq_true_eq] at h
          obtain ⟨⟨⟨⟨⟨⟨h1, h2⟩, h3⟩, h4⟩, h5⟩, h6⟩, h7⟩ := h
          obtain ⟨x1, xs', e1⟩ := nonempty_cons h5
          subst e1 h1
          have hn : ∀ e ∈ x1 :: xs', ∀ x p, e ≠ .Starred x p := fun e he => noStar_ne (chkEs_stars h4 e he)
          exact ⟨r_mt hn (by simp only [List.length_cons] at h6; omega) (noCall_ne h3) h7 (snd_E o ox K h2).1 (snd_Es es _ K h4).2.1, f_nev, m_nev⟩
        | cons _ _ => simp [chkE] at h
      | _ => simp [chkE] at h
    | _ => simp [chkE] at h
  | .mtF m o es, ex, X, c, W, K, h => by
    cases ex with
    | Call fx xs kws p =>
      cases fx with
      | Attribute ox y ap =>
        cases kws with
        | nil =>
          simp only [chkE, Bool.and_eq_true, decide_eq_true_eq] at h
          obtain ⟨⟨⟨⟨⟨⟨h1, h2⟩, h3⟩, h4⟩, h5⟩, h6⟩, h7⟩ := h
          obtain ⟨x1, xs', e1⟩ := nonempty_cons h5
          subst e1 h1
          have hn : ∀ e ∈ x1 :: xs', ∀ x p, e ≠ .Starred x p := fun e he => noStar_ne (chkEs_stars h4 e he)
          have := r_mtF (pos := p) (m := m) (apos := ap) hn (by simp only [List.length_cons] at h6; omega) (noCall_ne h3) h7 (snd_E o ox K h2).1 (snd_Es es _ K h4).2.1
          exact ⟨se_of_sf this, this, m_nev⟩
        | cons _ _ => simp [chkE] at h
      | _ => simp [chkE] at h
    | _ => simp [chkE] at h
  | .lc cm, ex, X, c, W, K, h => by
    cases ex with
    | ListComp elt gs scope p =>
      have h' : (chkCl c cm elt gs scope && c.calm) = true := by simpa only [chkE] using h
      rw [Bool.and_eq_true] at h'
      have := (snd_Cl cm elt gs scope h'.2 K h'.1).1 p
      exact ⟨se_of_sf this, this, m_nev⟩
    | _ => simp [chkE] at h
  | .fs es, ex, X, c, W, K, h => by
    cases ex with
    | JoinedStr xs p =>
      simp only [chkE, Bool.and_eq_true, decide_eq_true_eq] at h
      match xs, h with
      | x1 :: x2 :: xs, h => exact ⟨r_fs (snd_Es es _ K h.1).2.2, f_nev, m_nev⟩
      | [], h => exact absurd h.2 (by simp)
      | [_], h => exact absurd h.2 (by simp)
    | _ => simp [chkE] at h
  | .fmt e, ex, X, c, W, K, h => by
    cases ex with
    | FormattedValue x k f p =>
      cases f with
      | none =>
        simp only [chkE, Bool.and_eq_true, decide_eq_true_eq] at h
        obtain ⟨h1, h2⟩ := h
        subst h1
        exact ⟨r_fmt (snd_E e x K h2).1, f_nev, m_nev⟩
      | some _ => simp [chkE] at h
    | _ => simp [chkE] at h
  | .calla x as, ex, X, c, W, K, h => by
    cases ex with
    | Call fx xs kws p =>
      cases fx with
      | Name y p2 =>
        cases kws with
        | nil =>
          simp only [chkE, Bool.and_eq_true, decide_eq_true_eq] at h
          obtain ⟨⟨⟨⟨h1, h2⟩, h02⟩, h3⟩, h4⟩ := h
          subst h1
          obtain ⟨g1, g2, f, g3, g4⟩ := K.fun_ h2
          obtain ⟨x1, xs', e1⟩ := nonempty_cons h4
          subst e1
          obtain ⟨r1, r2, r3⟩ := snd_As as _ K h3
          exact ⟨r_calla g1 g3 g4 h02 K.calls.a g2 r3 r2 r1, f_nev, m_nev⟩
        | cons _ _ => simp [chkE] at h
      | _ => simp [chkE] at h
    | _ => simp [chkE] at h
  | .dlit t kvs, ex, X, c, W, K, h => by
    cases ex with
    | Dict keys values p =>
      simp only [chkE, Bool.and_eq_true, decide_eq_true_eq] at h
      obtain ⟨⟨⟨⟨h1, h2⟩, h3⟩, h4⟩, h5⟩ := h
      have hk := snd_KV kvs keys values p K h1
      have hl : ∀ ρ S l ρ' S', evEs cl sub kvs ρ S = .ok l ρ' S' → l.length = 2 * keys.length := fun ρ S l ρ' S' e => (evEs_nkv kvs ρ S l ρ' S' e).trans h4
      have : SM T W X (.Dict keys values p) (fDlit t (evEs cl sub kvs)) := by
        cases keys with
        | nil =>
          cases values with
          | cons _ _ => cases h3
          | nil =>
            cases kvs with
            | nil => exact r_dnew
            | cons _ _ => exact absurd h4 (by simp [nkv])
        | cons k0 kr =>
          have h5 : (if t = true then decide ((k0 :: kr).length = 1) else decide ((k0 :: kr).length ≤ 15)) = true := h5
          cases t with
          | true =>
            have h6 : (k0 :: kr).length = 1 := of_decide_eq_true h5
            exact r_dlitT K.hu hk h2 h3 h6 fun ρ S l ρ' S' e => by rw [hl ρ S l ρ' S' e, h6]
          | false =>
            have h6 : (k0 :: kr).length ≤ 15 := of_decide_eq_true h5
            exact r_dlitK hk h2 h3 (by simp) h6 fun ρ S l ρ' S' e => by rw [hl ρ S l ρ' S' e]; omega
      exact ⟨se_of_sm this, f_nev, this⟩
    | _ => simp [chkE] at h
  | .lm m o es, ex, X, c, W, K, h => by
    cases ex with
    | Call fx xs kws p =>
      cases fx with
      | Attribute ox y ap =>
        cases kws with
        | nil =>
          simp only [chkE, Bool.and_eq_true, decide_eq_true_eq] at h
          obtain ⟨⟨⟨⟨⟨⟨h1, h2⟩, h3⟩, h4⟩, h5⟩, h6⟩, h7⟩ := h
          obtain ⟨x1, xs', e1⟩ := nonempty_cons h5
          subst e1 h1
          have hn : ∀ e ∈ x1 :: xs', ∀ x p, e ≠ .Starred x p := fun e he => noStar_ne (chkEs_stars h4 e he)
          exact ⟨r_lm K.hu hn (by simp only [List.length_cons] at h6; omega) (noCall_ne h3) h7 (sp_var K h2 (snd_E o ox K h2).1) (snd_Es es _ K h4).2.1, f_nev, m_nev⟩
        | cons _ _ => simp [chkE] at h
      | _ => simp [chkE] at h
    | _ => simp [chkE] at h
  | .isx i cs, ex, X, c, W, K, h => by
    cases ex with
    | Call fx xs kws p =>
      cases fx with
      | Name y p2 =>
        cases kws with
        | nil =>
          match xs, h with
          | [], h => simp [chkE] at h
          | [_], h => simp [chkE] at h
          | _ :: _ :: _ :: _, h => simp [chkE] at h
          | [x0, z0], h =>
          cases x0 with
          | Name v p4 =>
            cases z0 with
            | Name z p3 =>
              simp only [chkE, Bool.and_eq_true, decide_eq_true_eq] at h
              obtain ⟨⟨⟨⟨⟨h1, h2⟩, h3⟩, h4⟩, h5⟩, h6⟩ := h
              subst h1 h5
              obtain ⟨g1, g2⟩ := K.bltn h2
              obtain ⟨v1, v2, v3⟩ := K.vis h4
              obtain ⟨w, e1, e2⟩ := K.cl_ (p := p3) h6
              exact ⟨r_isx g1 g2 K.exnAt K.subK (K.slot h3) v1 v2 v3 e1 e2, f_nev, m_nev⟩
            | Tuple zs k p3 =>
              simp only [chkE, Bool.and_eq_true, decide_eq_true_eq] at h
              obtain ⟨⟨⟨⟨⟨⟨h1, h2⟩, h3⟩, h4⟩, h5⟩, h6⟩, h7⟩ := h
              subst h1
              obtain ⟨g1, g2⟩ := K.bltn h2
              obtain ⟨v1, v2, v3⟩ := K.vis h4
              obtain ⟨x1, cs', e1⟩ := nonempty_cons h5
              subst e1
              obtain ⟨vs, e2, e3⟩ := cls_names K h7
              exact ⟨r_isxT g1 g2 K.exnAt K.subK (K.slot h3) v1 v2 v3 e2 (by rw [e3]; exact h6), f_nev, m_nev⟩
            | _ => simp [chkE] at h
          | _ => simp [chkE] at h
        | cons _ _ => simp [chkE] at h
      | _ => simp [chkE] at h
    | _ => simp [chkE] at h
  | .dc _ _ _ _, ex, X, c, W, K, h => by cases ex <;> simp [chkE] at h
  | .rngT _, ex, X, c, W, K, h => by cases ex <;> simp [chkE] at h
  | .rngL _, ex, X, c, W, K, h => by cases ex <;> simp [chkE] at h
  | .fld _ _, ex, X, c, W, K, h => by cases ex <;> simp [chkE] at h
  | .meth _ _ _ _ _ _, ex, X, c, W, K, h => by cases ex <;> simp [chkE] at h
  | .mk _ _ _ _, ex, X, c, W, K, h => by cases ex <;> simp [chkE] at h
  | .isc _ _, ex, X, c, W, K, h => by cases ex <;> simp [chkE] at h
termination_by structural x => x
theorem snd_As : ∀ (as : As) (xs : List Expr) {X : Cx} {c : Cz} {W : WX}, Gk T X c W cl sub → chkAs c as xs = true → SPs T W X xs (evAs cl sub as) ∧ AsI X T as ∧ ∀ e ∈ xs, ∀ x p, e ≠ .Starred x p
  | .nil, [], X, c, W, K, h => ⟨ps_nil, trivial, fun e he => by cases he⟩
  | .nil, _ :: _, X, c, W, K, h => by simp [chkAs] at h
  | .v _ _, [], X, c, W, K, h => by simp [chkAs] at h
  | .lend _ _, [], X, c, W, K, h => by simp [chkAs] at h
  | .clo _ _ _ _, [], X, c, W, K, h => by simp [chkAs] at h
  | .exn _ _, [], X, c, W, K, h => by simp [chkAs] at h
  | .v e r, x :: xs, X, c, W, K, h => by
    simp only [chkAs, Bool.and_eq_true] at h
    obtain ⟨⟨h1, h2⟩, h3⟩ := h
    obtain ⟨r1, r2, r3⟩ := snd_As r xs K h3
    have he := (snd_E e x K h1).1
    refine ⟨?_, r2, fun z hz => ?_⟩
    · have := ps_cons' (sp_of_se he) r1 (starCons (noStar_ne h2))
      rw [mbind_assoc] at this
      exact this
    · rcases List.mem_cons.mp hz with hz | hz
      · subst hz; exact noStar_ne h2
      · exact r3 z hz
  | .lend i r, x :: xs, X, c, W, K, h => by
    cases x with
    | Name y p =>
      simp only [chkAs, Bool.and_eq_true] at h
      obtain ⟨⟨h1, h2⟩, h3⟩ := h
      obtain ⟨r1, r2, r3⟩ := snd_As r xs K h3
      obtain ⟨v1, v2, v3⟩ := K.vis h2
      refine ⟨ps_cons' (sp_peekS (K.slot h1) v1 v2 v3) r1 rfl, r2, fun z hz => ?_⟩
      rcases List.mem_cons.mp hz with hz | hz
      · subst hz; exact fun _ _ z => nomatch z
      · exact r3 z hz
    | _ => simp [chkAs] at h
  | .exn i r, x :: xs, X, c, W, K, h => by
    cases x with
    | Name y p =>
      simp only [chkAs, Bool.and_eq_true] at h
      obtain ⟨⟨h1, h2⟩, h3⟩ := h
      obtain ⟨r1, r2, r3⟩ := snd_As r xs K h3
      obtain ⟨v1, v2, v3⟩ := K.vis h2
      refine ⟨ps_cons' (sp_peekS (K.slot h1) v1 v2 v3) r1 rfl, r2, fun z hz => ?_⟩
      rcases List.mem_cons.mp hz with hz | hz
      · subst hz; exact fun _ _ z => nomatch z
      · exact r3 z hz
    | _ => simp [chkAs] at h
  | .clo i k js r, x :: xs, X, c, W, K, h => by
    cases x with
    | Name y p =>
      simp only [chkAs, Bool.and_eq_true] at h
      obtain ⟨⟨⟨h1, h2⟩, h4⟩, h3⟩ := h
      obtain ⟨r1, r2, r3⟩ := snd_As r xs K h3
      obtain ⟨v1, v2, v3⟩ := K.vis h2
      refine ⟨ps_cons' (sp_peekS (K.slot h1) v1 v2 v3) r1 rfl, ⟨clo_i K h4, r2⟩, fun z hz => ?_⟩
      rcases List.mem_cons.mp hz with hz | hz
      · subst hz; exact fun _ _ z => nomatch z
      · exact r3 z hz
    | _ => simp [chkAs] at h
termination_by structural x => x
theorem snd_KV : ∀ (kvs : Es) (keys : List (Option Expr)) (values : List Expr) (pos : Pos) {X : Cx} {c : Cz} {W : WX}, Gk T X c W cl sub → chkKV c kvs keys values = true → SKV T W X pos keys values (evEs cl sub kvs)
  | .nil, [], [], pos, X, c, W, K, h => kv_nil
  | .cons k (.cons v r), some a :: keys, b :: values, pos, X, c, W, K, h => by
    simp only [chkKV, Bool.and_eq_true] at h
    obtain ⟨⟨h1, h2⟩, h3⟩ := h
    exact kv_cons (snd_E k a K h1).1 (snd_E v b K h2).1 (snd_KV r keys values pos K h3)
  | .nil, _ :: _, _, pos, X, c, W, K, h => by simp [chkKV] at h
  | .nil, [], _ :: _, pos, X, c, W, K, h => by simp [chkKV] at h
  | .cons _ .nil, _, _, pos, X, c, W, K, h => by simp [chkKV] at h
  | .cons _ (.cons _ _), [], _, pos, X, c, W, K, h => by simp [chkKV] at h
  | .cons _ (.cons _ _), none :: _, _, pos, X, c, W, K, h => by simp [chkKV] at h
  | .cons _ (.cons _ _), some _ :: _, [], pos, X, c, W, K, h => by simp [chkKV] at h
termination_by structural x => x
theorem snd_B : ∀ (es : Es) (xs : List Expr) (o : BoolOp) (pos : Pos) {X : Cx} {c : Cz} {W : WX}, Gk T X c W cl sub → chkB c es xs = true → SE T W X (.BoolOp o xs pos) (evB cl sub o es)
  | .nil, xs, o, pos, X, c, W, K, h => by simp [chkB] at h
  | .cons e .nil, [x], o, pos, X, c, W, K, h => by
    simp only [chkB] at h
    have := r_one (T := T) (W := W) (o := o) (pos := pos) (snd_E e x K h).1
    cases o <;> exact this
  | .cons e .nil, [], o, pos, X, c, W, K, h => by simp [chkB] at h
  | .cons e .nil, x :: y :: xs, o, pos, X, c, W, K, h => by simp [chkB] at h
  | .cons e (.cons e2 es), [], o, pos, X, c, W, K, h => by simp [chkB] at h
  | .cons e (.cons e2 es), [x], o, pos, X, c, W, K, h => by simp [chkB] at h
  | .cons e (.cons e2 es), x :: y :: xs, o, pos, X, c, W, K, h => by
    have h' : (chkE c e x && chkB c (.cons e2 es) (y :: xs)) = true := h
    rw [Bool.and_eq_true] at h'
    have h1 := (snd_E e x K h'.1).1
    have h2 := snd_B (.cons e2 es) (y :: xs) o pos K h'.2
    cases o with
    | And => exact r_and h1 h2
    | Or => exact r_or h1 h2
termination_by structural x => x
theorem snd_Es : ∀ (es : Es) (xs : List Expr) {X : Cx} {c : Cz} {W : WX}, Gk T X c W cl sub → chkEs c es xs = true → SA T W X xs (evEs cl sub es) ∧ SPs T W X xs (evPs cl sub es) ∧ SJ T W X xs (evJ cl sub es)
  | .nil, [], X, c, W, K, h => ⟨a_nil, ps_nil, .nil⟩
  | .nil, _ :: _, X, c, W, K, h => by simp [chkEs] at h
  | .cons _ _, [], X, c, W, K, h => by simp [chkEs] at h
  | .cons e es, x :: xs, X, c, W, K, h => by
    simp only [chkEs, Bool.and_eq_true] at h
    obtain ⟨⟨h1, h2⟩, h3⟩ := h
    obtain ⟨r1, r2, r3⟩ := snd_Es es xs K h3
    have he := (snd_E e x K h1).1
    exact ⟨a_cons he r1 (starCons (noStar_ne h2)), ps_cons' (sp_var K h1 he) r2 (starCons (noStar_ne h2)), .cons he r3⟩
termination_by structural x => x
theorem snd_Ks : ∀ (es : Es) (xs : List Keyword) {X : Cx} {c : Cz} {W : WX}, Gk T X c W cl sub → chkKs c es xs = true → SK T W X xs (evEs cl sub es)
  | .nil, [], X, c, W, K, h => k_nil
  | .nil, _ :: _, X, c, W, K, h => by simp [chkKs] at h
  | .cons _ _, [], X, c, W, K, h => by simp [chkKs] at h
  | .cons e es, ⟨n, x, p⟩ :: xs, X, c, W, K, h => by
    simp only [chkKs, Bool.and_eq_true] at h
    exact k_cons (snd_E e x K h.1).1 (snd_Ks es xs K h.2)
termination_by structural x => x
theorem snd_T : ∀ (t : MP.T) (ex : Expr) {X : Cx} {c : Cz} {W : WX}, Gk T X c W cl sub → chkT c t ex = true → SB T W X ex (evT cl sub t)
  | .v e, ex, X, c, W, K, h => by
    have h' : (plainT ex && chkE c e ex) = true := by simpa only [chkT] using h
    rw [Bool.and_eq_true] at h'
    exact t_val (sp_var K h'.2 (snd_E e ex K h'.2).1) (plainT_true h'.1 X.env)
  | .cmp o a b, ex, X, c, W, K, h => by
    cases ex with
    | Compare l os rs p =>
      match os, rs, h with
      | [o'], [r], h =>
        simp only [chkT, Bool.and_eq_true, decide_eq_true_eq, Bool.not_eq_true'] at h
        obtain ⟨⟨⟨h1, h2⟩, h3⟩, h4⟩ := h
        subst h1
        exact t_cmp K.hu (sp_var K h2 (snd_E a l K h2).1) (sp_var K h3 (snd_E b _ K h3).1) h4
      | [], _, h => simp [chkT] at h
      | _ :: _ :: _, _, h => simp [chkT] at h
      | [_], [], h => simp [chkT] at h
      | [_], _ :: _ :: _, h => simp [chkT] at h
    | _ => simp [chkT] at h
  | .cmp2 o o2 a b d, ex, X, c, W, K, h => by
    cases ex with
    | Compare l os rs p =>
      match os, rs, h with
      | [p1, p2], [r, q], h =>
        simp only [chkT, Bool.and_eq_true, decide_eq_true_eq, Bool.not_eq_true'] at h
        obtain ⟨⟨⟨⟨⟨h1, h2⟩, h3⟩, h4⟩, h5⟩, h6⟩ := h
        subst h1 h2
        exact t_cmp2 K.hu (sp_var K h3 (snd_E a l K h3).1) (sp_var K h4 (snd_E b _ K h4).1) (sp_var K h5 (snd_E d _ K h5).1) h6
      | [], _, h => simp [chkT] at h
      | [_], _, h => simp [chkT] at h
      | _ :: _ :: _ :: _, _, h => simp [chkT] at h
      | [_, _], [], h => simp [chkT] at h
      | [_, _], [_], h => simp [chkT] at h
      | [_, _], _ :: _ :: _ :: _, h => simp [chkT] at h
    | _ => simp [chkT] at h
  | .not_ t, ex, X, c, W, K, h => by
    cases ex with
    | UnaryOp o x p =>
      cases o with
      | Not =>
        simp only [chkT] at h
        exact t_not (snd_T t x K h)
      | _ => simp [chkT] at h
    | _ => simp [chkT] at h
  | .bop o ts, ex, X, c, W, K, h => by
    cases ex with
    | BoolOp o' xs p =>
      simp only [chkT, Bool.and_eq_true, decide_eq_true_eq] at h
      obtain ⟨h1, h2⟩ := h
      subst h1
      exact (snd_Ts ts xs o p K h2).pt
    | _ => simp [chkT] at h
termination_by structural x => x
theorem snd_Ts : ∀ (ts : Ts) (xs : List Expr) (o : BoolOp) (pos : Pos) {X : Cx} {c : Cz} {W : WX}, Gk T X c W cl sub → chkTs c ts xs = true → SW T W X (.BoolOp o xs pos) (evTs cl sub o ts)
  | .nil, xs, o, pos, X, c, W, K, h => by simp [chkTs] at h
  | .cons t .nil, [x], o, pos, X, c, W, K, h => by
    have h' : chkT c t x = true := by simpa only [chkTs] using h
    cases o with
    | And => exact w_and1 (snd_T t x K h')
    | Or => exact w_or1 (snd_T t x K h')
  | .cons t .nil, [], o, pos, X, c, W, K, h => by simp [chkTs] at h
  | .cons t .nil, x :: y :: xs, o, pos, X, c, W, K, h => by simp [chkTs] at h
  | .cons t (.cons t2 ts), [], o, pos, X, c, W, K, h => by simp [chkTs] at h
  | .cons t (.cons t2 ts), [x], o, pos, X, c, W, K, h => by simp [chkTs] at h
  | .cons t (.cons t2 ts), x :: y :: xs, o, pos, X, c, W, K, h => by
    have h' : (chkT c t x && chkTs c (.cons t2 ts) (y :: xs)) = true := h
    rw [Bool.and_eq_true] at h'
    have h1 := snd_T t x K h'.1
    have h2 := snd_Ts (.cons t2 ts) (y :: xs) o pos K h'.2
    cases o with
    | And => exact w_and h1 h2
    | Or => exact w_or h1 h2
termination_by structural x => x
theorem snd_Ifs : ∀ (ts : Ts) (xs : List Expr) {X : Cx} {c : Cz}, Gk T X c WF cl sub → chkIfs c ts xs = true → STs T X xs (evTs cl sub .And ts)
  | .nil, [], X, c, K, h => sts_nil
  | .nil, _ :: _, X, c, K, h => by simp [chkIfs] at h
  | .cons t .nil, [x], X, c, K, h => by
    have h' : chkT c t x = true := by simpa only [chkIfs] using h
    exact sts_one (snd_T t x K h')
  | .cons t .nil, [], X, c, K, h => by simp [chkIfs] at h
  | .cons t .nil, _ :: _ :: _, X, c, K, h => by simp [chkIfs] at h
  | .cons t (.cons t2 ts), _, X, c, K, h => by simp [chkIfs] at h
termination_by structural x => x
theorem snd_I : ∀ (it : It) (k : Bool) (tg ex : Expr) {X : Cx} {c : Cz} {W : WX}, Gk T X c W cl sub → chkI c it tg ex = true → SI T W X tg ex (evI cl sub k it)
  | .items e, k, tg, ex, X, c, W, K, h => by simp [chkI] at h
  | .val e, k, tg, ex, X, c, W, K, h => by
    have h' : (chkE c e ex && noSet ex) = true := by simpa only [chkI] using h
    rw [Bool.and_eq_true] at h'
    have he := (snd_E e ex K h'.1).1
    cases k with
    | true => exact i_val (sp_of_se he)
    | false => exact i_val (sp_var K h'.1 he)
  | .rng1 a, k, tg, ex, X, c, W, K, h => by
    cases ex with
    | Call f xs kws p2 =>
      cases f with
      | Name y p =>
        match xs, kws, h with
        | [x], [], h =>
          simp only [chkI, Bool.and_eq_true, decide_eq_true_eq] at h
          obtain ⟨⟨⟨h1, h2⟩, h3⟩, h4⟩ := h
          subst h1
          obtain ⟨g1, g2⟩ := K.bltn h2
          exact i_rng1 g1 g2 (noStar_ne h4) (snd_E a x K h3).1
        | [], _, h => simp [chkI] at h
        | [_], _ :: _, h => simp [chkI] at h
        | _ :: _ :: _, _, h => simp [chkI] at h
      | _ => simp [chkI] at h
    | _ => simp [chkI] at h
  | .rng2 a b, k, tg, ex, X, c, W, K, h => by
    cases ex with
    | Call f xs kws p2 =>
      cases f with
      | Name y p =>
        match xs, kws, h with
        | [x, z], [], h =>
          simp only [chkI, Bool.and_eq_true, decide_eq_true_eq] at h
          obtain ⟨⟨⟨⟨⟨h1, h2⟩, h3⟩, h4⟩, h5⟩, h6⟩ := h
          subst h1
          obtain ⟨g1, g2⟩ := K.bltn h2
          exact i_rng2 g1 g2 (noStar_ne h5) (noStar_ne h6) (snd_E a x K h3).1 (snd_E b z K h4).1
        | [], _, h => simp [chkI] at h
        | [_], _, h => simp [chkI] at h
        | [_, _], _ :: _, h => simp [chkI] at h
        | _ :: _ :: _ :: _, _, h => simp [chkI] at h
      | _ => simp [chkI] at h
    | _ => simp [chkI] at h
  | .rng3 a b d, k, tg, ex, X, c, W, K, h => by
    cases ex with
    | Call f xs kws p2 =>
      cases f with
      | Name y p =>
        match xs, kws, h with
        | [x, z, u], [], h =>
          simp only [chkI, Bool.and_eq_true, decide_eq_true_eq] at h
          obtain ⟨⟨⟨⟨⟨⟨⟨h1, h2⟩, h3⟩, h4⟩, h5⟩, h6⟩, h7⟩, h8⟩ := h
          subst h1
          obtain ⟨g1, g2⟩ := K.bltn h2
          exact i_rng3 g1 g2 (noStar_ne h6) (noStar_ne h7) (noStar_ne h8) (snd_E a x K h3).1 (snd_E b z K h4).1 (snd_E d u K h5).1
        | [], _, h => simp [chkI] at h
        | [_], _, h => simp [chkI] at h
        | [_, _], _, h => simp [chkI] at h
        | [_, _, _], _ :: _, h => simp [chkI] at h
        | _ :: _ :: _ :: _ :: _, _, h => simp [chkI] at h
      | _ => simp [chkI] at h
    | _ => simp [chkI] at h
  | .enm a, k, tg, ex, X, c, W, K, h => by
    cases tg with
    | Tuple es kk tp =>
      cases ex with
      | Call f xs kws p2 =>
        cases f with
        | Name y p =>
          match xs, kws, h with
          | [x], [], h =>
            simp only [chkI, Bool.and_eq_true, decide_eq_true_eq] at h
            obtain ⟨⟨⟨h1, h2⟩, h3⟩, h4⟩ := h
            subst h1
            obtain ⟨g1, g2⟩ := K.bltn h2
            have he := (snd_E a x K h3).1
            cases k with
            | true => exact i_enm g1 g2 (noStar_ne h4) (sp_of_se he)
            | false => exact i_enm g1 g2 (noStar_ne h4) (sp_var K h3 he)
          | [], _, h => simp [chkI] at h
          | [_], _ :: _, h => simp [chkI] at h
          | _ :: _ :: _, _, h => simp [chkI] at h
        | _ => simp [chkI] at h
      | _ => simp [chkI] at h
    | _ => simp [chkI] at h
  | .zip a b, k, tg, ex, X, c, W, K, h => by
    cases tg with
    | Tuple es kk tp =>
      cases ex with
      | Call f xs kws p2 =>
        cases f with
        | Name y p =>
          match xs, kws, h with
          | [x, z], [], h =>
            simp only [chkI, Bool.and_eq_true, decide_eq_true_eq] at h
            obtain ⟨⟨⟨⟨⟨h1, h2⟩, h3⟩, h4⟩, h5⟩, h6⟩ := h
            subst h1
            obtain ⟨g1, g2⟩ := K.bltn h2
            have ha := (snd_E a x K h3).1
            have hb := (snd_E b z K h4).1
            cases k with
            | true => exact i_zip g1 g2 (noStar_ne h5) (noStar_ne h6) (sp_of_se ha) (sp_of_se hb)
            | false => exact i_zip g1 g2 (noStar_ne h5) (noStar_ne h6) (sp_var K h3 ha) (sp_var K h4 hb)
          | [], _, h => simp [chkI] at h
          | [_], _, h => simp [chkI] at h
          | [_, _], _ :: _, h => simp [chkI] at h
          | _ :: _ :: _ :: _, _, h => simp [chkI] at h
        | _ => simp [chkI] at h
      | _ => simp [chkI] at h
    | _ => simp [chkI] at h
termination_by structural x => x
theorem snd_Cl : ∀ (t : Cl) (elt : Expr) (gs : List Comprehension) (scope : Scope) {X : Cx} {c : Cz} {W : WX}, c.calm = true → Gk T X c W cl sub → chkCl c t elt gs scope = true → LcOk T W X cl sub t elt gs scope
  | .gen t own it cs (.fin e), elt, [⟨tg, iter, ifs, a⟩], scope, X, c, W, hc, K, h => by
    simp only [chkCl, Bool.and_eq_true, decide_eq_true_eq] at h
    obtain ⟨⟨⟨⟨⟨⟨⟨h0, h1⟩, h2⟩, h3⟩, h4⟩, h5⟩, h6⟩, h7⟩ := h
    subst h0
    have bk := lcFacts K h3
    have Kb := fun (s : Shared) (H : Hp) (C : Addr) (cls : List (Str × Addr)) (fp : List Addr) => K.blk (s := s) (H := H) (C := C) (cls := cls) (fp := fp) hc bk.kind
    have hix : ∀ i ∈ tgIx t, i ∈ (ownP c own).map (·.2) := by rw [ownP_ix]; exact subIx_sub h4
    have nd : X.N.Nodup := by rw [K.N]; exact K.nd
    have hi := snd_I it false tg iter K h1
    refine ⟨fun pos => ?_, fun i y py p2 pos y1 y2 y3 y4 => ?_⟩
    · have := r_lc (pos := pos) (K.calm hc).1 nd hi bk hix (fun s H C cls fp => snd_G t tg (Kb s H C cls fp) h5) (fun s H C cls fp => snd_Ifs cs ifs (Kb s H C cls fp) h6) (fun s H C cls fp => (snd_E e elt (Kb s H C cls fp) h7).1) (noSet_folded h2 X.env)
      rw [ownP_ix] at this
      exact this
    · have hk : X.env.scope.kind = .function := by rw [K.sc]; exact K.kind
      have := s_setLc (p2 := p2) (pos := pos) (K.calm hc).1 nd y1 y2 (sw_true hk y2 y3 y4) hi bk hix (fun s H C cls fp => snd_G t tg (Kb s H C cls fp) h5) (fun s H C cls fp => snd_Ifs cs ifs (Kb s H C cls fp) h6) (fun s H C cls fp => (snd_E e elt (Kb s H C cls fp) h7).1) (noSet_folded h2 X.env)
      rw [ownP_ix] at this
      exact this
  | .gen t own it cs (.gen t1 own1 it1 cs1 (.fin e)), elt, [⟨tg, iter, ifs, a⟩, ⟨tg1, iter1, ifs1, a1⟩], scope, X, c, W, hc, K, h => by
    simp only [chkCl, Bool.and_eq_true, decide_eq_true_eq] at h
    obtain ⟨⟨⟨⟨⟨⟨⟨⟨⟨⟨⟨⟨⟨⟨h0, h01⟩, h1⟩, h2⟩, h21⟩, h3⟩, h4⟩, h41⟩, h42⟩, h5⟩, h6⟩, h7⟩, h8⟩, h9⟩, h10⟩ := h
    subst h0 h01
    have bk := lcFacts K h3
    have Kb := fun (s : Shared) (H : Hp) (C : Addr) (cls : List (Str × Addr)) (fp : List Addr) => K.blk (s := s) (H := H) (C := C) (cls := cls) (fp := fp) hc bk.kind
    have hix : ∀ i ∈ tgIx t, i ∈ (ownP c own).map (·.2) := by rw [ownP_ix]; exact subIx_sub h4
    have hv : ∀ i ∈ own1, i ∈ (ownP c own).map (·.2) := by rw [ownP_ix]; exact subIx_sub h41
    have hix1 := subIx_sub h42
    have nd : X.N.Nodup := by rw [K.N]; exact K.nd
    have hi := snd_I it false tg iter K h1
    refine ⟨fun pos => ?_, fun i y py p2 pos y1 y2 y3 y4 => ?_⟩
    · have := r_lc2 (pos := pos) (K.calm hc).1 nd hi bk hv hix hix1 (fun s H C cls fp => snd_G t tg (Kb s H C cls fp) h5) (fun s H C cls fp => snd_Ifs cs ifs (Kb s H C cls fp) h6) (fun s H C cls fp => snd_I it1 false tg1 iter1 (Kb s H C cls fp) h7) (fun s H C cls fp => snd_G t1 tg1 (Kb s H C cls fp) h8) (fun s H C cls fp => snd_Ifs cs1 ifs1 (Kb s H C cls fp) h9) (fun s H C cls fp => (snd_E e elt (Kb s H C cls fp) h10).1) (noSet_folded h2 X.env) (noSet_folded h21)
      rw [ownP_ix] at this
      exact this
    · have hk : X.env.scope.kind = .function := by rw [K.sc]; exact K.kind
      have := s_setLc2 (p2 := p2) (pos := pos) (K.calm hc).1 nd y1 y2 (sw_true hk y2 y3 y4) hi bk hv hix hix1 (fun s H C cls fp => snd_G t tg (Kb s H C cls fp) h5) (fun s H C cls fp => snd_Ifs cs ifs (Kb s H C cls fp) h6) (fun s H C cls fp => snd_I it1 false tg1 iter1 (Kb s H C cls fp) h7) (fun s H C cls fp => snd_G t1 tg1 (Kb s H C cls fp) h8) (fun s H C cls fp => snd_Ifs cs1 ifs1 (Kb s H C cls fp) h9) (fun s H C cls fp => (snd_E e elt (Kb s H C cls fp) h10).1) (noSet_folded h2 X.env) (noSet_folded h21)
      rw [ownP_ix] at this
      exact this
  | .fin _, elt, gs, scope, X, c, W, hc, K, h => (cl_no0 h).elim
  | .gen _ _ _ _ (.fin _), elt, [], scope, X, c, W, hc, K, h => (cl_no1 h).elim
  | .gen _ _ _ _ (.fin _), elt, _ :: _ :: _, scope, X, c, W, hc, K, h => (cl_no2 h).elim
  | .gen _ _ _ _ (.gen _ _ _ _ (.fin _)), elt, [], scope, X, c, W, hc, K, h => (cl_no3 h).elim
  | .gen _ _ _ _ (.gen _ _ _ _ (.fin _)), elt, [_], scope, X, c, W, hc, K, h => (cl_no4 h).elim
  | .gen _ _ _ _ (.gen _ _ _ _ (.fin _)), elt, _ :: _ :: _ :: _, scope, X, c, W, hc, K, h => (cl_no5 h).elim
  | .gen _ _ _ _ (.gen _ _ _ _ (.gen _ _ _ _ _)), elt, gs, scope, X, c, W, hc, K, h => (cl_no6 h).elim
termination_by structural x => x
end
end
end MP

namespace MP
open PySem PySem.Spec L2
section
variable {cl : Calls} {sub : Str → Str → Option Bool}
theorem sb_asg {ox ix : Expr} {p2 : Pos} {env : Env} (h : noSlice ix = true) : ∀ v, assign (.Subscript ox ix p2) env v = (do
      let ov ← holding [v] (eval ox env)
      let iv ← holding [v, ov] (eval ix env)
      standAt p2
      holding [v, ov, iv] (setItem ov iv v)
      release [v, ov, iv] []) := by intro _; cases ix <;> first | rfl | cases h
mutual
theorem snd_C : ∀ (b : C) (st : Stmt) {T : Tx} {X : Cx} {c : Cz} {W : WX}, Gk T X c W cl sub → chkC c b st = true → (∀ p ∈ fdC c b st, c.P.nfs[p.1]? = some p.2) → SS T W X st (evC cl sub b)
  | .skip, st, T, X, c, W, K, h, hf => by
    cases st with
    | Pass p => exact s_pass
    | Expr e p =>
      cases e with
      | Constant k j p2 =>
        cases k with
        | str x => exact s_doc
        | _ => simp [chkC] at h
      | _ => simp [chkC] at h
    | _ => simp [chkC] at h
  | .seq a b, st, T, X, c, W, K, h, hf => by cases st <;> simp [chkC] at h
  | .ex e, st, T, X, c, W, K, h, hf => by
    cases st with
    | Expr x p =>
      have h' : (chkE c e x && noComp x) = true := by simpa only [chkC] using h
      rw [Bool.and_eq_true] at h'
      exact s_ex (snd_E e x K h'.1).1 (noComp_swap h'.2 _ _ _)
    | _ => simp [chkC] at h
  | .set t e, st, T, X, c, W, K, h, hf => by
    cases st with
    | Assign tgs x p =>
      match tgs, h with
      | [tg], h =>
        simp only [chkC, Bool.and_eq_true, Bool.or_eq_true] at h
        obtain ⟨⟨⟨⟨h1, h2⟩, h3⟩, h4⟩, h5⟩ := h
        exact s_asg (snd_G t tg K h1) (snd_E e x K h3).1 (noComp_swap h4 _ _ _) (noTup_swap h5 _) (assignEach_cons h2)
      | [], h => simp [chkC] at h
      | _ :: _ :: _, h => simp [chkC] at h
    | _ => simp [chkC] at h
  | .setO i e, st, T, X, c, W, K, h, hf => by
    cases st with
    | Assign tgs x p =>
      match tgs, h with
      | [], h => exact (Bool.false_ne_true h).elim
      | t1 :: _ :: _, h => cases t1 <;> exact (Bool.false_ne_true h).elim
      | [tg], h =>
      cases tg with
      | Name y yp =>
        simp only [chkC, Bool.and_eq_true, Bool.or_eq_true] at h
        obtain ⟨⟨h1, h2⟩, h3⟩ := h
        have nd : X.N.Nodup := by rw [K.N]; exact K.nd
        obtain ⟨l1, l2⟩ := K.sto h2
        rcases h3 with ⟨h3, h4⟩ | h3
        · exact s_setO nd (K.slot h1) l1 l2 (snd_E e x K h4).2.1 (noComp_swap h3 _ _ _)
        · cases e with
          | lc cm =>
            cases x with
            | ListComp elt gs scope pos =>
              simp only [Bool.and_eq_true, decide_eq_true_eq, Bool.not_eq_true'] at h3
              obtain ⟨⟨⟨⟨hc, h3⟩, h4⟩, h5⟩, h6⟩ := h3
              exact (snd_Cl cm elt gs scope hc K h3).2 i y yp p pos (K.slot h1) (by rw [K.sc]; exact h4) h5 h6
            | _ => cases h3
          | _ => cases h3
      | _ => simp [chkC] at h
    | _ => simp [chkC] at h
  | .aug i o e, st, T, X, c, W, K, h, hf => by
    cases st with
    | AugAssign tg o' x p =>
      cases tg with
      | Name y yp =>
        simp only [chkC, Bool.and_eq_true, decide_eq_true_eq] at h
        obtain ⟨⟨⟨h1, h2⟩, h3⟩, h4⟩ := h
        subst h3
        have nd : X.N.Nodup := by rw [K.N]; exact K.nd
        obtain ⟨l1, l2⟩ := K.sto h2
        exact s_aug nd (K.slot h1) l1 l2 (snd_E e x K h4).1
      | _ => simp [chkC] at h
    | _ => simp [chkC] at h
  | .seti o i e, st, T, X, c, W, K, h, hf => by
    cases st with
    | Assign tgs x p =>
      match tgs, h with
      | [], h => exact (Bool.false_ne_true h).elim
      | t1 :: _ :: _, h => cases t1 <;> exact (Bool.false_ne_true h).elim
      | [tg], h =>
      cases tg with
      | Subscript ox ix p2 =>
        simp only [chkC, Bool.and_eq_true] at h
        obtain ⟨⟨⟨⟨h1, h2⟩, h3⟩, h4⟩, h5⟩ := h
        exact s_seti K.hu (snd_E e x K h4).1 (sp_var K h1 (snd_E o ox K h1).1) (snd_E i ix K h2).1 (sb_asg h3) (show swapsWithSole [.Subscript ox ix p2] x p.line X.env = pure false from noComp_swap h5 (some (.Subscript ox ix p2)) p.line X.env) (noTup_swap (.inl rfl) _) rfl
      | _ => simp [chkC] at h
    | _ => simp [chkC] at h
  | .app o e, st, T, X, c, W, K, h, hf => by
    cases st with
    | Expr ex p =>
      cases ex with
      | Call f xs kws p2 =>
        cases f with
        | Attribute ox y ap =>
          match xs, kws, h with
          | [x], [], h =>
            simp only [chkC, Bool.and_eq_true, decide_eq_true_eq] at h
            obtain ⟨⟨⟨⟨⟨h1, h2⟩, h3⟩, h4⟩, h5⟩, h6⟩ := h
            subst h1
            exact s_app (noStar_ne h6) (sp_var K h2 (snd_E o ox K h2).1) (noCall_ne h3) h4 (snd_E e x K h5).1 rfl
          | [], _, h => simp [chkC] at h
          | [_], _ :: _, h => simp [chkC] at h
          | _ :: _ :: _, _, h => simp [chkC] at h
        | _ => simp [chkC] at h
      | _ => simp [chkC] at h
    | _ => simp [chkC] at h
  | .ext o e, st, T, X, c, W, K, h, hf => by
    cases st with
    | Expr ex p =>
      cases ex with
      | Call f xs kws p2 =>
        cases f with
        | Attribute ox y ap =>
          match xs, kws, h with
          | [x], [], h =>
            simp only [chkC, Bool.and_eq_true, decide_eq_true_eq] at h
            obtain ⟨⟨⟨⟨⟨h1, h2⟩, h3⟩, h4⟩, h5⟩, h6⟩ := h
            subst h1
            exact s_ext (noStar_ne h6) (sp_var K h2 (snd_E o ox K h2).1) (noCall_ne h3) h4 (snd_E e x K h5).1 rfl
          | [], _, h => simp [chkC] at h
          | [_], _ :: _, h => simp [chkC] at h
          | _ :: _ :: _, _, h => simp [chkC] at h
        | _ => simp [chkC] at h
      | _ => simp [chkC] at h
    | _ => simp [chkC] at h
  | .ret e, st, T, X, c, W, K, h, hf => by
    cases st with
    | Return x p =>
      cases x with
      | some x =>
        have h' : chkE c e x = true := by simpa only [chkC] using h
        exact s_ret (snd_E e x K h').1
      | none => simp [chkC] at h
    | _ => simp [chkC] at h
  | .retN, st, T, X, c, W, K, h, hf => by
    cases st with
    | Return x p =>
      cases x with
      | some x => simp [chkC] at h
      | none => exact s_retN
    | _ => simp [chkC] at h
  | .ite t a b, st, T, X, c, W, K, h, hf => by
    cases st with
    | If x xs ys p =>
      simp only [chkC, Bool.and_eq_true] at h
      obtain ⟨⟨h1, h2⟩, h3⟩ := h
      exact s_if (snd_T t x K h1) (snd_Cs a xs K h2 fun p hp => hf p (List.mem_append_left _ hp)) (snd_Cs b ys K h3 fun p hp => hf p (List.mem_append_right _ hp))
    | _ => simp [chkC] at h
  | .for_ t it b, st, T, X, c, W, K, h, hf => by
    cases st with
    | For tg iter body els p =>
      cases els with
      | nil =>
        simp only [chkC, Bool.and_eq_true] at h
        obtain ⟨⟨⟨⟨hc, h1⟩, h2⟩, h3⟩, h4⟩ := h
        exact s_for K.own (K.calm hc).1 (snd_I it true tg iter K h2) (snd_G t tg K h1) (snd_Cs b body K h4 hf) (noSet_folded h3 _)
      | cons _ _ => simp [chkC] at h
    | _ => simp [chkC] at h
  | .whl n t b, st, T, X, c, W, K, h, hf => by
    cases st with
    | While x body els p =>
      cases els with
      | nil =>
        simp only [chkC, Bool.and_eq_true] at h
        exact s_whl K.own (snd_T t x K h.1) (snd_Cs b body K h.2 hf)
      | cons _ _ => simp [chkC] at h
    | _ => simp [chkC] at h
  | .brk, st, T, X, c, W, K, h, hf => by
    cases st with
    | Break p => exact s_brk
    | _ => simp [chkC] at h
  | .cont, st, T, X, c, W, K, h, hf => by
    cases st with
    | Continue p => exact s_cont
    | _ => simp [chkC] at h
  | .setD i e, st, T, X, c, W, K, h, hf => by
    cases st with
    | Assign tgs x p =>
      match tgs, h with
      | [], h => exact (Bool.false_ne_true h).elim
      | t1 :: _ :: _, h => cases t1 <;> exact (Bool.false_ne_true h).elim
      | [tg], h =>
      cases tg with
      | Name y yp =>
        simp only [chkC, Bool.and_eq_true] at h
        obtain ⟨⟨⟨h1, h2⟩, h3⟩, h4⟩ := h
        obtain ⟨l1, l2⟩ := K.sto h2
        exact s_setD (by rw [K.N]; exact K.nd) (K.slot h1) l1 l2 (snd_E e x K h4).2.2 (noComp_swap h3 _ _ _)
      | _ => simp [chkC] at h
    | _ => simp [chkC] at h
  | .raise x, st, T, X, c, W, K, h, hf => by
    cases st with
    | Raise ex ca p =>
      match ex, ca, h with
      | some (.Call (.Name y p1) [.Constant (.str m) j p2] [] p3), none, h =>
        simp only [chkC, Bool.and_eq_true, decide_eq_true_eq] at h
        obtain ⟨⟨h1, h2⟩, hc⟩ := h
        subst h1
        obtain ⟨g1, g2, g3⟩ := K.ex_ h2
        exact s_raise (K.calm hc).1 K.tk g3 g1 g2
    | _ => simp [chkC] at h
  | .tryc b x i hh, st, T, X, c, W, K, h, hf => by
    cases st with
    | Try body hs el fi p =>
      match hs, el, fi, h, hf with
      | [.ExceptHandler (some (.Name y np)) nm (b0 :: suite) p4], [], [], h, hf =>
        simp only [chkC, Bool.and_eq_true, decide_eq_true_eq] at h
        obtain ⟨⟨⟨⟨⟨⟨h1, h2⟩, hc⟩, ho⟩, h3⟩, h4⟩, h5⟩ := h
        subst h1
        obtain ⟨g1, g2, g3⟩ := K.ex_ h2
        obtain ⟨r1, r2, r3, r4⟩ := K.fr ho
        have hx : ∃ C, X.mg x = some (.ref C) := by
          obtain ⟨C, _, _, _, _, _, _, e, _⟩ := g3.ex
          exact ⟨C, e⟩
        have hb : ∀ (W : WX) (pn : List (Addr × Obj)) (xe : Value → Shared → Prop), L2N.Takes (X.tr pn xe) W → PassesOwn (model X.prog X.w) X.A X.env xe → SSs T W (X.tr pn xe) body (evC cl sub b) := fun W' pn xe tk po =>
          snd_Cs b body (K.tr hc tk po) h3 fun p hp => hf p (List.mem_append_left _ hp)
        have hs : ∀ (a : Addr) (oe : Obj) (cls : Value) (pn : List (Addr × Obj)), L2N.Zn cls none oe → (∃ vs, oe.data = .fields vs) → SSs { T with exn := some (a, cls) } WF (X.suite a ((a, oe) :: pn)) (b0 :: suite) (evC cl sub hh) := fun a oe cls pn z1 z2 =>
          snd_Cs hh (b0 :: suite) (K.sui hc ho z1 z2) h4 fun p hp => hf p (List.mem_append_right _ hp)
        match i, nm, h5 with
        | none, none, _ => exact s_try r2 r3 K.tk (K.calm hc).2 K.subI hx g1 g2 hb hs
        | some i, some n, h5 =>
          simp only [Bool.and_eq_true, decide_eq_true_eq] at h5
          exact s_tryAs r2 r3 (by rw [K.N]; exact K.nd) (K.slot h5.1) (by rw [K.sc]; exact h5.2) K.tk (K.calm hc).2 K.subI hx g1 g2 hb hs
    | _ => simp [chkC] at h
  | .fdef i k, st, T, X, c, W, K, h, hf => by
    cases st with
    | FunctionDef name params body decs rets tps scope tsc nm pos =>
      match decs, rets, tps, tsc, h, hf with
      | [], none, [], none, h, hf =>
        simp only [chkC, Bool.and_eq_true, decide_eq_true_eq] at h
        obtain ⟨⟨⟨⟨⟨⟨⟨⟨⟨h1, h2⟩, h3⟩, ho⟩, hc⟩, h4⟩, h5⟩, h6⟩, h7⟩, h8⟩ := h
        subst h1
        obtain ⟨l1, l2⟩ := K.sto h3
        obtain ⟨r1, r2, r3, r4⟩ := K.fr ho
        obtain ⟨tq, fm, cc, P, t1, t2, t3, t4, t5⟩ := K.tb ho (fun z => by rw [z] at h8; cases h8)
        have hk := hf (k, nfAt c scope name params body) (List.mem_singleton.mpr rfl)
        exact s_fdef (d := nfAt c scope name params body) t1 t2 t3 (by rw [tq]; exact t5 _ h8) t4 (fun y hy e => by
          have := List.all_eq_true.mp h7 y hy
          rw [e] at this
          rw [K.sc]
          dsimp only at this
          split at this
          · exact .inl (by assumption)
          · exact .inr (by assumption)
          · cases this) (List.isEmpty_iff.mp h4) (List.isEmpty_iff.mp h5) (noAnn_trees h6) (by rw [K.N]; exact K.nd) (K.slot h2) l1 l2 (by rw [K.nfs]; exact hk) r1 (by rw [tq]; rfl)
    | _ => simp [chkC] at h
  | .trym _ _, st, T, X, c, W, K, h, hf => by cases st <;> simp [chkC] at h
  | .dpop _ _, st, T, X, c, W, K, h, hf => by cases st <;> simp [chkC] at h
  | .setf _ _ _, st, T, X, c, W, K, h, hf => by cases st <;> simp [chkC] at h
  | .tryf _ _, st, T, X, c, W, K, h, hf => by cases st <;> simp [chkC] at h
  | .nev, st, T, X, c, W, K, h, hf => s_nev
termination_by structural x => x
theorem snd_Cs : ∀ (b : C) (sts : List Stmt) {T : Tx} {X : Cx} {c : Cz} {W : WX}, Gk T X c W cl sub → chkCs c b sts = true → (∀ p ∈ fdCs c b sts, c.P.nfs[p.1]? = some p.2) → SSs T W X sts (evC cl sub b)
  | .skip, sts, T, X, c, W, K, h, hf => by
    cases sts with
    | nil => exact s_nil
    | cons _ _ => simp [chkCs] at h
  | .seq a b, sts, T, X, c, W, K, h, hf => by
    cases sts with
    | nil => simp [chkCs] at h
    | cons st rest =>
      have h' : (chkC c a st && chkCs c b rest) = true := h
      rw [Bool.and_eq_true] at h'
      exact s_cons (snd_C a st K h'.1 fun p hp => hf p (List.mem_append_left _ hp)) (snd_Cs b rest K h'.2 fun p hp => hf p (List.mem_append_right _ hp))
  | .nev, sts, T, X, c, W, K, h, hf => ss_nev
  | .ex _, sts, T, X, c, W, K, h, hf => by cases sts <;> simp [chkCs] at h
  | .set _ _, sts, T, X, c, W, K, h, hf => by cases sts <;> simp [chkCs] at h
  | .setO _ _, sts, T, X, c, W, K, h, hf => by cases sts <;> simp [chkCs] at h
  | .aug _ _ _, sts, T, X, c, W, K, h, hf => by cases sts <;> simp [chkCs] at h
  | .seti _ _ _, sts, T, X, c, W, K, h, hf => by cases sts <;> simp [chkCs] at h
  | .app _ _, sts, T, X, c, W, K, h, hf => by cases sts <;> simp [chkCs] at h
  | .ext _ _, sts, T, X, c, W, K, h, hf => by cases sts <;> simp [chkCs] at h
  | .ret _, sts, T, X, c, W, K, h, hf => by cases sts <;> simp [chkCs] at h
  | .retN, sts, T, X, c, W, K, h, hf => by cases sts <;> simp [chkCs] at h
  | .ite _ _ _, sts, T, X, c, W, K, h, hf => by cases sts <;> simp [chkCs] at h
  | .for_ _ _ _, sts, T, X, c, W, K, h, hf => by cases sts <;> simp [chkCs] at h
  | .whl _ _ _, sts, T, X, c, W, K, h, hf => by cases sts <;> simp [chkCs] at h
  | .brk, sts, T, X, c, W, K, h, hf => by cases sts <;> simp [chkCs] at h
  | .cont, sts, T, X, c, W, K, h, hf => by cases sts <;> simp [chkCs] at h
  | .raise _, sts, T, X, c, W, K, h, hf => by cases sts <;> simp [chkCs] at h
  | .tryc _ _ _ _, sts, T, X, c, W, K, h, hf => by cases sts <;> simp [chkCs] at h
  | .trym _ _, sts, T, X, c, W, K, h, hf => by cases sts <;> simp [chkCs] at h
  | .fdef _ _, sts, T, X, c, W, K, h, hf => by cases sts <;> simp [chkCs] at h
  | .setD _ _, sts, T, X, c, W, K, h, hf => by cases sts <;> simp [chkCs] at h
  | .dpop _ _, sts, T, X, c, W, K, h, hf => by cases sts <;> simp [chkCs] at h
  | .setf _ _ _, sts, T, X, c, W, K, h, hf => by cases sts <;> simp [chkCs] at h
  | .tryf _ _, sts, T, X, c, W, K, h, hf => by cases sts <;> simp [chkCs] at h
termination_by structural x => x
end
end
end MP

namespace MP
open PySem PySem.Spec L2 PyProof.Rows
/-! ### defs called where no guard stands -/
structure FnG (P : Program) (w : World) (K : PySem.W.Frag) (mg : Str → Option Value) (base : Heap) (CX : CXT) (k : Nat) (f : Addr) (fd : FuncData) (ps : List Str) (sp : Sp) : Prop where
  run : ∀ (A : Around) (outer : List Env) (st : Shared) (H : Hp) (args : Args) (us : List Value) (vs : List V) (Q : VK) (E : XK), Room k A → A.guards = some [] → Env0 P w K mg base A outer st H → BindsTo st fd args (ps.zip us) → Vals vs us → sp vs H Q E →
    codeAny (model P w) A (.call (.ref f) args) (CR CX outer P w H st Q E) st
/-- the end of a body -/
def retOf : Flow → Value
  | .ret v => v
  | _ => .none
theorem body_end {X : Cx} {outer : List Env} {P : Program} {w : World} {H : Hp} {st s' : Shared} {Q : VK} {fl : Flow} (hX : ∀ {σ' : L2.St} {H' : Hp} {v : V} {u : Value}, Inv X [] σ' H' s' → L2.RelV v u → Q v H' → CE outer P w H st Q u s')
    (h : L2.SP X [] { nx := fun _ H' => Q .non H', rt := Q } fl s') : CE outer P w H st Q (retOf fl) s' := by
  cases fl with
  | ret u =>
    obtain ⟨v, σ1, H1, J, r, q⟩ := h
    exact hX J r q
  | next =>
    obtain ⟨σ1, H1, J, q⟩ := h
    exact hX (v := .non) J rfl q
  | brk => obtain ⟨_, _, _, q⟩ := h; exact q.elim
  | cont => obtain ⟨_, _, _, q⟩ := h; exact q.elim
theorem guards_deeper {A : Around} {env : Env} (h : A.guards = some []) : (A.deeper env).guards = some [] := h
section
variable {P : Program} {w : World} {K : PySem.W.Frag} {mg : Str → Option Value} {base : Heap} {CX : CXT}
theorem fn_ofG {k : Nat} {f : Addr} {name qual : Str} {params : Arguments} {body : List Stmt} {scope : Scope} {dV kV doc pm cdv ct oc : Value} {an od : Option Addr} {osl : Array (Option Value)} {N ps : List Str} {sp : Sp}
    (lk : K.lookup f = some ⟨oc, od, .func (PySem.W.fnOf name qual params body scope dV kV doc pm an cdv ct), osl⟩) (hcd : PySem.W.codeIn K cdv qual = true) (S : FnScope N ps scope) (len : ∀ vs H Q E, sp vs H Q E → vs.length = ps.length)
    (hbody : ∀ (A : Around) (outer : List Env) (st : Shared) (H : Hp) (vs : List V) (Q : VK) (E : XK), Room k (A.deeper (envOfC qual scope st.heap.objs.size f cdv)) → A.guards = some [] → sp vs H Q E →
      ∃ t, PSs (cxOf CX P w K mg base N qual scope f cdv A outer st H E) body t ∧ t { nx := fun _ H' => Q .non H', rt := Q } (L2.start N vs) H) :
    FnG P w K mg base CX (k + 1) f (PySem.W.fnOf name qual params body scope dV kV doc pm an cdv ct) ps sp := ⟨fun A outer st H args us vs Q E hr hgd e0 hb r hsp => by
  have hin : K.In st.heap := e0.mod.kin.keeps fun b o e => (e0.bs b o e).1
  have hkinds : ∀ y ∈ ps.zip us, scope.names.lookup y.1 = some .local ∨ (scope.names.lookup y.1 = some .cell ∧ ((cellsFrom (st.heap.objs.size + 1) scope.names []).lookup y.1).isSome = true) := fun y hy =>
    (S.par y.1 (List.of_mem_zip hy).1).imp id fun q => ⟨q, PySem.W.cellsFrom_some _ _ _ (.inl q)⟩
  refine codeAny_call_function hr.depth (hin _ _ lk) rfl S.co S.gen rfl (PySem.W.codeRec_of hin hcd) (hb _ _ _ _ (wpAny_newFunctionEnv_cells S.kind hkinds fun env he s1 x => ?_))
  cases he
  refine ⟨Heap.NoLimit.keeps (e0.mod.nolimit.keeps fun b o e => (e0.bs b o e).1) x.toInCall.keep, codeAny_func ?_⟩
  obtain ⟨t, ht, hq⟩ := hbody A outer st H vs Q E (hr.deeper _) hgd hsp
  have I := inv_start (CX := CX) (E := E) S hr.hd e0 (len _ _ _ _ hsp) r x
  exact wpAny_mono (ht.run [] s1 _ H _ I hq) (fun fl s' hs => by
    have z := body_end (X := cxOf CX P w K mg base N qual scope f cdv A outer st H E) (outer := outer) (P := P) (w := w) (H := H) (st := st) (fun J rv q => ⟨_, _, J.os, J.bare, J.base, J.hok, rv, q⟩) hs
    cases fl <;> exact z) fun e s' hs => hs⟩
/-- a def within a def -/
structure NOkG (P : Program) (w : World) (K : PySem.W.Frag) (mg : Str → Option Value) (base : Heap) (CX : CXT) (k : Nat) (f : Addr) (F : NdefX.NF) (fr : List Str) (sp : List (Option V) → Sp) : Prop where
  run : ∀ (A : Around) (outer : List Env) (st : Shared) (H : Hp) (us : List Value) (vs : List V) (ws : List (Option V)) (Q : VK) (E : XK), Room k A → A.guards = some [] → Env0 P w K mg base A outer st H → H f = some (NdefX.FnO f F) → H F.c = some (LamX.CodeO F.c F.qual) →
    NdefX.CellsAt F.cl fr ws st.heap H → Vals vs us → sp ws vs H Q E → codeAny (model P w) A (.call (.ref f) ⟨us, []⟩) (CR CX outer P w H st Q E) st
theorem nok_ofG {k : Nat} {f : Addr} {F : NdefX.NF} {N ps fr : List Str} {sp : List (Option V) → Sp} (S : NdefX.NScope N ps fr F.scope) (hb : ∀ (doc pm ctv : Value) (us : List Value), us.length = ps.length → bindArgs (F.fd doc pm ctv) ⟨us, []⟩ = pure (ps.zip us)) (len : ∀ ws vs H Q E, sp ws vs H Q E → vs.length = ps.length)
    (hbody : ∀ (A : Around) (outer : List Env) (st : Shared) (H : Hp) (vs : List V) (ws : List (Option V)) (Q : VK) (E : XK), Room k (A.deeper (NdefX.envF F f st.heap.objs.size)) → A.guards = some [] → ws.length = fr.length → sp ws vs H Q E →
      ∃ t, PSs (NdefX.ncx CX P w K mg base N F f A outer st H E) F.body t ∧ t { nx := fun _ H' => Q .non H', rt := Q } (NdefX.startF N vs ws) H) : NOkG P w K mg base CX (k + 1) f F fr sp := ⟨fun A outer st H us vs ws Q E hr hgd e0 hf hc C r hsp => by
  have hl := len _ _ _ _ _ hsp
  obtain ⟨od, sl, doc, pm, ctv, ho⟩ := NdefX.fnO_at e0.hok hf
  refine codeAny_call_function hr.depth ho rfl S.co S.gen rfl (NdefX.codeO_at e0.hok hc) ?_
  rw [hb doc pm ctv us (r.length.symm.trans hl)]
  refine wpAny_pure (wpAny_newFunctionEnv S.nocell (fun y hy => S.par y.1 (List.of_mem_zip hy).1) (fun h1 hns hsb => ⟨Heap.NoLimit.fresh (e0.mod.nolimit.keeps fun b o e => (e0.bs b o e).1) _ hsb, ?_⟩) S.kind)
  refine (codeAny_func ?_ : codeAny _ _ (.func F.body (NdefX.envF F f st.heap.objs.size)) _ _)
  obtain ⟨t, ht, hq⟩ := hbody A outer st H vs ws Q E (hr.deeper _) hgd C.len hsp
  have I := NdefX.inv_startN (CX := CX) (E := E) (f := f) (tk := st.toks + (ps.zip us).length) S hr.hd e0 hl r C hns fun b o e => hsb.extBut b o (Nat.ne_of_lt (Heap.lt_size e)) (Heap.get?_push_of_some _ e)
  exact wpAny_mono (ht.run [] _ _ H _ I hq) (fun fl s' hs => by
    have z := body_end (X := NdefX.ncx CX P w K mg base N F f A outer st H E) (outer := outer) (P := P) (w := w) (H := H) (st := st) (fun J rv q => ⟨_, _, J.os, J.bare, J.base, J.hok, rv, q⟩) hs
    cases fl <;> exact z) fun e s' hs => hs⟩
end
/-! ### exceptions, cells tracked and not -/
section
variable {C : List Addr} {H : Hp}
theorem ub_hid {fs : List Addr} {H1' : Hp} {h B h' : Heap} {K : Hp} {P : Program} {w : World} (h0 : ∀ c ∈ C, H c = none) (hK : ∀ c ∈ C, ∃ o, K c = some (CellO c o) ∧ h.get? c = some o) (k' : HOk P w H1' B) (u : UB fs (shw C K H) H1' h B h') : UB fs H (hid C H1') h B h' := by
  have out : ∀ {a : Addr} {o : HO}, H a = some o → a ∉ C := fun {a o} e hc => by rw [h0 a hc] at e; cases e
  have key : ∀ c ∈ C, ∀ o, h.get? c = some o → B.get? c = some o := fun c hc o e => by
    obtain ⟨o', q1, q2⟩ := hK c hc
    rw [e] at q2
    cases q2
    have z := u.frzs c o _ (show shw C K H c = some (.frz o _) by rw [shw_in hc]; exact q1)
    exact (k' c _ z).1
  refine ⟨fun b o e n nf => ?_, u.slot, fun b o e n => ?_, u.there, fun b xs e => ?_, fun b o v e => ?_, fun b ps e => ?_⟩
  · by_cases hc : b ∈ C
    · exact key b hc o e
    · exact u.keep b o e (by rw [shw_out hc]; exact n) nf
  · by_cases hc : b ∈ C
    · exact hid_in hc
    · rw [hid_out hc]; exact u.free b o e (by rw [shw_out hc]; exact n)
  · rw [hid_out (out e)]; exact u.tups b xs (shw_sub h0 _ _ e)
  · rw [hid_out (out e)]; exact u.frzs b o v (shw_sub h0 _ _ e)
  · obtain ⟨more, z⟩ := u.tbls b ps (shw_sub h0 _ _ e)
    exact ⟨more, by rw [hid_out (out e)]; exact z⟩
theorem ub_shw {fs : List Addr} {H1' : Hp} {h B h' : Heap} {P : Program} {w : World} (hC : CellsIn C H) (ok : HOk P w H h) (ok' : HOk P w H1' B) (hf : ∀ b ∈ fs, H b = none) (u : UB fs (hid C H) H1' h B h') : UB fs H (shw C H H1') h B h' ∧ HOk P w (shw C H H1') B ∧ ∀ c ∈ C, H1' c = none := by
  have at_ : ∀ c ∈ C, ∃ o, H c = some (CellO c o) ∧ h.get? c = some o := fun c hc => by
    obtain ⟨o, v, e, _⟩ := hC c hc
    exact ⟨o, e, (ok c _ e).1⟩
  have nfs : ∀ c ∈ C, c ∉ fs := fun c hc hb => by
    obtain ⟨o, e, _⟩ := at_ c hc
    rw [hf c hb] at e; cases e
  have n1 : ∀ c ∈ C, H1' c = none := fun c hc => by
    obtain ⟨o, _, e⟩ := at_ c hc
    exact u.free c o e (hid_in hc)
  have key : ∀ c ∈ C, ∃ o, H c = some (CellO c o) ∧ B.get? c = some o := fun c hc => by
    obtain ⟨o, e1, e2⟩ := at_ c hc
    exact ⟨o, e1, u.keep c o e2 (hid_in hc) (nfs c hc)⟩
  refine ⟨⟨fun b o e n nf => ?_, u.slot, fun b o e n => ?_, u.there, fun b xs e => ?_, fun b o v e => ?_, fun b ps e => ?_⟩, hok_shw n1 key ok', n1⟩
  · exact u.keep b o e (by unfold hid; split; rfl; exact n) nf
  · have nc : b ∉ C := fun hc => by
      obtain ⟨o, e, _⟩ := at_ b hc
      rw [n] at e; cases e
    rw [shw_out nc]; exact u.free b o e (by rw [hid_out nc]; exact n)
  · have nc := hC.out e fun c o z => by unfold CellO at z; cases z
    rw [shw_out nc]; exact u.tups b xs (by rw [hid_out nc]; exact e)
  · by_cases hc : b ∈ C
    · rw [shw_in hc]; exact e
    · rw [shw_out hc]; exact u.frzs b o v (by rw [hid_out hc]; exact e)
  · have nc := hC.out e fun c o z => by unfold CellO at z; cases z
    obtain ⟨more, z⟩ := u.tbls b ps (by rw [hid_out nc]; exact e)
    exact ⟨more, by rw [shw_out nc]; exact z⟩
end
end MP

namespace MP
open PySem PySem.Spec L2 PyProof.Rows
/-! ### promises -/
/-- what a called def promises: its arguments as they stand at the entry -/
def spA (g : Gp) (T : Tx) (cl : Calls) (sub : Str → Str → Option Bool) (fn : Fn) : Sp := fun vs H Q E => ∃ G μ S args, Core g T.tabs G μ S H ∧ Paired (argOk g T G μ H) args vs ∧ args.length = fn.ps.length ∧ (match runFnA cl sub fn args S with
  | .ok d S' => ∀ G' μ' H', Ends0 g T.tabs G μ H G' μ' S' H' → ∀ v, rep g μ' G' d v → Q v H'
  | .exc c S' => ∀ G' μ' H', Ends0 g T.tabs G μ H G' μ' S' H' → E (gcls g c) none H'
  | .stk => False)
theorem paired_len {α β : Type} {R : α → β → Prop} : ∀ {l : List α} {m : List β}, Paired R l m → l.length = m.length
  | _, _, .nil => rfl
  | _, _, .cons _ t => congrArg Nat.succ (paired_len t)
theorem paired_get {α β : Type} {R : α → β → Prop} : ∀ {l : List α} {m : List β} {i : Nat} {a : α}, Paired R l m → l[i]? = some a → ∃ b, m[i]? = some b ∧ R a b
  | _, _, i, a, .nil, e => by simp at e
  | _, _, 0, a, .cons r t, e => by simp at e; subst e; exact ⟨_, rfl, r⟩
  | _, _, i + 1, a, .cons r t, e => by
    obtain ⟨b, e1, e2⟩ := paired_get (i := i) t (by simpa using e)
    exact ⟨b, by simpa using e1, e2⟩
theorem argOk_tx {g : Gp} {T T' : Tx} {G H : Hp} {μ : List Addr} {sl : Slot} {v : V} (h : argOk g T G μ H sl v) (h1 : T'.nfs = T.nfs) (h2 : T'.exn = T.exn) : argOk g T' G μ H sl v := by
  cases sl with
  | clo k caps =>
    obtain ⟨f, e, r⟩ := h
    exact ⟨f, e, by rw [h1]; exact r⟩
  | exn c =>
    obtain ⟨a, e, r⟩ := h
    exact ⟨a, e, by rw [h2]; exact r⟩
  | _ => exact h
section
variable {g : Gp} {T T' : Tx} {cl : Calls} {sub : Str → Str → Option Bool} {fn : Fn}
theorem start_get {N : List Str} {vs : List V} {i : Nat} {v : V} (h : vs[i]? = some v) : (L2.start N vs)[i]? = some (some v) := by
  unfold L2.start
  rw [List.getElem?_append_left (by rw [List.length_map]; exact (List.getElem?_eq_some_iff.mp h).1), List.getElem?_map, h]
  rfl
theorem frameA_len {args : List Slot} {vs : List V} (h : args.length = vs.length) : (frameA fn args).length = (L2.start fn.N vs).length := by
  unfold frameA L2.start
  simp only [List.length_append, List.length_map, List.length_replicate, h]
/-- where a run of a body's steps ends, told by what the def does -/
theorem ends_of {σ0 : L2.St} {ρ0 : Fr} {S : Store} {G H : Hp} {μ : List Addr} {Q : VK} {E : XK} (ht : T'.tabs = T.tabs) (I : Sim g T' ⟨H, G, μ, fun _ => none⟩ G μ ρ0 S σ0 H)
    (q : match outR (evC cl sub fn.body ρ0 S) with
      | .ok d S' => ∀ G' μ' H', Ends0 g T.tabs G μ H G' μ' S' H' → ∀ v, rep g μ' G' d v → Q v H'
      | .exc c S' => ∀ G' μ' H', Ends0 g T.tabs G μ H G' μ' S' H' → E (gcls g c) none H'
      | .stk => False) : tSt T' (fun cls d _ H' => E cls d H') g (evC cl sub fn.body) { nx := fun _ H' => Q .non H', rt := Q } σ0 H := by
  refine tSt_iff.mpr ⟨⟨⟨H, G, μ, fun _ => none⟩, G, μ, ρ0, S⟩, I, ?_⟩
  unfold AftS
  dsimp only
  have back : ∀ (s' : Sg) (σ' : L2.St) (H' : Hp), Le ⟨⟨H, G, μ, fun _ => none⟩, G, μ, ρ0, S⟩ s' → At g T' s' σ' H' → Ends0 g T.tabs G μ H s'.G s'.μ s'.S H' := fun s' σ' H' le J => by
    obtain ⟨B', G', μ', ρ', S'⟩ := s'
    have eB : B' = ⟨H, G, μ, fun _ => none⟩ := le.B
    subst eB
    have z := Sim.ends J
    rw [ht] at z
    exact z
  cases e : evC cl sub fn.body ρ0 S with
  | stk => rw [e] at q; exact q
  | exc c ρ S' =>
    rw [e] at q
    intro s' σ' H' le e1 e2 J
    have z := back s' σ' H' le J
    rw [e2] at z
    exact q _ _ _ z
  | ok fl ρ S' =>
    rw [e] at q
    intro s' σ' H' le e1 e2 J
    have z := back s' σ' H' le J
    rw [e2] at z
    cases fl with
    | nx => exact q _ _ _ z .non rfl
    | rt d => exact fun v hv => q _ _ _ z v hv
    | bk => exact q.elim
    | ct => exact q.elim
theorem spA_body {vs : List V} {H : Hp} {Q : VK} {E : XK} (h0 : T'.tabs = T.tabs) (h1 : T'.nfs = T.nfs) (h2 : T'.exn = T.exn) (h : spA g T cl sub fn vs H Q E) : tSt T' (fun cls d _ H' => E cls d H') g (evC cl sub fn.body) { nx := fun _ H' => Q .non H', rt := Q } (L2.start fn.N vs) H := by
  obtain ⟨G, μ, S, args, C, pa, hl, q⟩ := h
  have C' : Core g T'.tabs G μ S H := by rw [h0]; exact C
  refine ends_of h0 (C'.enter (ρ' := frameA fn args) (σ' := L2.start fn.N vs) (frameA_len (paired_len pa)) fun i sl e => ?_) q
  unfold frameA at e
  by_cases hi : i < args.length
  · rw [List.getElem?_append_left hi] at e
    obtain ⟨v, e1, e2⟩ := paired_get pa e
    exact .inr ⟨v, start_get e1, argOk_tx e2 h1 h2⟩
  · rw [List.getElem?_append_right (by omega), List.getElem?_replicate] at e
    split at e
    · cases e; exact .inl rfl
    · cases e
/-- what a called inner def promises -/
def spN (g : Gp) (T : Tx) (cl : Calls) (sub : Str → Str → Option Bool) (fn : Fn) (nf : Nat) (ws : List (Option V)) : Sp := fun vs H Q E => ∃ G μ S ds caps, Core g T.tabs G μ S H ∧ reps g μ G ds vs ∧ Paired (fun d w => ∃ v, w = some v ∧ rep g μ G d v) caps ws ∧ ds.length = fn.ps.length ∧ caps.length = nf ∧ (match runFn cl sub fn (ds ++ caps) S with
  | .ok d S' => ∀ G' μ' H', Ends0 g T.tabs G μ H G' μ' S' H' → ∀ v, rep g μ' G' d v → Q v H'
  | .exc c S' => ∀ G' μ' H', Ends0 g T.tabs G μ H G' μ' S' H' → E (gcls g c) none H'
  | .stk => False)
theorem spN_body {nf : Nat} {ws : List (Option V)} {vs : List V} {H : Hp} {Q : VK} {E : XK} (h0 : T'.tabs = T.tabs) (h : spN g T cl sub fn nf ws vs H Q E) : tSt T' (fun cls d _ H' => E cls d H') g (evC cl sub fn.body) { nx := fun _ H' => Q .non H', rt := Q } (NdefX.startF fn.N vs ws) H := by
  obtain ⟨G, μ, S, ds, caps, C, rv, pc, hl, hc, q⟩ := h
  have C' : Core g T'.tabs G μ S H := by rw [h0]; exact C
  have l1 := reps_len rv
  have l2 := paired_len pc
  refine ends_of h0 (C'.enter (ρ' := frame0 fn (ds ++ caps)) (σ' := NdefX.startF fn.N vs ws) ?_ fun i sl e => ?_) q
  · unfold frame0 NdefX.startF
    simp only [List.length_append, List.length_map, List.length_replicate]
    omega
  · unfold frame0 at e
    by_cases hi : i < (ds ++ caps).length
    · rw [List.getElem?_append_left (by simpa using hi), List.getElem?_map] at e
      obtain ⟨d, e1, e2⟩ := Option.map_eq_some_iff.mp e
      subst e2
      by_cases hj : i < ds.length
      · rw [List.getElem?_append_left hj] at e1
        obtain ⟨v, e3, e4⟩ := reps_get rv e1
        refine .inr ⟨v, ?_, e4⟩
        unfold NdefX.startF
        rw [List.getElem?_append_left (by rw [List.length_map]; omega), List.getElem?_map, e3]
        rfl
      · rw [List.getElem?_append_right (by omega)] at e1
        obtain ⟨w, e3, v, e4, e5⟩ := paired_get pc e1
        subst e4
        refine .inr ⟨v, ?_, e5⟩
        have hw := (List.getElem?_eq_some_iff.mp e3).1
        unfold NdefX.startF
        rw [List.getElem?_append_right (by rw [List.length_map]; omega), List.length_map, List.getElem?_append_left (by omega), ← l1]
        exact e3
    · rw [List.getElem?_append_right (by simpa using hi), List.getElem?_replicate] at e
      split at e
      · cases e; exact .inl rfl
      · cases e
end
/-! ### the text's defs -/
/-- the checks' context of a def's body -/
def czF (fn : Fn) (sc : Scope) (Z : Gz) (qual : Str) (nms : List (Nat × Nat × Str)) : Cz := ⟨fn.N, sc, fun _ => true, Z, true, true, qual, nms, []⟩
def czH (fn : Fn) (sc : Scope) (Z : Gz) : Cz := ⟨fn.N, sc, fun _ => true, Z, false, false, Str.empty, [], []⟩
def czN (fn : Fn) (sc : Scope) (Z : Gz) : Cz := ⟨fn.N, sc, fun _ => false, Z, true, false, Str.empty, [], []⟩
/-- what the names in a nested text begin with -/
def qualIn (qual : Str) (scope : Scope) : Str := (envOfC qual scope 0 0 .none).qual
structure DefI (K : PySem.W.Frag) (mg : Str → Option Value) (Z : Gz) (tabs : List NdefX.NTab) (cs : List (Addr × Addr)) (fn : Fn) (f : Addr) (fd : FuncData) : Prop where
  body : ∃ (qual : Str) (params : Arguments) (body : List Stmt) (scope : Scope) (nms : List (Nat × Nat × Str)) (oc : Value) (od : Option Addr) (dV kV doc pm : Value) (an : Option Addr) (cdv ct : Value) (osl : Array (Option Value)),
    fd = PySem.W.fnOf fn.name qual params body scope dV kV doc pm an cdv ct ∧ K.lookup f = some ⟨oc, od, .func fd, osl⟩ ∧ PySem.W.codeIn K cdv qual = true ∧ FnScope fn.N fn.ps scope ∧ chkCs (czF fn scope Z (qualIn qual scope) nms) fn.body body = true ∧ (∀ p ∈ fdCs (czF fn scope Z (qualIn qual scope) nms) fn.body body, Z.nfs[p.1]? = some p.2) ∧
    (Z.hot.contains fn.name = true → chkCs (czH fn scope Z) fn.body body = true ∧ ∀ p ∈ fdCs (czH fn scope Z) fn.body body, Z.nfs[p.1]? = some p.2) ∧
    (nms ≠ [] → ∃ nm cc P, cdv = .ref cc ∧ (cc, P) ∈ cs ∧ (P, nm) ∈ tabs ∧ (∀ p ∈ tabs, p.1 = P → p.2 = nm) ∧ ∀ q ∈ nms, nm q.1 q.2.1 = q.2.2)
  glo : mg fn.name = some (.ref f)
  bind : ∀ (g : Gp) (μ : List Addr) (G : Hp) (st : Shared) (us ws : List Value) (ks : List Str) (vs zs : List V) (args ds kds : List D), g.K = K → K.In st.heap → Vals vs us → Vals zs ws → kds.length = ks.length → arrange fn ds ks kds = some args → reps g μ G ds vs → reps g μ G kds zs →
    ∃ us' vs', BindsTo st fd ⟨us, ks.zip ws⟩ (fn.ps.zip us') ∧ Vals vs' us' ∧ reps g μ G args vs' ∧ args.length = fn.ps.length
  bindA : fn.kwd = [] → ∀ (st : Shared) (us : List Value), K.In st.heap → us.length = fn.npos → BindsTo st fd ⟨us, []⟩ (fn.ps.zip us) ∧ fn.npos = fn.ps.length
/-- .. the defs within defs -/
structure CloD (Z : Gz) (fn : Fn) (k : Nat) : Prop where
  ex : ∃ d, Z.nfs[k]? = some d ∧ NdefX.NScope fn.N fn.ps d.fr d.scope ∧ (∀ (F : NdefX.NF) (doc pm ctv : Value) (us : List Value), F.name = d.name → F.params = d.params → F.scope = d.scope → F.body = d.body → us.length = fn.ps.length → bindArgs (F.fd doc pm ctv) ⟨us, []⟩ = pure (fn.ps.zip us)) ∧ fn.npos = fn.ps.length ∧
    chkCs (czN fn d.scope Z) fn.body d.body = true ∧ ∀ p ∈ fdCs (czN fn d.scope Z) fn.body d.body, Z.nfs[p.1]? = some p.2
structure TopI (K : PySem.W.Frag) (mg : Str → Option Value) (Z : Gz) (sub : Str → Str → Option Bool) : Prop where
  gcs : ∀ q ∈ Z.gcs, ∃ u v, mg q.1 = some u ∧ RelV v u ∧ ∀ (g : Gp) μ G, rep g μ G q.2 v
  fns : ∀ x ∈ Z.fns, ∃ f, mg x = some (.ref f) ∧ PySem.W.keepIn K (.ref f) = true
  blt : ∀ x ∈ Z.blt, mg x = none
  exs : ∀ x ∈ Z.exs, ExcI K mg x
  cls : ∀ x ∈ Z.cls, ClsI mg x
  subI : SubI K mg sub
  subK : SubK K mg sub
  sysK : SysK K
section
variable {P : Program} {w : World} {K : PySem.W.Frag} {mg : Str → Option Value} {base : Heap} {Pg : Pgm} {Z : Gz} {tabs : List NdefX.NTab} {cs : List (Addr × Addr)}
theorem roomH_mark {k : Nat} {A : Around} {v : Option Value} (r : Room k A) : L2H.RoomH k (A.mark v) := ⟨r.dp, r.un⟩
/-- calls, hot ones: what is known at a level -/
def HotL (P : Program) (w : World) (K : PySem.W.Frag) (mg : Str → Option Value) (base : Heap) (tabs : List NdefX.NTab) (Pg : Pgm) (Z : Gz) (n : Nat) : Prop :=
  ∀ (X : Cx) (T : Tx) (p : Addr × Obj), X.gp = ⟨P, w, K, mg, base⟩ → L2H.RoomH n X.A → L2H.Hot1 X.A p → p ∈ X.pn → T.tabs = tabs → T.nfs = Z.nfs → (∀ a cls, T.exn = some (a, cls) → a = p.1 ∧ Zc cls none p.2) → L2N.Takes X WF → Calls3 T X WF (callF Pg n) (fun x => Z.hot.contains x) false
def CalmL (P : Program) (w : World) (K : PySem.W.Frag) (mg : Str → Option Value) (base : Heap) (tabs : List NdefX.NTab) (Pg : Pgm) (Z : Gz) (n : Nat) : Prop :=
  ∀ (X : Cx) (W : WX) (T : Tx) (ok : Str → Bool), X.gp = ⟨P, w, K, mg, base⟩ → Room n X.A → X.A.guards = some [] → L2N.Takes X W → T.tabs = tabs → T.nfs = Z.nfs → T.exn = none → Calls3 T X W (callF Pg n) ok true
theorem fn_okG {fn : Fn} {f : Addr} {fd : FuncData} {n : Nat} (hT : TopI K mg Z Pg.sub) (D : DefI K mg Z tabs cs fn f fd) (hcs : ∀ p ∈ cs, LamX.TabB base mg p.1 p.2) (hC : CalmL P w K mg base tabs Pg Z n) (hH : HotL P w K mg base tabs Pg Z n) :
    FnG P w K mg base (L2N.CX P w) (n + 1) f fd fn.ps (spA ⟨P, w, K, mg, base⟩ ⟨tabs, Z.nfs, [], none⟩ (callF Pg n) Pg.sub fn) := by
  obtain ⟨qual, params, body, scope, nms, oc, od, dV, kV, doc, pm, an, cdv, ct, osl, efd, lk, hcd, S, hc, hf, _, htb⟩ := D.body
  subst efd
  refine fn_ofG lk hcd S (fun vs H Q E ⟨G, μ, So, args, _, pa, hl, _⟩ => (paired_len pa).symm.trans hl) fun A outer st H vs Q E hr hgd hsp => ?_
  let T' : Tx := ⟨tabs, Z.nfs, (envOfC qual scope st.heap.objs.size f cdv).cells, none⟩
  refine ⟨tSt T' (fun cls d _ H' => E cls d H') ⟨P, w, K, mg, base⟩ (evC (callF Pg n) Pg.sub fn.body), ?_, spA_body (T := ⟨tabs, Z.nfs, [], none⟩) (T' := T') rfl rfl rfl hsp⟩
  have tk : L2N.Takes (cxOf (L2N.CX P w) P w K mg base fn.N qual scope f cdv A outer st H E) (fun cls d _ H' => E cls d H') := L2N.takes_of rfl rfl rfl rfl
  have hr' : Room n (cxOf (L2N.CX P w) P w K mg base fn.N qual scope f cdv A outer st H E).A := hr
  refine snd_Cs (cl := callF Pg n) (sub := Pg.sub) fn.body body (T := T') (X := cxOf (L2N.CX P w) P w K mg base fn.N qual scope f cdv A outer st H E) (c := czF fn scope Z (qualIn qual scope) nms) ?_ hc hf
  exact { N := rfl, nd := S.nd, sc := rfl, fn := rfl, kind := S.kind, calm := fun _ => ⟨rfl, rfl⟩, hot := (fun h => nomatch h), tk := tk, own := passes_of rfl, hu := by have := hr'.un; omega
          gcs := fun q hq => (by
            obtain ⟨u, v, e1, e2, e3⟩ := hT.gcs q hq
            exact ⟨u, v, e1, e2, fun μ G => e3 _ μ G⟩), fns := hT.fns, blt := hT.blt, exs := hT.exs, cls := hT.cls, subI := hT.subI, subK := hT.subK, sysK := hT.sysK, nfs := rfl
          fr := fun _ => ⟨rfl, rfl, rfl, hgd⟩
          tb := fun _ hn => by
            obtain ⟨nm, cc, Pt, e1, e2, e3, e4, e5⟩ := htb hn
            exact ⟨rfl, nm, cc, Pt, hcs (cc, Pt) e2, e1, e3, e4, e5⟩
          calls := hC _ _ T' _ rfl hr' hgd tk rfl rfl rfl
          same := fun _ X' W' h1 h2 _ h4 => hC X' W' T' _ h1 (by rw [h2]; exact hr') (by rw [h2]; exact hgd) h4 rfl rfl rfl
          suite := fun _ _ a oe cls pn z1 z2 => hH _ _ (a, oe) rfl (roomH_mark hr') ⟨rfl, by
            obtain ⟨us, hv⟩ := z2
            exact ⟨us, hv, z1.2.2 us hv⟩⟩ List.mem_cons_self rfl rfl (fun a' cls' e => by cases e; exact ⟨rfl, z1.zc⟩) fun u s' ⟨_, _, _, _, _, _, _, _, _, _, _, _, _, _, _, _, w⟩ => w }
/-- a def called where an exception is handled -/
theorem run_hot {k : Nat} {f : Addr} {name qual : Str} {params : Arguments} {body : List Stmt} {scope : Scope} {dV kV doc pm cdv ct oc : Value} {an od : Option Addr} {osl : Array (Option Value)} {N ps : List Str} {A : Around} {outer : List Env} {st : Shared} {H : Hp} {us : List Value} {vs : List V} {args : Args} {Q : VK} {E : XK} {p : Addr × Obj} {CX : CXT}
    (lk : K.lookup f = some ⟨oc, od, .func (PySem.W.fnOf name qual params body scope dV kV doc pm an cdv ct), osl⟩) (hcd : PySem.W.codeIn K cdv qual = true) (S : FnScope N ps scope) (hl : vs.length = ps.length) (hr : L2H.RoomH (k + 1) A) (hpin : L2H.PinOk outer H st p) (e0 : Env0 P w K mg base A outer st H)
    (hb : BindsTo st (PySem.W.fnOf name qual params body scope dV kV doc pm an cdv ct) args (ps.zip us)) (r : Vals vs us) (hbody : ∃ t, PSs (L2H.cxH CX P w K mg base N qual scope f cdv A outer st H E p) body t ∧ t { nx := fun _ H' => Q .non H', rt := Q } (L2.start N vs) H) :
    codeAny (model P w) A (.call (.ref f) args) (CR CX outer P w H st Q E) st := by
  have hin : K.In st.heap := e0.mod.kin.keeps fun b o e => (e0.bs b o e).1
  have hkinds : ∀ y ∈ ps.zip us, scope.names.lookup y.1 = some .local ∨ (scope.names.lookup y.1 = some .cell ∧ ((cellsFrom (st.heap.objs.size + 1) scope.names []).lookup y.1).isSome = true) := fun y hy =>
    (S.par y.1 (List.of_mem_zip hy).1).imp id fun q => ⟨q, PySem.W.cellsFrom_some _ _ _ (.inl q)⟩
  refine codeAny_call_function hr.depth (hin _ _ lk) rfl S.co S.gen rfl (PySem.W.codeRec_of hin hcd) (hb _ _ _ _ (wpAny_newFunctionEnv_cells S.kind hkinds fun env he s1 x => ?_))
  cases he
  refine ⟨Heap.NoLimit.keeps (e0.mod.nolimit.keeps fun b o e => (e0.bs b o e).1) x.toInCall.keep, codeAny_func ?_⟩
  obtain ⟨t, ht, hq⟩ := hbody
  have I := L2H.inv_startH (CX := CX) (E := E) S hpin e0 hl r x
  exact wpAny_mono (ht.run [] s1 _ H _ I hq) (fun fl s' hs => by
    have z := body_end (X := L2H.cxH CX P w K mg base N qual scope f cdv A outer st H E p) (outer := outer) (P := P) (w := w) (H := H) (st := st) (fun J rv q => ⟨_, _, J.os, J.bare, J.base, J.hok, rv, q⟩) hs
    cases fl <;> exact z) fun e s' hs => hs
theorem fn_okH {fn : Fn} {f : Addr} {fd : FuncData} {n : Nat} {T : Tx} {A : Around} {outer : List Env} {st : Shared} {H : Hp} {us : List Value} {vs : List V} {args : Args} {Q : VK} {E : XK} {p : Addr × Obj} (hT : TopI K mg Z Pg.sub) (D : DefI K mg Z tabs cs fn f fd) (hot : Z.hot.contains fn.name = true)
    (h0 : T.tabs = tabs) (h1 : T.nfs = Z.nfs) (h2 : ∀ a cls, T.exn = some (a, cls) → a = p.1 ∧ Zc cls none p.2) (hr : L2H.RoomH (n + 1) A) (hp : L2H.Hot1 A p) (hpin : L2H.PinOk outer H st p) (e0 : Env0 P w K mg base A outer st H)
    (hb : BindsTo st fd args (fn.ps.zip us)) (r : Vals vs us) (hsp : spA ⟨P, w, K, mg, base⟩ T (callF Pg n) Pg.sub fn vs H Q E) : codeAny (model P w) A (.call (.ref f) args) (CR (L2N.CX P w) outer P w H st Q E) st := by
  obtain ⟨qual, params, body, scope, nms, oc, od, dV, kV, doc, pm, an, cdv, ct, osl, efd, lk, hcd, S, _, _, hh, _⟩ := D.body
  subst efd
  obtain ⟨hc, hf⟩ := hh hot
  have hl : vs.length = fn.ps.length := by
    obtain ⟨G, μ, So, args, _, pa, hl, _⟩ := hsp
    exact (paired_len pa).symm.trans hl
  have hr' : L2H.RoomH n (L2H.cxH (L2N.CX P w) P w K mg base fn.N qual scope f cdv A outer st H E p).A := hr.deeper _
  have tk : L2N.Takes (L2H.cxH (L2N.CX P w) P w K mg base fn.N qual scope f cdv A outer st H E p) (fun cls d _ H' => E cls d H') := L2N.takes_of rfl rfl rfl rfl
  refine run_hot lk hcd S hl hr hpin e0 hb r ⟨tSt T (fun cls d _ H' => E cls d H') ⟨P, w, K, mg, base⟩ (evC (callF Pg n) Pg.sub fn.body), ?_, spA_body (T := T) (T' := T) rfl rfl rfl hsp⟩
  refine snd_Cs (cl := callF Pg n) (sub := Pg.sub) fn.body body (T := T) (X := L2H.cxH (L2N.CX P w) P w K mg base fn.N qual scope f cdv A outer st H E p) (c := czH fn scope Z) ?_ hc hf
  have no : ∀ {x : Str}, okB (czH fn scope Z) x = true → False := fun {x} h => by
    have h : (false || ([] : List Str).contains x) = true := h
    simp at h
  exact { N := rfl, nd := S.nd, sc := rfl, fn := rfl, kind := S.kind, calm := (fun h => nomatch h), hot := fun _ => ⟨p, List.mem_singleton.mpr rfl, hp, h2⟩, tk := tk, own := passes_of rfl, hu := by have := hr'.un; omega
          gcs := fun q hq => (by
            obtain ⟨u, v, e1, e2, e3⟩ := hT.gcs q hq
            exact ⟨u, v, e1, e2, fun μ G => e3 _ μ G⟩), fns := hT.fns, blt := hT.blt, exs := hT.exs, cls := hT.cls, subI := hT.subI, subK := hT.subK, sysK := hT.sysK, nfs := h1
          fr := (fun h => nomatch h)
          tb := (fun h => nomatch h)
          calls := ⟨fun x f pins st σ H ds kds ks us ws vs zs s Q hok => (no hok).elim, fun x f pins st σ H args us vs s Q hok => (no hok).elim, fun h => nomatch h⟩
          same := (fun h => nomatch h)
          suite := (fun h => nomatch h) }
/-- a def within a def -/
theorem clo_ok {fn : Fn} {k n : Nat} {d : NfD} {f c' : Addr} {cl : List (Str × Addr)} (hT : TopI K mg Z Pg.sub) (hd : Z.nfs[k]? = some d) (D : CloD Z fn k) (hC : CalmL P w K mg base tabs Pg Z n) :
    NOkG P w K mg base (L2N.CX P w) (n + 1) f (d.nf cl c') d.fr (spN ⟨P, w, K, mg, base⟩ ⟨tabs, Z.nfs, [], none⟩ (callF Pg n) Pg.sub fn d.fr.length) := by
  obtain ⟨d', e1, S, hb, hn, hc, hf⟩ := D.ex
  rw [hd] at e1
  cases e1
  refine nok_ofG (F := d.nf cl c') (N := fn.N) (ps := fn.ps) S (fun doc pm ctv us hl => hb (d.nf cl c') doc pm ctv us rfl rfl rfl rfl hl) (fun ws vs H Q E ⟨G, μ, So, ds, caps, _, rv, _, hl, _⟩ => (reps_len rv).symm.trans hl) fun A outer st H vs ws Q E hr hgd hw hsp => ?_
  let T' : Tx := ⟨tabs, Z.nfs, [], none⟩
  have tk : L2N.Takes (NdefX.ncx (L2N.CX P w) P w K mg base fn.N (d.nf cl c') f A outer st H E) (fun cls d _ H' => E cls d H') := L2N.takes_of rfl rfl rfl rfl
  have hr' : Room n (NdefX.ncx (L2N.CX P w) P w K mg base fn.N (d.nf cl c') f A outer st H E).A := hr
  refine ⟨tSt T' (fun cls d _ H' => E cls d H') ⟨P, w, K, mg, base⟩ (evC (callF Pg n) Pg.sub fn.body), ?_, spN_body (T := T') (T' := T') rfl hsp⟩
  refine snd_Cs (cl := callF Pg n) (sub := Pg.sub) fn.body d.body (T := T') (X := NdefX.ncx (L2N.CX P w) P w K mg base fn.N (d.nf cl c') f A outer st H E) (c := czN fn d.scope Z) ?_ hc hf
  exact { N := rfl, nd := S.nd, sc := rfl, fn := rfl, kind := S.kind, calm := fun _ => ⟨rfl, rfl⟩, hot := (fun h => nomatch h), tk := tk, own := passes_of rfl, hu := by have := hr'.un; omega
          gcs := fun q hq => (by
            obtain ⟨u, v, e1, e2, e3⟩ := hT.gcs q hq
            exact ⟨u, v, e1, e2, fun μ G => e3 _ μ G⟩), fns := hT.fns, blt := hT.blt, exs := hT.exs, cls := hT.cls, subI := hT.subI, subK := hT.subK, sysK := hT.sysK, nfs := rfl
          fr := (fun h => nomatch h)
          tb := (fun h => nomatch h)
          calls := hC _ _ T' _ rfl hr' hgd tk rfl rfl rfl
          same := fun _ X' W' h1 h2 _ h4 => hC X' W' T' _ h1 (by rw [h2]; exact hr') (by rw [h2]; exact hgd) h4 rfl rfl rfl
          suite := fun _ h => nomatch h }
end
end MP

namespace MP
open PySem PySem.Spec L2 PyProof.Rows
section
variable {X : Cx} {pins : List (Addr × Obj)} {σ : L2.St} {H : Hp} {st : Shared} {W : WX} {f : Addr} {args : Args} {Q : VK} {E : XK}
/-- a call's end, in the caller -/
theorem cal_fin {us : List Value} {kw : List (Str × Value)} (I : L2.Inv X pins σ H st) (tk : L2N.Takes X W) (h : codeAny (model X.prog X.w) X.A (.call (.ref f) ⟨us, kw⟩) (CR (L2N.CX X.prog X.w) X.stack X.prog X.w H st Q (fun cls d H' => W cls d σ H')) st) :
    wpAny (model X.prog X.w) X.A (call (.ref f) us kw) (EP X pins σ Q) X.xe st := by
  refine wpAny_call (codeAny_mono h fun r s' hq => ?_)
  cases r with
  | error e => exact tk _ _ (L2N.XE.of_call I (fun cls d H' h => h) hq)
  | ok fl =>
    cases fl with
    | ret u => exact I.after hq
    | next => exact hq.elim
    | brk => exact hq.elim
    | cont => exact hq.elim
variable {C : List Addr} {Kf : Hp}
/-- cells that the callee knows are forgotten behind it -/
theorem cal_hid {P : Program} {w : World} {A : Around} {outer : List Env} (h0 : ∀ c ∈ C, H c = none) (hK : ∀ c ∈ C, ∃ o v, Kf c = some (CellO c o) ∧ o.data = .cell v ∧ st.heap.get? c = some o)
    (h : codeAny (model P w) A (.call (.ref f) args) (CR (L2N.CX P w) outer P w (shw C Kf H) st (fun v H' => CellsIn C H' → Q v (hid C H')) (fun cls d H' => CellsIn C H' → E cls d (hid C H'))) st) : codeAny (model P w) A (.call (.ref f) args) (CR (L2N.CX P w) outer P w H st Q E) st := by
  have hK' : ∀ c ∈ C, ∃ o, Kf c = some (CellO c o) ∧ st.heap.get? c = some o := fun c hc => let ⟨o, v, a, _, b⟩ := hK c hc; ⟨o, a, b⟩
  have cin : ∀ {H' : Hp}, (∀ b o u, shw C Kf H b = some (.frz o u) → H' b = some (.frz o u)) → CellsIn C H' := fun {H'} fr c hc => by
    obtain ⟨o, v, a, d, _⟩ := hK c hc
    exact ⟨o, v, fr c o _ (show shw C Kf H c = some (.frz o _) by rw [shw_in hc]; exact a), d⟩
  refine codeAny_mono h fun r s' hq => ?_
  cases r with
  | error e =>
    obtain ⟨a, B, H', cls, d, e1, fl, hok, ub, na, os, ag, q⟩ := hq
    have ci := cin ub.frzs
    refine ⟨a, B, hid C H', cls, d, e1, fl, hok_hid ci hok, ub_hid h0 hK' hok ub, ?_, os, ag, q ci⟩
    unfold hid
    split
    · rfl
    · exact na
  | ok fl =>
    cases fl with
    | next => exact hq.elim
    | brk => exact hq.elim
    | cont => exact hq.elim
    | ret u =>
      obtain ⟨v, H', os, bare, un, hok, r, q⟩ := hq
      have ci := cin un.frzs
      exact ⟨v, hid C H', os, bare, un_hid h0 hK' hok un, hok_hid ci hok, r, q ci⟩
/-- cells that the callee reads as its own are known again behind it -/
theorem cal_shw {P : Program} {w : World} {A : Around} {outer : List Env} (hC : CellsIn C H) (ok : HOk P w H st.heap) (hf : ∀ b ∈ frs outer, H b = none)
    (h : codeAny (model P w) A (.call (.ref f) args) (CR (L2N.CX P w) outer P w (hid C H) st (fun v H' => (∀ c ∈ C, H' c = none) → Q v (shw C H H')) (fun cls d H' => (∀ c ∈ C, H' c = none) → E cls d (shw C H H'))) st) : codeAny (model P w) A (.call (.ref f) args) (CR (L2N.CX P w) outer P w H st Q E) st := by
  refine codeAny_mono h fun r s' hq => ?_
  cases r with
  | error e =>
    obtain ⟨a, B, H', cls, d, e1, fl, hok, ub, na, os, ag, q⟩ := hq
    obtain ⟨ub2, hok2, n1⟩ := ub_shw hC ok hok hf ub
    refine ⟨a, B, shw C H H', cls, d, e1, fl, hok2, ub2, ?_, os, ag, q n1⟩
    have nc : a ∉ C := fun hc => by
      obtain ⟨o, v, e2, _⟩ := hC a hc
      have z : shw C H H' a = some (CellO a o) := by rw [shw_in hc]; exact e2
      have z2 := (hok2 a _ z).1
      rw [fl.2.1] at z2
      cases z2
    rw [shw_out nc]
    exact na
  | ok fl =>
    cases fl with
    | next => exact hq.elim
    | brk => exact hq.elim
    | cont => exact hq.elim
    | ret u =>
      obtain ⟨v, H', os, bare, un, hok, r, q⟩ := hq
      obtain ⟨un2, hok2, n1⟩ := un_shw hC ok hok hf un
      exact ⟨v, shw C H H', os, bare, un2, hok2, r, q n1⟩
end
/-! ### a frame's own cells -/
def cellsK (h : Heap) : Hp := fun c => (h.get? c).map (CellO c)
def ownC (X : Cx) : List Addr := X.env.cells.filterMap fun p => if X.fn p.1 then X.env.cells.lookup p.1 else none
theorem ownC_iff {X : Cx} {c : Addr} : c ∈ ownC X ↔ ∃ y, X.fn y = true ∧ X.env.cells.lookup y = some c := by
  unfold ownC
  rw [List.mem_filterMap]
  constructor
  · rintro ⟨p, hp, e⟩
    split at e
    · rename_i h; exact ⟨p.1, h, e⟩
    · cases e
  · rintro ⟨y, h, e⟩
    exact ⟨(y, c), PySem.mem_of_lookup e, by show (if X.fn y = true then X.env.cells.lookup y else none) = some c; rw [if_pos h]; exact e⟩
section
variable {X : Cx} {pins : List (Addr × Obj)} {σ : L2.St} {H : Hp} {st : Shared} {T : Tx} {s : Sg}
theorem own_none (I : L2.Inv X pins σ H st) : ∀ c ∈ ownC X, H c = none := fun c hc => by
  obtain ⟨y, _, e⟩ := ownC_iff.mp hc
  exact I.freeC y c e
theorem own_cell (I : L2.Inv X pins σ H st) : ∀ c ∈ ownC X, ∃ o v, cellsK st.heap c = some (CellO c o) ∧ o.data = .cell v ∧ st.heap.get? c = some o := fun c hc => by
  obtain ⟨y, _, e⟩ := ownC_iff.mp hc
  obtain ⟨v, o, h1, h2⟩ := I.cell y c e
  exact ⟨o, v, by unfold cellsK; rw [h1]; rfl, h2, h1⟩
theorem own_in (I : L2.Inv X pins σ H st) : CellsIn (ownC X) (cellsK st.heap) := fun c hc => let ⟨o, v, a, b, _⟩ := own_cell I c hc; ⟨o, v, a, b⟩
theorem own_above (I : L2.Inv X pins σ H st) : ∀ c ∈ ownC X, X.s_0.heap.objs.size ≤ c := fun c hc => by
  obtain ⟨y, hy, e⟩ := ownC_iff.mp hc
  exact I.ok.cab y c hy e
theorem own_nofr (I : L2.Inv X pins σ H st) : ∀ c ∈ ownC X, c ∉ frs X.stack := fun c hc hb => by
  obtain ⟨y, hy, e⟩ := ownC_iff.mp hc
  rcases List.mem_cons.mp (I.stkSub c hb) with z | z
  · exact I.cne y c e z
  · obtain ⟨_, o, ho, _⟩ := I.ok.funs.mem z
    exact absurd (Nat.lt_of_lt_of_le (Heap.lt_size ho) (own_above I c hc)) (Nat.lt_irrefl _)
theorem env_shw (I : L2.Inv X pins σ H st) : Env0 X.prog X.w X.K X.mg X.base X.A X.stack st (shw (ownC X) (cellsK st.heap) H) := by
  have e0 := I.env0
  refine ⟨e0.frames, e0.mod, fun b o e => ⟨(e0.bs b o e).1, ?_⟩, e0.bsz, e0.funs, fun b hb => ?_, ?_, e0.bare⟩
  · have nc : b ∉ ownC X := fun hc => absurd (Nat.lt_of_lt_of_le (Heap.lt_size e) (Nat.le_trans I.ok.bsz (own_above I b hc))) (Nat.lt_irrefl _)
    rw [shw_out nc]; exact (e0.bs b o e).2
  · rw [shw_out fun hc => own_nofr I b hc hb]; exact e0.frf b hb
  · exact hok_shw (own_none I) (fun c hc => let ⟨o, v, a, _, b⟩ := own_cell I c hc; ⟨o, a, b⟩) I.hok
/-- the arguments, where the callee knows the cells -/
theorem argA_ok (I : L2.Inv X pins σ H st) (A : At X.gp T s σ H) {sl : Slot} {v : V} (h : argA X T s σ H sl v) : argOk X.gp ⟨T.tabs, T.nfs, [], T.exn⟩ (shw (ownC X) (cellsK st.heap) s.G) s.μ (shw (ownC X) (cellsK st.heap) H) sl v := by
  have h0 := own_none I
  have g0 : ∀ c ∈ ownC X, s.G c = none := fun c hc => A.gh.none (h0 c hc)
  have sG := shw_sub (K := cellsK st.heap) g0
  have sH := shw_sub (K := cellsK st.heap) h0
  cases sl with
  | val d => exact rep_mono sG (fun _ _ h => h) d v h
  | lck o =>
    obtain ⟨a, e, r, n⟩ := h
    obtain ⟨u, q, _⟩ := mrepL_some r
    exact ⟨a, e, mrepL_mono sG (fun _ _ h => h) ((sH _ _ q).trans q.symm) r, n⟩
  | exn c => exact h
  | clo k caps =>
    obtain ⟨f, c', d, ws, js, h1, h2, h3, h4, h5, h6, h7, h8, h9, h10⟩ := h
    have hfr : ∀ y ∈ d.scope.names, y.2 = .free → ∃ c, X.env.cells.lookup y.1 = some c := fun y hy e => I.ok.has _ (.inl (h6 y hy e).1)
    have cm : ∀ {y : Str} {c : Addr}, (cloFrom T.cells d.scope.names []).lookup y = some c → X.env.cells.lookup y = some c ∧ X.fn y = true := fun {y c} e => by
      rw [h5] at e
      refine ⟨NdefX.clo_cm hfr e, ?_⟩
      rcases cloFrom_mem (PySem.mem_of_lookup e) with z | ⟨z1, z2⟩
      · cases z
      · exact (h6 _ z1 rfl).2
    have cellAt : ∀ {y : Str} {c : Addr}, X.env.cells.lookup y = some c → X.fn y = true → ∀ {o : Obj}, st.heap.get? c = some o → shw (ownC X) (cellsK st.heap) s.G c = some (CellO c o) := fun {y c} e hy {o} ho => by
      rw [shw_in (ownC_iff.mpr ⟨y, hy, e⟩)]
      unfold cellsK
      rw [ho]
      rfl
    have lcaps : caps.length = d.fr.length := by
      have z1 := reps_len h9
      have z2 := congrArg List.length h10
      have z3 := congrArg List.length h8
      rw [List.length_map, List.length_map] at z2 z3
      omega
    refine ⟨f, h1, ⟨d, cloFrom T.cells d.scope.names [], c', h2, sG _ _ h3, sG _ _ h4, lcaps, fun x y c e1 e2 => ?_, fun y c e => ?_, fun i y x e1 e2 => ?_⟩⟩
    · exact I.ok.inj x y c (cm e1).1 (cm e2).1
    · obtain ⟨z1, z2⟩ := cm e
      obtain ⟨v, o, ho, hd⟩ := I.cell y c z1
      exact ⟨o, v, cellAt z1 z2 ho, hd⟩
    · have hy : (y, NameKind.free) ∈ d.scope.names := h7 y (List.mem_of_getElem? e1)
      obtain ⟨k1, k2⟩ := h6 _ hy rfl
      obtain ⟨c, hc⟩ := hfr _ hy rfl
      have hcl : (cloFrom T.cells d.scope.names []).lookup y = some c := by rw [h5]; exact NdefX.clo_has hfr hy hc
      obtain ⟨u0, r0, r1⟩ := reps_get h9 e2
      have q1 : (js.map fun j => X.N[j]?)[i]? = some (some y) := by rw [h8, List.getElem?_map, e1]; rfl
      rw [List.getElem?_map] at q1
      obtain ⟨j, j1, j2⟩ := Option.map_eq_some_iff.mp q1
      have q2 : (js.map fun j => σ[j]?)[i]? = some (some (some u0)) := by rw [h10, List.getElem?_map, r0]; rfl
      rw [List.getElem?_map, j1] at q2
      have q3 : σ[j]? = some (some u0) := Option.some.inj q2
      obtain ⟨m, hn, hlook⟩ := I.loc
      obtain ⟨u, ru, lk⟩ := hlook j y u0 j2 q3 (.inr (.inl k1))
      have lk : (X.env.kindOf y = some .local ∧ m y = some u) ∨ ((X.env.kindOf y = some .cell ∨ X.env.kindOf y = some .free) ∧ ∃ c, X.env.cells.lookup y = some c ∧ st.heap.IsCell c (some u)) := lk
      rcases lk with ⟨z, _⟩ | ⟨_, c2, hc2, o, ho, hd⟩
      · have z : X.env.scope.names.lookup y = some .local := z
        rw [k1] at z; cases z
      · rw [hc] at hc2
        cases hc2
        exact ⟨c, o, u, u0, hcl, cellAt hc k2 ho, hd, ru, rep_mono sG (fun _ _ h => h) _ _ r1⟩
  | none => exact h.elim
  | own o => exact h.elim
  | fdef k => exact h.elim
end
theorem map_val : ∀ ds : List D, (ds.map Slot.val).length = ds.length := fun ds => List.length_map _
theorem args_val {g : Gp} {T : Tx} {G H : Hp} {μ : List Addr} : ∀ {ds : List D} {vs : List V}, reps g μ G ds vs → Paired (argOk g T G μ H) (ds.map Slot.val) vs
  | [], vs, h => by rw [show vs = [] from h]; exact .nil
  | d :: ds, vs, ⟨v, r, e, h1, h2⟩ => by rw [e]; exact .cons h1 (args_val h2)
theorem frame0_A (fn : Fn) (ds : List D) : frameA fn (ds.map Slot.val) = frame0 fn ds := by
  unfold frameA frame0
  rw [List.length_map]
theorem runFnA_val (cl : Calls) (sub : Str → Str → Option Bool) (fn : Fn) (ds : List D) (S : Store) : runFnA cl sub fn (ds.map Slot.val) S = runFn cl sub fn ds S := by
  unfold runFnA runFn
  rw [frame0_A]
section
variable {X : Cx} {pins : List (Addr × Obj)} {σ : L2.St} {H : Hp} {st : Shared} {T : Tx} {s : Sg} {W : WX} {Q : VK} {r : Store → Out0}
/-- what a call does, told by how it ends -/
theorem aft_ends (A : At X.gp T s σ H) (q : Aft X.gp T W (lift0 r) s σ fun d s' H' => ∀ v, rep X.gp s'.μ s'.G d v → Q v H') : (match r s.S with
  | .ok d S' => ∀ G' μ' H', Ends0 X.gp T.tabs s.G s.μ H G' μ' S' H' → ∀ v, rep X.gp μ' G' d v → Q v H'
  | .exc c S' => ∀ G' μ' H', Ends0 X.gp T.tabs s.G s.μ H G' μ' S' H' → W (gcls X.gp c) none σ H'
  | .stk => False) := by
  unfold Aft lift0 at q
  cases e : r s.S with
  | stk => rw [e] at q; exact q
  | ok d S' =>
    rw [e] at q
    intro G' μ' H' J v hv
    obtain ⟨J2, h1, h2⟩ := A.back J
    exact q ⟨s.B, G', μ', s.ρ, S'⟩ H' ⟨rfl, h1, h2⟩ rfl rfl J2 v hv
  | exc c S' =>
    rw [e] at q
    intro G' μ' H' J
    obtain ⟨J2, h1, h2⟩ := A.back J
    exact q ⟨s.B, G', μ', s.ρ, S'⟩ H' ⟨rfl, h1, h2⟩ rfl rfl J2
end
section
variable {P : Program} {w : World} {K : PySem.W.Frag} {mg : Str → Option Value} {base : Heap} {Pg : Pgm} {Z : Gz} {tabs : List NdefX.NTab} {cs : List (Addr × Addr)}
/-- the defs of a program -/
structure ProgI (K : PySem.W.Frag) (mg : Str → Option Value) (base : Heap) (Pg : Pgm) (Z : Gz) (tabs : List NdefX.NTab) (cs : List (Addr × Addr)) : Prop where
  top : TopI K mg Z Pg.sub
  defs : ∀ fn ∈ Pg.fns, ∃ f fd, DefI K mg Z tabs cs fn f fd
  clos : ∀ k fn, Pg.clos[k]? = some fn → CloD Z fn k
  cs : ∀ p ∈ cs, LamX.TabB base mg p.1 p.2
theorem find_def (I : ProgI K mg base Pg Z tabs cs) {x : Str} {f : Addr} {fn : Fn} (hm : mg x = some (.ref f)) (hf : (Pg.fns.find? fun f => f.name == x) = some fn) : fn.name = x ∧ ∃ fd, DefI K mg Z tabs cs fn f fd := by
  have hname : fn.name = x := by
    have := List.find?_some hf
    simpa using this
  obtain ⟨f', fd, D⟩ := I.defs fn (List.mem_of_find?_eq_some hf)
  have h1 := D.glo
  rw [hname, hm] at h1
  have h2 := Option.some.inj h1
  injection h2 with h3
  subst h3
  exact ⟨hname, fd, D⟩
/-- a call by values: its promise -/
theorem calls_r {n : Nat} {X : Cx} {T : Tx} {x : Str} {f : Addr} {pins : List (Addr × Obj)} {st : Shared} {σ : L2.St} {H : Hp} {ds kds : List D} {ks : List Str} {us ws : List Value} {vs zs : List V} {s : Sg} {Q : VK} {W : WX} (hg : X.gp = ⟨P, w, K, mg, base⟩) (PI : ProgI K mg base Pg Z tabs cs) (ht : T.tabs = tabs) (hn : T.nfs = Z.nfs)
    (hm : X.mg x = some (.ref f)) (I : L2.Inv X pins σ H st) (rv : Vals vs us) (rz : Vals zs ws) (hl : kds.length = ks.length) (A : At X.gp T s σ H) (r1 : reps X.gp s.μ s.G ds vs) (r2 : reps X.gp s.μ s.G kds zs)
    (q : Aft X.gp T W (lift0 ((callF Pg (n + 1)).f x ds ks kds)) s σ (fun d s' H' => ∀ v, rep X.gp s'.μ s'.G d v → Q v H')) :
    ∃ fn fd us' vs', fn.name = x ∧ DefI K mg Z tabs cs fn f fd ∧ BindsTo st fd ⟨us, ks.zip ws⟩ (fn.ps.zip us') ∧ Vals vs' us' ∧ spA X.gp ⟨tabs, Z.nfs, [], T.exn⟩ (callF Pg n) Pg.sub fn vs' H Q (fun cls d H' => W cls d σ H') := by
  obtain rfl : K = X.K := (congrArg Gp.K hg).symm
  obtain rfl : mg = X.mg := (congrArg Gp.mg hg).symm
  have q2 := aft_ends A q
  cases hf : Pg.fns.find? fun f => f.name == x with
  | none =>
    unfold callF at q2
    dsimp only at q2
    rw [hf] at q2
    exact q2.elim
  | some fn =>
    obtain ⟨hname, fd, D⟩ := find_def PI hm hf
    unfold callF at q2
    dsimp only at q2
    rw [hf] at q2
    dsimp only at q2
    cases ha : arrange fn ds ks kds with
    | none => rw [ha] at q2; exact q2.elim
    | some args =>
      rw [ha] at q2
      dsimp only at q2
      obtain ⟨us', vs', hb, rv', ra, hlen⟩ := D.bind X.gp s.μ s.G st us ws ks vs zs args ds kds rfl I.kIn rv rz hl ha r1 r2
      subst ht
      exact ⟨fn, fd, us', vs', hname, D, hb, rv', s.G, s.μ, s.S, args.map Slot.val, A.core, args_val ra, by rw [List.length_map]; exact hlen, by rw [runFnA_val]; exact q2⟩
/-- a call by things of all kinds: its promise, where the cells are known -/
theorem calls_a {n : Nat} {X : Cx} {T : Tx} {x : Str} {f : Addr} {pins : List (Addr × Obj)} {st : Shared} {σ : L2.St} {H : Hp} {args : List Slot} {us : List Value} {vs : List V} {s : Sg} {Q : VK} {W : WX} (hg : X.gp = ⟨P, w, K, mg, base⟩) (PI : ProgI K mg base Pg Z tabs cs) (ht : T.tabs = tabs) (hn : T.nfs = Z.nfs)
    (hm : X.mg x = some (.ref f)) (I : L2.Inv X pins σ H st) (rv : Vals vs us) (A : At X.gp T s σ H) (pa : Paired (argA X T s σ H) args vs)
    (q : Aft X.gp T W (lift0 ((callF Pg (n + 1)).fa x args)) s σ (fun d s' H' => ∀ v, rep X.gp s'.μ s'.G d v → Q v H')) :
    ∃ fn fd, fn.name = x ∧ DefI K mg Z tabs cs fn f fd ∧ BindsTo st fd ⟨us, []⟩ (fn.ps.zip us) ∧ spA X.gp ⟨tabs, Z.nfs, [], T.exn⟩ (callF Pg n) Pg.sub fn vs (shw (ownC X) (cellsK st.heap) H) (fun v H' => CellsIn (ownC X) H' → Q v (hid (ownC X) H')) (fun cls d H' => CellsIn (ownC X) H' → W cls d σ (hid (ownC X) H')) := by
  obtain rfl : K = X.K := (congrArg Gp.K hg).symm
  obtain rfl : mg = X.mg := (congrArg Gp.mg hg).symm
  have q2 := aft_ends A q
  cases hf : Pg.fns.find? fun f => f.name == x with
  | none =>
    unfold callF at q2
    dsimp only at q2
    rw [hf] at q2
    exact q2.elim
  | some fn =>
    obtain ⟨hname, fd, D⟩ := find_def PI hm hf
    unfold callF at q2
    dsimp only at q2
    rw [hf] at q2
    dsimp only at q2
    cases ha : (args.length == fn.npos && fn.kwd.isEmpty) with
    | false =>
      rw [ha] at q2
      simp only [Bool.false_eq_true, if_false] at q2
    | true =>
      rw [ha, if_pos rfl] at q2
      simp only [Bool.and_eq_true, beq_iff_eq, List.isEmpty_iff] at ha
      have lu : us.length = fn.npos := by rw [← rv.length, ← paired_len pa]; exact ha.1
      obtain ⟨hb, hps⟩ := D.bindA ha.2 st us I.kIn lu
      subst ht
      have h0 := own_none I
      have C := A.core.shw (own_in I) h0
      have key : ∀ {G' : Hp} {μ' : List Addr} {S' : Store} {H' : Hp}, Ends0 X.gp T.tabs (shw (ownC X) (cellsK st.heap) s.G) s.μ (shw (ownC X) (cellsK st.heap) H) G' μ' S' H' → Ends0 X.gp T.tabs s.G s.μ H (hid (ownC X) G') μ' S' (hid (ownC X) H') ∧ CellsIn (ownC X) G' := fun {G' μ' S' H'} J =>
        Ends0.hid A.gh h0 (own_in I) (fun c hc hmu => by
          obtain ⟨u, e, _⟩ := A.muH hmu
          rw [h0 c hc] at e; cases e) J
      refine ⟨fn, fd, hname, D, hb, _, s.μ, s.S, args, C, hn ▸ Paired.mapP pa fun sl v h => argA_ok I A h, ha.1.trans hps, ?_⟩
      revert q2
      cases runFnA (callF Pg n) Pg.sub fn args s.S with
      | stk => exact fun q => q
      | ok d S' =>
        intro q2 G' μ' H' J v hv _
        obtain ⟨J2, ci⟩ := key J
        exact q2 _ _ _ J2 v (rep_hid ci d v hv)
      | exc c S' =>
        intro q2 G' μ' H' J _
        exact q2 _ _ _ (key J).1
end
end MP

namespace MP
open PySem PySem.Spec L2 PyProof.Rows
section
variable {P : Program} {w : World} {K : PySem.W.Frag} {mg : Str → Option Value} {base : Heap} {Pg : Pgm} {Z : Gz} {tabs : List NdefX.NTab} {cs : List (Addr × Addr)}
theorem pin_ok {X : Cx} {pins : List (Addr × Obj)} {σ : L2.St} {H : Hp} {st : Shared} {p : Addr × Obj} (I : L2.Inv X pins σ H st) (hp : p ∈ X.pn) : L2H.PinOk X.stack H st p := by
  obtain ⟨h1, h2, h3, h4, h5⟩ := I.pin p (List.mem_append_left _ hp)
  exact ⟨h1, h2, fun hm => (List.mem_cons.mp (I.stkSub p.1 hm)).elim h3 h4, h5⟩
theorem pin_shw {X : Cx} {pins : List (Addr × Obj)} {σ : L2.St} {H : Hp} {st : Shared} {p : Addr × Obj} (I : L2.Inv X pins σ H st) (hp : p ∈ X.pn) : L2H.PinOk X.stack (shw (ownC X) (cellsK st.heap) H) st p := by
  have h := pin_ok I hp
  refine ⟨h.get, ?_, h.nofs, h.nocell⟩
  have nc : p.1 ∉ ownC X := fun hc => by
    obtain ⟨o, v, _, e2, e3⟩ := own_cell I _ hc
    have e := h.get
    rw [e3] at e
    cases e
    exact h.nocell v e2
  rw [shw_out nc]; exact h.free
theorem hot_ok (PI : ProgI K mg base Pg Z tabs cs) : ∀ n, HotL P w K mg base tabs Pg Z n
  | 0 => fun X T p hg hr hh hp ht hn hx tk => ⟨fun x f pins st σ H ds kds ks us ws vs zs s Q _ _ _ _ _ _ _ _ _ q => q.elim, fun x f pins st σ H args us vs s Q _ _ _ _ _ _ q => q.elim, fun h => nomatch h⟩
  | n + 1 => fun X T p hg hr hh hp ht hn hx tk => by
    obtain rfl : P = X.prog := (congrArg Gp.P hg).symm
    obtain rfl : w = X.w := (congrArg Gp.w hg).symm
    obtain rfl : K = X.K := (congrArg Gp.K hg).symm
    obtain rfl : mg = X.mg := (congrArg Gp.mg hg).symm
    obtain rfl : base = X.base := (congrArg Gp.base hg).symm
    refine ⟨fun x f pins st σ H ds kds ks us ws vs zs s Q hok hm I rv rz hl A r1 r2 q => ?_, fun x f pins st σ H args us vs s Q hok hm I rv A pa q => ?_, fun h => nomatch h⟩
    · obtain ⟨fn, fd, us', vs', hname, D, hb, rv', hsp⟩ := calls_r hg PI ht hn hm I rv rz hl A r1 r2 q
      have hot : Z.hot.contains fn.name = true := by rw [hname]; exact hok
      exact cal_fin I tk (fn_okH (T := ⟨tabs, Z.nfs, [], T.exn⟩) PI.top D hot rfl rfl hx hr hh (pin_ok I hp) I.env0 hb rv' hsp)
    · obtain ⟨fn, fd, hname, D, hb, hsp⟩ := calls_a hg PI ht hn hm I rv A pa q
      have hot : Z.hot.contains fn.name = true := by rw [hname]; exact hok
      exact cal_fin I tk (cal_hid (own_none I) (own_cell I) (fn_okH (T := ⟨tabs, Z.nfs, [], T.exn⟩) PI.top D hot rfl rfl hx hr hh (pin_shw I hp) (env_shw I) hb rv hsp))
theorem collect {α : Type} {R : Nat → α → Prop} : ∀ {n : Nat}, (∀ i, i < n → ∃ a, R i a) → ∃ l : List α, l.length = n ∧ ∀ i, i < n → ∃ a, l[i]? = some a ∧ R i a
  | 0, _ => ⟨[], rfl, fun i h => absurd h (Nat.not_lt_zero i)⟩
  | n + 1, h => by
    obtain ⟨l, e, hl⟩ := collect (n := n) fun i hi => h i (by omega)
    obtain ⟨a, ha⟩ := h n (by omega)
    refine ⟨l ++ [a], by simp [e], fun i hi => ?_⟩
    by_cases hn : i < n
    · obtain ⟨b, e1, e2⟩ := hl i hn
      exact ⟨b, by rw [List.getElem?_append_left (by omega)]; exact e1, e2⟩
    · have : i = n := by omega
      subst this
      exact ⟨a, by rw [List.getElem?_append_right (by omega), e]; simp, ha⟩
theorem paired_of {α β : Type} {R : α → β → Prop} : ∀ {l : List α} {m : List β}, l.length = m.length → (∀ (i : Nat) a b, l[i]? = some a → m[i]? = some b → R a b) → Paired R l m
  | [], [], _, _ => .nil
  | [], _ :: _, h, _ => by cases h
  | _ :: _, [], h, _ => by cases h
  | a :: l, b :: m, h, k => .cons (k 0 a b rfl rfl) (paired_of (Nat.succ.inj h) fun i x y e1 e2 => k (i + 1) x y (by simpa using e1) (by simpa using e2))
def cellsC (cl : List (Str × Addr)) : List Addr := cl.filterMap fun p => cl.lookup p.1
theorem cellsC_iff {cl : List (Str × Addr)} {c : Addr} : c ∈ cellsC cl ↔ ∃ y, cl.lookup y = some c := by
  unfold cellsC
  rw [List.mem_filterMap]
  exact ⟨fun ⟨p, _, e⟩ => ⟨p.1, e⟩, fun ⟨y, e⟩ => ⟨(y, c), PySem.mem_of_lookup e, e⟩⟩
/-- a call of an inner def that was handed in -/
theorem calls_c {n : Nat} {X : Cx} {T : Tx} {k : Nat} {caps : List D} {f : Addr} {pins : List (Addr × Obj)} {st : Shared} {σ : L2.St} {H : Hp} {ds : List D} {us : List Value} {vs : List V} {s : Sg} {Q : VK} {W : WX} (hg : X.gp = ⟨P, w, K, mg, base⟩) (PI : ProgI K mg base Pg Z tabs cs) (hC : CalmL P w K mg base tabs Pg Z n) (hr : Room (n + 1) X.A) (hgd : X.A.guards = some []) (tk : L2N.Takes X W) (ht : T.tabs = tabs) (hn : T.nfs = Z.nfs)
    (I : L2.Inv X pins σ H st) (rv : Vals vs us) (A : At X.gp T s σ H) (co : CloOk X.gp T.nfs s.μ s.G k caps f) (r1 : reps X.gp s.μ s.G ds vs)
    (q : Aft X.gp T W (lift0 ((callF Pg (n + 1)).c k caps ds)) s σ (fun d s' H' => ∀ v, rep X.gp s'.μ s'.G d v → Q v H')) : wpAny (model X.prog X.w) X.A (call (.ref f) us) (EP X pins σ Q) X.xe st := by
  obtain rfl : P = X.prog := (congrArg Gp.P hg).symm
  obtain rfl : w = X.w := (congrArg Gp.w hg).symm
  obtain rfl : K = X.K := (congrArg Gp.K hg).symm
  obtain rfl : mg = X.mg := (congrArg Gp.mg hg).symm
  obtain rfl : base = X.base := (congrArg Gp.base hg).symm
  have q2 := aft_ends A q
  unfold callF at q2
  dsimp only at q2
  cases hf : Pg.clos[k]? with
  | none => rw [hf] at q2; exact q2.elim
  | some fn =>
    rw [hf] at q2
    dsimp only at q2
    cases ha : (ds.length == fn.npos) with
    | false => rw [ha] at q2; simp only [Bool.false_eq_true, if_false] at q2
    | true =>
      rw [ha, if_pos rfl] at q2
      have ha := eq_of_beq ha
      obtain ⟨⟨d, cl, c', h1, h2, h3, h4, h5, h6, h7⟩⟩ := co
      rw [hn] at h1
      have CD := PI.clos k fn hf
      have ok := clo_ok (f := f) (c' := c') (cl := cl) PI.top h1 CD hC
      obtain ⟨d', e1, _, _, hnp, _⟩ := CD.ex
      rw [h1] at e1
      cases e1
      have cG : CellsIn (cellsC cl) s.G := fun c hc => by
        obtain ⟨y, e⟩ := cellsC_iff.mp hc
        obtain ⟨o, u, a, b⟩ := h6 y c e
        exact ⟨o, u, a, b⟩
      have cH : CellsIn (cellsC cl) H := fun c hc => let ⟨o, u, e, d⟩ := cG c hc; ⟨o, u, A.gh _ _ e, d⟩
      have e0 := I.env0
      have eh : Env0 X.prog X.w X.K X.mg X.base X.A X.stack st (hid (cellsC cl) H) := ⟨e0.frames, e0.mod, fun b o e => ⟨(e0.bs b o e).1, by unfold hid; split; rfl; exact (e0.bs b o e).2⟩, e0.bsz, e0.funs, fun b hb => by unfold hid; split; rfl; exact e0.frf b hb, hok_hid cH e0.hok, e0.bare⟩
      obtain ⟨ws, lw, hw⟩ := collect (n := d.fr.length) (R := fun i wv => ∀ y x, d.fr[i]? = some y → caps[i]? = some x → ∃ c o u v, wv = some v ∧ cl.lookup y = some c ∧ s.G c = some (CellO c o) ∧ o.data = .cell (some u) ∧ RelV v u ∧ rep X.gp s.μ s.G x v) fun i hi => by
        obtain ⟨c, o, u, v, a1, a2, a3, a4, a5⟩ := h7 i d.fr[i] (caps[i]'(by omega)) (List.getElem?_eq_getElem hi) (List.getElem?_eq_getElem (by omega))
        refine ⟨some v, fun y x ey ex => ?_⟩
        rw [List.getElem?_eq_getElem hi] at ey
        rw [List.getElem?_eq_getElem (by omega)] at ex
        cases ey; cases ex
        exact ⟨c, o, u, v, rfl, a1, a2, a3, a4, a5⟩
      have cat : NdefX.CellsAt (d.nf cl c').cl d.fr ws st.heap (hid (cellsC cl) H) := by
        refine ⟨lw, fun y c e => ?_, h5, fun i y e => ?_⟩
        · have hc : c ∈ cellsC cl := cellsC_iff.mpr ⟨y, e⟩
          obtain ⟨o, u, a, b⟩ := cH c hc
          exact ⟨hid_in hc, u, o, (e0.hok c _ a).1, b⟩
        · have hi := (List.getElem?_eq_some_iff.mp e).1
          obtain ⟨wv, ew, hR⟩ := hw i hi
          obtain ⟨c, o, u, v, z1, z2, z3, z4, z5, z6⟩ := hR y (caps[i]'(by omega)) e (List.getElem?_eq_getElem (by omega))
          refine ⟨c, z2, fun v' ev => ?_⟩
          rw [ew, z1] at ev
          cases ev
          exact ⟨u, z5, o, (e0.hok c _ (A.gh _ _ z3)).1, z4⟩
      have hidf : ∀ {a : Addr} {o : HO}, s.G a = some o → (∀ c u, o ≠ CellO c u) → hid (cellsC cl) H a = some o := fun {a o} e nc => by
        rw [hid_out (cG.out e nc)]; exact A.gh _ _ e
      subst ht
      refine cal_fin I tk (cal_shw cH e0.hok e0.frf (ok.run X.A X.stack st (hid (cellsC cl) H) us vs ws _ _ hr hgd eh (hidf h2 fun c u z => by unfold NdefX.FnO CellO at z; cases z) (hidf h3 fun c u z => by unfold LamX.CodeO CellO at z; cases z) cat rv ?_))
      refine ⟨hid (cellsC cl) s.G, s.μ, s.S, ds, caps, A.core.hid cG, reps_hid cG _ _ r1, paired_of (by omega) fun i x wv e1 e2 => ?_, ha.trans hnp, h4, ?_⟩
      · have hi : i < d.fr.length := by rw [← h4]; exact (List.getElem?_eq_some_iff.mp e1).1
        obtain ⟨wv', ew, hR⟩ := hw i hi
        rw [ew] at e2
        cases e2
        obtain ⟨c, o, u, v, z1, _, _, _, _, z6⟩ := hR d.fr[i] x (List.getElem?_eq_getElem hi) e1
        exact ⟨v, z1, rep_hid cG _ _ z6⟩
      · revert q2
        cases runFn (callF Pg n) Pg.sub fn (ds ++ caps) s.S with
        | stk => exact fun q => q
        | ok dd S' =>
          intro q2 G' μ' H' J v hv hnn
          exact q2 _ _ _ (Ends0.shw A.gh cG hnn J) v (rep_mono (shw_sub fun c hc => J.gh.none (hnn c hc)) (fun _ _ h => h) _ _ hv)
        | exc c S' =>
          intro q2 G' μ' H' J hnn
          exact q2 _ _ _ (Ends0.shw A.gh cG hnn J)
theorem calm_ok (PI : ProgI K mg base Pg Z tabs cs) : ∀ n, CalmL P w K mg base tabs Pg Z n
  | 0 => fun X W T ok hg hr hgd tk ht hn hx => ⟨fun x f pins st σ H ds kds ks us ws vs zs s Q _ _ _ _ _ _ _ _ _ q => q.elim, fun x f pins st σ H args us vs s Q _ _ _ _ _ _ q => q.elim, fun _ k caps f pins st σ H ds us vs s Q _ _ _ _ _ q => q.elim⟩
  | n + 1 => fun X W T ok hg hr hgd tk ht hn hx => by
    have ih := calm_ok PI n
    refine ⟨fun x f pins st σ H ds kds ks us ws vs zs s Q hok hm I rv rz hl A r1 r2 q => ?_, fun x f pins st σ H args us vs s Q hok hm I rv A pa q => ?_, fun _ k caps f pins st σ H ds us vs s Q I rv A co r1 q => calls_c hg PI ih hr hgd tk ht hn I rv A co r1 q⟩
    · obtain ⟨fn, fd, us', vs', hname, D, hb, rv', hsp⟩ := calls_r hg PI ht hn hm I rv rz hl A r1 r2 q
      obtain rfl : P = X.prog := (congrArg Gp.P hg).symm
      obtain rfl : w = X.w := (congrArg Gp.w hg).symm
      obtain rfl : K = X.K := (congrArg Gp.K hg).symm
      obtain rfl : mg = X.mg := (congrArg Gp.mg hg).symm
      obtain rfl : base = X.base := (congrArg Gp.base hg).symm
      rw [hx] at hsp
      exact cal_fin I tk ((fn_okG PI.top D PI.cs ih (hot_ok PI n)).run X.A X.stack st H _ us' vs' _ _ hr hgd I.env0 hb rv' hsp)
    · obtain ⟨fn, fd, hname, D, hb, hsp⟩ := calls_a hg PI ht hn hm I rv A pa q
      obtain rfl : P = X.prog := (congrArg Gp.P hg).symm
      obtain rfl : w = X.w := (congrArg Gp.w hg).symm
      obtain rfl : K = X.K := (congrArg Gp.K hg).symm
      obtain rfl : mg = X.mg := (congrArg Gp.mg hg).symm
      obtain rfl : base = X.base := (congrArg Gp.base hg).symm
      rw [hx] at hsp
      exact cal_fin I tk (cal_hid (own_none I) (own_cell I) ((fn_okG PI.top D PI.cs ih (hot_ok PI n)).run X.A X.stack st _ _ us vs _ _ hr hgd (env_shw I) hb rv hsp))
end
end MP

namespace MP
open PySem PySem.Spec L2 PyProof.Rows LamX
/-! ### the law's end, where no guard stands -/
/-- what is known of the law's def at the head's heap -/
structure LawG (l : PySem.W.OpenLaw) (w : World) (K : PySem.W.Frag) (k n : Nat) (x : Str) (mg : Str → Option Value) (fa : Addr) (h : Heap) : Prop where
  ex : ∃ (fd : FuncData) (cs : List (Addr × Addr)) (sp : Sp), (∀ p ∈ cs, h.get? p.2 = some { cls := .none, data := .fields #[] }) ∧ (∀ p ∈ cs, K.lookup p.2 = none) ∧ (∀ p ∈ cs, PySem.W.codeHdIn K p.1 p.2 = true) ∧ (∀ (s : Shared) (u : Value), BindsTo s fd ⟨[u], []⟩ [(x, u)]) ∧
    (∀ (H : Hp) (a : Addr) (ns : List Int), ns.length ≤ n → (∀ p ∈ cs, H p.2 = some (.tbl #[])) → SqL K H a (ns.map V.int) → sp [.ref a] H (fun v _ => v = .bl true) fun _ _ _ => False) ∧
    ∀ base : Heap, K.In base → base.Ns mainGlobals mg → (∀ p ∈ cs, TabB base mg p.1 p.2) → FnG l.prog w K mg base (L2N.CX l.prog w) k fa fd [x] sp
section
variable {P : Program} {w : World} {K : PySem.W.Frag} {mg mb : Str → Option Value} {fa a : Addr} {cs : List (Addr × Addr)} {sh : Shared} {vs : List Value} {ns : List Int}
/-- nothing is tracked but the script and the tables -/
def lawH (K : PySem.W.Frag) (cs : List (Addr × Addr)) (a : Addr) (vs : List Value) (ns : List Int) : Hp := fun b =>
  if b = a ∧ (K.lookup a).isNone = true then some (.frz { cls := .type "list", data := .seq vs.toArray } (.lst (ns.map V.int))) else if b ∈ cs.map (·.2) then some (.tbl #[]) else none
theorem lawH_some {b : Addr} {u : HO} (e : lawH K cs a vs ns b = some u) : (b = a ∧ K.lookup a = none ∧ u = .frz { cls := .type "list", data := .seq vs.toArray } (.lst (ns.map V.int))) ∨ ((∃ p ∈ cs, p.2 = b) ∧ u = .tbl #[]) := by
  unfold lawH at e
  split at e
  · rename_i h
    cases e
    exact .inl ⟨h.1, Option.isNone_iff_eq_none.mp h.2, rfl⟩
  · split at e
    · rename_i h
      cases e
      obtain ⟨p, hp, ep⟩ := List.mem_map.mp h
      exact .inr ⟨⟨p, hp, ep⟩, rfl⟩
    · cases e
theorem law_callG {k : Nat} {fd : FuncData} {x : Str} {sp : Sp} (KX : K.In sh.heap) (hns : sh.heap.Ns mainGlobals mg) (hb : sh.heap.Ns builtinsNs mb) (hbb : ∀ x : Str, x ≠ "__name__" → mb x = bootBuiltins x) (hlim : sh.heap.NoLimit) (hg : sh.gens = #[])
    (hT : ∀ p ∈ cs, sh.heap.get? p.2 = some { cls := .none, data := .fields #[] }) (nT : ∀ p ∈ cs, K.lookup p.2 = none) (hC : ∀ p ∈ cs, PySem.W.codeHdIn K p.1 p.2 = true)
    (hbm : ∃ (bm : Addr) (ob : Obj), mg "__builtins__" = some (.ref bm) ∧ bm ≠ builtinsNs ∧ sh.heap.get? bm = some ob ∧ ob.cls = .type "module" ∧ ob.dict = some builtinsNs ∧ ob.data = .plain)
    (ha : sh.heap.get? a = some { cls := .type "list", data := .seq vs.toArray }) (hi : IntsAre vs ns) (hl : ns.length ≤ sizeLine) (hr : Room k callerA)
    (F : ∀ base : Heap, K.In base → base.Ns mainGlobals mg → (∀ p ∈ cs, TabB base mg p.1 p.2) → FnG P w K mg base (L2N.CX P w) k fa fd [x] sp) (hbind : ∀ (s : Shared) (u : Value), BindsTo s fd ⟨[u], []⟩ [(x, u)])
    (hsp : ∀ H : Hp, (∀ p ∈ cs, H p.2 = some (.tbl #[])) → SqL K H a (ns.map V.int) → sp [.ref a] H (fun v _ => v = .bl true) fun _ _ _ => False) :
    codeAny (model P w) callerA (.call (.ref fa) ⟨[.ref a], []⟩) (fun r s' => r = .ok (.ret (.bool true)) ∧ OldK sh.heap s'.heap ∧ s'.os = sh.os ∧ AllBare s'.gens) sh := by
  have rv := vals_ints hi
  have notT : ∀ p ∈ cs, p.2 ≠ a := fun p hp z => by
    have e := hT p hp
    rw [z, ha] at e
    cases e
  generalize hH : lawH K cs a vs ns = H
  have cH : ∀ {b : Addr} {u : HO}, H b = some u → (b = a ∧ K.lookup a = none ∧ u = .frz { cls := .type "list", data := .seq vs.toArray } (.lst (ns.map V.int))) ∨ ((∃ p ∈ cs, p.2 = b) ∧ u = .tbl #[]) := fun {b u} e => lawH_some (by rw [hH]; exact e)
  have tH : ∀ p ∈ cs, H p.2 = some (.tbl #[]) := fun p hp => by
    rw [← hH]
    unfold lawH
    rw [if_neg (fun z => notT p hp z.1), if_pos (List.mem_map.mpr ⟨p, hp, rfl⟩)]
  -- an object that is no list and no empty record is not tracked
  have off : ∀ {b : Addr} {o : Obj}, sh.heap.get? b = some o → (∀ us n, o.data ≠ .seq us n) → o.data ≠ .fields #[] → H b = none := fun {b o} e n1 n2 => by
    cases q : H b with
    | none => rfl
    | some u =>
      rcases cH q with ⟨z, _⟩ | ⟨⟨p, hp, z⟩, _⟩
      · rw [z, ha] at e; cases e; exact absurd rfl (n1 _ _)
      · rw [← z, hT p hp] at e; cases e; exact absurd rfl n2
  have kIn : K.In (hidT sh.heap H) := fun b o e => hidT_get (KX b o e) (by
    cases q : H b with
    | none => rfl
    | some u =>
      rcases cH q with ⟨z, z2, _⟩ | ⟨⟨p, hp, z⟩, _⟩
      · rw [z, z2] at e; cases e
      · rw [← z, nT p hp] at e; cases e)
  have kNs : ∀ {b : Addr} {m : Str → Option Value}, sh.heap.Ns b m → (hidT sh.heap H).Ns b m := fun {b m} ⟨o, es, ep, e, hd, rest⟩ =>
    ⟨o, es, ep, hidT_get e (off e (fun us n z => by rw [hd] at z; cases z) fun z => by rw [hd] at z; cases z), hd, rest⟩
  have hM : L2.Mod K mg (hidT sh.heap H) := ⟨kIn, kNs hns, ⟨mb, kNs hb, hbb⟩, let ⟨mc, h1, h2⟩ := hlim; ⟨mc, kNs h1, h2⟩⟩
  have mainNe : ∀ {b : Addr} {o : Obj}, sh.heap.get? b = some o → (∀ es ep, o.data ≠ .dict es ep) → mainGlobals ≠ b := fun {b o} e n z => by
    obtain ⟨o', es, ep, e', hd, _⟩ := hns
    rw [z, e] at e'
    cases e'
    exact n _ _ hd
  have TB : ∀ p ∈ cs, TabB (hidT sh.heap H) mg p.1 p.2 := fun p hp => by
    refine ⟨PySem.W.codeHd_of_K kIn (hC p hp), ?_, mainNe (hT p hp) fun es ep z => by cases z⟩
    obtain ⟨bm, ob, b1, b2, b3, b4, b5, b6⟩ := hbm
    refine ⟨bm, ob, b1, b2, (mainNe b3 fun es ep z => by rw [b6] at z; cases z).symm, fun z => ?_, hidT_get b3 (off b3 (fun us n z => by rw [b6] at z; cases z) fun z => by rw [b6] at z; cases z), b4, b5, b6⟩
    rw [z, hT p hp] at b3
    cases b3
    cases b6
  have hok : HOk P w H sh.heap := fun b u e => by
    rcases cH e with ⟨z, _, z2⟩ | ⟨⟨p, hp, z⟩, z2⟩
    · rw [z2, z]
      exact ⟨ha, by rw [List.length_map]; exact hl, vs, _, rv, ha⟩
    · rw [z2, ← z]
      exact hT p hp
  have hS : SqL K H a (ns.map V.int) := by
    cases hk : K.lookup a with
    | none =>
      refine .inl (.inr ⟨{ cls := .type "list", data := .seq vs.toArray }, ?_⟩)
      rw [← hH]
      unfold lawH
      rw [if_pos ⟨rfl, by rw [hk]; rfl⟩]
    | some o =>
      have e := KX a o hk
      rw [ha] at e
      cases e
      exact .inr ⟨_, vs.toArray, _, hk, rfl, rfl, rfl, by rw [List.size_toArray, hi.length]; exact hl, by simpa using rv⟩
  have e0 : Env0 P w K mg (hidT sh.heap H) callerA [] sh H := ⟨rfl, hM, fun b o e => of_hidT e, Nat.le_of_eq (hidT_size _ _), trivial, fun b hb => absurd (show b ∈ ([] : List Addr) from hb) (by simp), hok, .of_eq hg⟩
  refine codeAny_mono ((F _ kIn (kNs hns) TB).run callerA [] sh H ⟨[.ref a], []⟩ [.ref a] [.ref a] _ _ hr rfl e0 (hbind sh (.ref a)) (.cons rfl .nil) (hsp H tH hS)) fun r s' h => ?_
  match r, h with
  | .error e, h =>
    obtain ⟨_, _, _, _, _, _, _, _, _, _, _, _, hE⟩ := h
    exact hE.elim
  | .ok .next, h => exact False.elim h
  | .ok .brk, h => exact False.elim h
  | .ok .cont, h => exact False.elim h
  | .ok (.ret u), h =>
    obtain ⟨v, H', os, bare, un, hok', rv', q⟩ := h
    have q : v = .bl true := q
    subst q
    cases (show u = Value.bool true from rv')
    have kept : ∀ b o, (∀ p ∈ cs, p.2 ≠ b) → sh.heap.get? b = some o → s'.heap.get? b = some o := fun b o nb e => by
      cases q : H b with
      | none => exact un.keep b o e q (fun z => absurd (show b ∈ ([] : List Addr) from z) (by simp)) (by simp)
      | some u =>
        rcases cH q with ⟨z, _, z2⟩ | ⟨⟨p, hp, z⟩, _⟩
        · rw [z2] at q
          rw [z, ha] at e
          cases e
          rw [z]
          exact (hok' a _ (un.frzs a _ _ (by rw [← z]; exact q))).1
        · exact absurd z (nb p hp)
    have grown : ∀ p ∈ cs, ∃ more : Array Value, s'.heap.get? p.2 = some { cls := .none, data := .fields more } := fun p hp => by
      obtain ⟨more, z⟩ := un.tbls p.2 #[] (tH p hp)
      exact ⟨_, hok' p.2 _ z⟩
    refine ⟨rfl, ⟨fun b o e => ?_, fun b o e => ?_⟩, os, bare⟩
    · by_cases hb : ∃ p ∈ cs, p.2 = b
      · obtain ⟨p, hp, ep⟩ := hb
        obtain ⟨more, hm⟩ := grown p hp
        subst ep
        rw [hT p hp] at e
        cases e
        exact .inr (.inl ⟨((PySem.W.codeHd_of_K KX (hC p hp)).tab (hT p hp)).isCodeTable, rfl, #[], more, rfl, by rw [Array.empty_append]; exact hm⟩)
      · exact .inl (kept b o (fun p hp z => hb ⟨p, hp, z⟩) e)
    · by_cases hb : ∃ p ∈ cs, p.2 = b
      · obtain ⟨p, hp, ep⟩ := hb
        obtain ⟨more, hm⟩ := grown p hp
        subst ep
        exact ⟨_, hm⟩
      · exact ⟨o, kept b o (fun p hp z => hb ⟨p, hp, z⟩) e⟩
theorem walk_G {l : PySem.W.OpenLaw} {n k : Nat} {q : Program} {loose : List Str} {XP : (Str → Option Value) → Heap → Prop} {YP : World → Heap → Prop} {d : DefRec} {x : Str} (hn : l.most = some n) (hn2 : n ≤ sizeLine) (hdf : d.params.defaults = []) (hr : Room k callerA)
    (F : ∀ (w : World) (mg : Str → Option Value) (fa : Addr) (h : Heap), YP w h → h.Ns mainGlobals mg → mg d.name = some (.ref fa) → ∃ K : PySem.W.Frag, K.In h ∧ LawG l w K k n x mg fa h) : PySem.W.WalkO q loose XP YP l.row.toRowW d [] (fun f vs => PySem.call f vs) := by
  refine Att.attach_callB hn hdf fun w s0 s1 mg mb fa o pm cd doc a vs ns G Y _ _ _ hmg hobj hints hlen _ hg => ?_
  obtain ⟨K, KX, ⟨fd, cs, sp, hT, nT, hC, hb, hsp, hF⟩⟩ := F w mg fa _ Y G.T.g hmg
  exact law_callG KX G.T.g G.T.b G.T.builtins G.T.nolimit hg hT nT hC G.T.bmain hobj hints (Nat.le_trans hlen hn2) hr hF hb fun H hH hS => hsp H a ns hlen hH hS
end
end MP

namespace MP
open PySem PySem.Spec L2 PyProof.Rows
def nonB (K : PySem.W.Frag) (nn : List Str) : Bool := nn.all fun x => decide (PySem.W.nsIn K mainGlobals x = some (some .none))
theorem non_ok {K : PySem.W.Frag} {h : Heap} {mg : Str → Option Value} {nn : List Str} (X : K.In h) (G : h.Ns mainGlobals mg) (c : nonB K nn = true) {x : Str} (hx : x ∈ nn) : mg x = some .none :=
  PySem.W.mg_of X G (of_decide_eq_true (List.all_eq_true.mp c x hx))
/-! ### the head's hook: names that are None, the exceptions' classes, tables of code objects -/
/-- a class's facts, by computation -/
def excCB (K : PySem.W.Frag) (D : Addr) : Bool := decide (PySem.W.findIn K (.ref D) "__getattribute__" = some (some (.builtin "BaseException.__getattribute__"))) && decide (PySem.W.findIn K (.ref D) "__getattr__" = some none) && decide (PySem.W.subIn K (.ref D) (.type "BaseException") = some true) && PySem.W.hasDictIn K D &&
  decide (PySem.W.findIn K (.ref D) "__class__" = some (some (.builtin "object.__class__"))) && decide (PySem.W.specialIn K (.builtin "object.__class__") "__get__" = some (some (.builtin "getset_descriptor.__get__"))) && decide (PySem.W.takesIn K (.builtin "object.__class__") = some true) && decide (PySem.W.mroIn K D (.type "object") = some true)
theorem excCB_ok {K : PySem.W.Frag} {D : Addr} (h : excCB K D = true) : ExcC K D := by
  unfold excCB at h
  simp only [Bool.and_eq_true, decide_eq_true_eq] at h
  obtain ⟨⟨⟨⟨⟨⟨⟨h1, h2⟩, h3⟩, h4⟩, h5⟩, h6⟩, h7⟩, h8⟩ := h
  exact ⟨h1, h2, h3, h4, h5, h6, h7, h8⟩
abbrev SubT := List (Str × Str × Bool)
def subOf (t : SubT) (c x : Str) : Option Bool := (t.find? fun q => q.1 == c && q.2.1 == x).map (·.2.2)
theorem subOf_mem {t : SubT} {c x : Str} {b : Bool} (h : subOf t c x = some b) : (c, x, b) ∈ t := by
  unfold subOf at h
  obtain ⟨⟨c', x', b'⟩, e1, e2⟩ := Option.map_eq_some_iff.mp h
  have hm := List.mem_of_find?_eq_some e1
  have hp := List.find?_some e1
  simp only [Bool.and_eq_true, beq_iff_eq] at hp
  obtain ⟨h1, h2⟩ := hp
  subst h1 h2 e2
  exact hm
/-- the value of a class's name -/
def clsK (K : PySem.W.Frag) (owns : List Str) (x : Str) : Value := if owns.contains x then .ref (He.ga K x) else (bootBuiltins x).getD .none
abbrev TfN := List (Str × List (Nat × Nat × Str))
def tabsK (K : PySem.W.Frag) (tf : TfN) : List Addr := tf.map fun p => (He.cT K (p.1, none)).2
def exK (nn owns : List Str) (t : SubT) (tf : TfN) (K : PySem.W.Frag) : Bool := nonB K nn && (K.lookup sysModules).isSome && (t.all fun q => excCB K (He.ga K q.1) && decide (PySem.W.kitOne K (.ref (He.ga K q.1)) (clsK K owns q.2.1) = some q.2.2) && (!owns.contains q.2.1 || decide (PySem.W.exmOne K (.ref (He.ga K q.1)) (.ref (He.ga K q.2.1)) = some q.2.2))) && decide (tabsK K tf).Nodup
abbrev AlM : Type := He.AlD × Bool
def frM (n : Nat) (g : Addr → Option Obj) : PySem.W.Frag := He.frT g (sysModules :: He.asD g n)
def obsM (n : Nat) (fa : List He.Fa) (fn : List He.DefD) (ex : PySem.W.Frag → Bool) (tf : TfN) (g : Addr → Option Obj) : AlM := (He.obsD fa fn (frM n g), ex (frM n g) && He.tabsB g (tf.map fun p => (p.1, none)) (frM n g))
/-- what the hook tells -/
structure SaysM (fa : List He.Fa) (fn : List He.DefD) (ex : PySem.W.Frag → Bool) (tf : TfN) (h : Heap) (K : PySem.W.Frag) : Prop where
  d : He.SaysD fa fn K
  ex : ex K = true
  hd : ∀ p ∈ tf, PySem.W.codeHdIn K (He.cT K (p.1, none)).1 (He.cT K (p.1, none)).2 = true
  out : ∀ p ∈ tf, K.lookup (He.cT K (p.1, none)).2 = none
  empty : ∀ p ∈ tf, h.get? (He.cT K (p.1, none)).2 = some { cls := .none, data := .fields #[] }
theorem saysM_of {n : Nat} {fa : List He.Fa} {fn : List He.DefD} {ex : PySem.W.Frag → Bool} {tf : TfN} {h : Heap} (e : obsM n fa fn ex tf h.get? = (He.valD fn, true)) : SaysM fa fn ex tf h (frM n h.get?) := by
  have e1 := congrArg Prod.fst e
  have e2 : (ex (frM n h.get?) && He.tabsB h.get? (tf.map fun p => (p.1, none)) (frM n h.get?)) = true := congrArg Prod.snd e
  rw [Bool.and_eq_true] at e2
  obtain ⟨h1, h2⟩ := e2
  have at_ : ∀ p ∈ tf, PySem.W.codeHdIn (frM n h.get?) (He.cT (frM n h.get?) (p.1, none)).1 (He.cT (frM n h.get?) (p.1, none)).2 = true ∧ ∃ o, h.get? (He.cT (frM n h.get?) (p.1, none)).2 = some o ∧ He.emptyTab o = true := fun p hp => by
    have z := List.all_eq_true.mp (show ((tf.map fun p => ((p.1, none) : He.Defn)).all fun p => PySem.W.codeHdIn (frM n h.get?) (He.cT (frM n h.get?) p).1 (He.cT (frM n h.get?) p).2 && (match h.get? (He.cT (frM n h.get?) p).2 with
      | some o => He.emptyTab o
      | none => false)) = true from h2) (p.1, none) (List.mem_map.mpr ⟨p, hp, rfl⟩)
    rw [Bool.and_eq_true] at z
    refine ⟨z.1, ?_⟩
    have z2 := z.2
    split at z2
    · rename_i o ho; exact ⟨o, ho, z2⟩
    · cases z2
  refine ⟨e1, h1, fun p hp => (at_ p hp).1, fun p hp => ?_, fun p hp => ?_⟩
  · obtain ⟨_, o, q, z⟩ := at_ p hp
    exact He.frT_none q z
  · obtain ⟨_, o, q, z⟩ := at_ p hp
    rw [q, He.emptyTab_eq z]
def hookM (n : Nat) (fa : List He.Fa) (fn : List He.DefD) (ex : PySem.W.Frag → Bool) (tf : TfN) : PySem.W.Hook where
  α := AlM
  obs := fun s => obsM n fa fn ex tf s.heap.get?
  val := fun _ => (He.valD fn, true)
  says := fun _ h => ∃ K : PySem.W.Frag, K.In h ∧ SaysM fa fn ex tf h K
  of := fun _ _ e => ⟨_, He.frT_in, saysM_of e⟩
  keeps := fun _ _ _ ⟨K, hK, c⟩ k => ⟨K, PySem.W.Frag.In.keeps hK k, ⟨c.d, c.ex, c.hd, c.out, fun p hp => k _ _ (c.empty p hp)⟩⟩
theorem obsM_eq {n : Nat} {fa : List He.Fa} {fn : List He.DefD} {ex : PySem.W.Frag → Bool} {tf : TfN} {g : Addr → Option Obj} {s : Shared} (h : ∀ a, g a = s.heap.get? a) : obsM n fa fn ex tf g = (hookM n fa fn ex tf).obs s := by
  have e : g = s.heap.get? := funext h
  rw [e] <;> rfl
/-! ### binding without keywords -/
theorem bind_plain {K : PySem.W.Frag} {fn : Fn} {fd : FuncData} (hk : fn.kwd = []) (hp : fn.npos = fn.ps.length) (hb : Binds K fd fn.ps []) :
    ∀ (g : Gp) (μ : List Addr) (G : Hp) (st : Shared) (us ws : List Value) (ks : List Str) (vs zs : List V) (args ds kds : List D), g.K = K → K.In st.heap → Vals vs us → Vals zs ws → kds.length = ks.length → arrange fn ds ks kds = some args → reps g μ G ds vs → reps g μ G kds zs →
    ∃ us' vs', BindsTo st fd ⟨us, ks.zip ws⟩ (fn.ps.zip us') ∧ Vals vs' us' ∧ reps g μ G args vs' ∧ args.length = fn.ps.length := by
  intro g μ G st us ws ks vs zs args ds kds hg hK rv rz hl ha r1 r2
  unfold arrange at ha
  rw [hk] at ha
  split at ha
  · rename_i hc
    simp only [Bool.and_eq_true, beq_iff_eq, List.map_nil, List.contains_nil, Bool.false_eq_true] at hc
    have e1 : args = ds := by
      have := Option.some.inj ha
      simpa using this.symm
    subst e1
    have e2 : ks = [] := by
      cases ks with
      | nil => rfl
      | cons k ks => simp at hc
    subst e2
    have l1 : us.length = fn.ps.length := by rw [← rv.length, ← reps_len r1, hc.1, hp]
    refine ⟨us, vs, ?_, rv, r1, by rw [hc.1, hp]⟩
    have := hb st us hK (by simpa using l1)
    simpa using this
  · cases ha
def scB (N P : List Str) (sc : Scope) : Bool := decide (sc.kind = .function) && (!sc.isCoroutine) && (!sc.isGenerator) && decide N.Nodup && decide (N.take P.length = P) && (P.all fun x => match sc.names.lookup x with
  | some .local => true
  | some .cell => true
  | _ => false) && sc.names.all fun y => match y.2 with
  | .free => false
  | _ => true
theorem scB_ok {N P : List Str} {sc : Scope} (h : scB N P sc = true) : FnScope N P sc := by
  unfold scB at h
  simp only [Bool.and_eq_true, decide_eq_true_eq, Bool.not_eq_true', List.all_eq_true] at h
  obtain ⟨⟨⟨⟨⟨⟨h1, h2⟩, h3⟩, h4⟩, h5⟩, h6⟩, h7⟩ := h
  refine ⟨h1, h2, h3, h4, h5, fun x hx => ?_, fun y hy e => ?_⟩
  · have := h6 x hx
    split at this
    · exact .inl (by assumption)
    · exact .inr (by assumption)
    · cases this
  · have := h7 y hy
    rw [e] at this
    cases this
theorem reps_ints {g : Gp} {μ : List Addr} {G : Hp} : ∀ ns : List Int, reps g μ G (ns.map D.int) (ns.map V.int)
  | [] => rfl
  | n :: ns => ⟨_, _, rfl, rfl, reps_ints ns⟩
/-- the tracked things that aren't tables -/
noncomputable def ghost (H : Hp) : Hp := fun a => match H a with
  | some (.tbl _) => none
  | o => o
theorem ghost_sub (H : Hp) : Sub (ghost H) H := fun a o e => by
  unfold ghost at e
  cases h : H a with
  | none => rw [h] at e; cases e
  | some u =>
    rw [h] at e
    cases u <;> first | exact e | cases e
theorem ghost_notbl (H : Hp) : ∀ a ps, ghost H a ≠ some (.tbl ps) := fun a ps e => by
  unfold ghost at e
  cases h : H a with
  | none => rw [h] at e; cases e
  | some u =>
    rw [h] at e
    cases u <;> cases e
theorem ghost_at {H : Hp} {a : Addr} {o : HO} (h : H a = some o) (n : ∀ ps, o ≠ .tbl ps) : ghost H a = some o := by
  unfold ghost
  rw [h]
  cases o <;> first | rfl | exact absurd rfl (n _)
theorem ghost_lst {K : PySem.W.Frag} {H : Hp} {a : Addr} {vs : List V} (h : SqL K H a vs) : SqL K (ghost H) a vs := by
  rcases h with (q | ⟨o, q⟩) | q
  · exact .inl (.inl (ghost_at q fun ps z => nomatch z))
  · exact .inl (.inr ⟨o, ghost_at q fun ps z => nomatch z⟩)
  · exact .inr q
/-! ### a def's row against its core syntax -/
def nmsOf (tf : TfN) (x : Str) : List (Nat × Nat × Str) := (tf.lookup x).getD []
def nmF (rows : List (Nat × Nat × Str)) (l c : Nat) : Str := ((rows.find? fun q => q.1 == l && q.2.1 == c).map (·.2.2)).getD Str.empty
def tabsN (K : PySem.W.Frag) (tf : TfN) : List NdefX.NTab := tf.map fun p => ((He.cT K (p.1, none)).2, nmF p.2)
def csN (K : PySem.W.Frag) (tf : TfN) : List (Addr × Addr) := tf.map fun p => He.cT K (p.1, none)
def okD (Z : Gz) (tf : TfN) (fn : Fn) (d : He.DefD) : Bool := decide (d.name = fn.name) && decide (d.at_ = (fn.name, none)) && scB fn.N fn.ps d.scope && chkCs (czF fn d.scope Z (qualIn d.qual d.scope) (nmsOf tf fn.name)) fn.body d.body && fn.kwd.isEmpty && decide (fn.npos = fn.ps.length) && d.dfl.isEmpty && d.kwd.isEmpty &&
  (!Z.hot.contains fn.name || (chkCs (czH fn d.scope Z) fn.body d.body && (fdCs (czH fn d.scope Z) fn.body d.body).isEmpty)) && (nmsOf tf fn.name).all fun q => decide (nmF (nmsOf tf fn.name) q.1 q.2.1 = q.2.2)
/-- the inner defs' texts -/
def FdI (Z : Gz) (tf : TfN) (fn : Fn) (d : He.DefD) : Prop := ∀ p ∈ fdCs (czF fn d.scope Z (qualIn d.qual d.scope) (nmsOf tf fn.name)) fn.body d.body, Z.nfs[p.1]? = some p.2
theorem fdI_nil {Z : Gz} {tf : TfN} {fn : Fn} {d : He.DefD} (h : (fdCs (czF fn d.scope Z (qualIn d.qual d.scope) (nmsOf tf fn.name)) fn.body d.body).isEmpty = true) : FdI Z tf fn d := fun p hp => by
  rw [List.isEmpty_iff.mp h] at hp
  cases hp
/-- how a def without defaults binds -/
def BindF (d : He.DefD) (n : Nat) (ps : List Str) : Prop := ∀ (kV doc pm : Value) (an : Option Addr) (cdv ct : Value) (us : List Value), us.length = n → bindArgs (PySem.W.fnOf d.name d.qual d.params d.body d.scope .none kV doc pm an cdv ct) ⟨us, []⟩ = pure (ps.zip us)
theorem lookup_mem' {x : Str} {r : List (Nat × Nat × Str)} : ∀ {tf : TfN}, tf.lookup x = some r → (x, r) ∈ tf
  | [], h => by cases h
  | (y, r') :: tf, h => by
    rw [List.lookup_cons] at h
    split at h
    · rename_i e
      cases h
      rw [eq_of_beq e]
      exact List.mem_cons_self
    · exact List.mem_cons_of_mem _ (lookup_mem' h)
theorem nodup_map_inj {α β : Type} {f : α → β} : ∀ {l : List α}, (l.map f).Nodup → ∀ {a b : α}, a ∈ l → b ∈ l → f a = f b → a = b
  | [], _, a, b, ha, _, _ => by cases ha
  | c :: l, h, a, b, ha, hb, e => by
    rw [List.map_cons, List.nodup_cons] at h
    rcases List.mem_cons.mp ha with z | z
    · rcases List.mem_cons.mp hb with y | y
      · rw [z, y]
      · exact (h.1 (List.mem_map.mpr ⟨b, y, by rw [← e, z]⟩)).elim
    · rcases List.mem_cons.mp hb with y | y
      · exact (h.1 (List.mem_map.mpr ⟨a, z, by rw [e, y]⟩)).elim
      · exact nodup_map_inj h.2 z y e
theorem defI_of {K : PySem.W.Frag} {h : Heap} {mg : Str → Option Value} {fa : List He.Fa} {dns : List He.DefD} {Z : Gz} {tf : TfN} (X : K.In h) (G : h.Ns mainGlobals mg) (c : He.SaysD fa dns K) (hnd : (tabsK K tf).Nodup) {fn : Fn} {d : He.DefD} {i : Nat} (hi : dns[i]? = some d) (hg : He.Fa.glo fn.name ∈ fa)
    (ok : okD Z tf fn d = true) (hfd : FdI Z tf fn d) (hb : BindF d fn.ps.length fn.ps) : ∃ f fd, DefI K mg Z (tabsN K tf) (csN K tf) fn f fd ∧ ∀ (s : Shared) (us : List Value), us.length = fn.ps.length → BindsTo s fd ⟨us, []⟩ (fn.ps.zip us) := by
  unfold okD at ok
  simp only [Bool.and_eq_true, decide_eq_true_eq, List.isEmpty_iff] at ok
  obtain ⟨⟨⟨⟨⟨⟨⟨⟨⟨h1, h2⟩, h3⟩, h4⟩, h5⟩, h6⟩, h7⟩, h8⟩, h9⟩, h10⟩ := ok
  obtain ⟨fd, F⟩ := c.def_ i hi
  obtain ⟨at_, name, qual, params, body, scope, dfl, kwd⟩ := d
  dsimp only at h1 h2 h3 h4 h7 h8 h9 F hb hfd
  subst h1 h2 h7 h8
  have F : FunD K fn.name qual params body scope [] [] (He.fAd K (fn.name, none)) fd := F
  have gl : mg fn.name = some (.ref (He.ga K fn.name)) := by
    obtain ⟨j, hj⟩ := List.mem_iff_getElem?.mp hg
    exact He.glo_ok X G (c.fact j hj)
  have bA := F.bindsA hb
  have bN := F.bindsN hb
  obtain ⟨oc, od, dV, kV, doc, pm, an, cdv, ct, osl, efd, lk, hcd, hdv, hkv⟩ := F.ex
  refine ⟨He.ga K fn.name, fd, ⟨⟨qual, params, body, scope, nmsOf tf fn.name, oc, od, dV, kV, doc, pm, an, cdv, ct, osl, efd, lk, hcd, scB_ok h3, h4, hfd, fun hh => ?_, fun hn => ?_⟩, gl, bind_plain h5 h6 bN, fun _ st us _ hl => ⟨bA st us (hl.trans h6), h6⟩⟩, fun s us hl => bA s us hl⟩
  · rw [Bool.or_eq_true] at h9
    rcases h9 with z | z
    · rw [hh] at z; cases z
    · rw [Bool.and_eq_true] at z
      refine ⟨z.1, fun p hp => ?_⟩
      rw [List.isEmpty_iff.mp z.2] at hp
      cases hp
  · have hl : ∃ r, tf.lookup fn.name = some r := by
      cases e : tf.lookup fn.name with
      | none => exact absurd (by unfold nmsOf; rw [e]; rfl) hn
      | some r => exact ⟨r, rfl⟩
    obtain ⟨r, hr⟩ := hl
    have hm := lookup_mem' hr
    have er : nmsOf tf fn.name = r := by unfold nmsOf; rw [hr]; rfl
    obtain ⟨cc, ecc⟩ := He.codeIn_ref hcd
    have eco : He.codeOf K (fn.name, none) = cc := by
      subst efd
      exact He.codeOf_eq lk ecc
    refine ⟨nmF r, cc, (He.cT K (fn.name, none)).2, ecc, ?_, List.mem_map.mpr ⟨(fn.name, r), hm, rfl⟩, fun p hp e => ?_, fun q hq => ?_⟩
    · refine List.mem_map.mpr ⟨(fn.name, r), hm, ?_⟩
      show He.cT K (fn.name, none) = _
      unfold He.cT
      rw [eco]
    · obtain ⟨q, hq, eq⟩ := List.mem_map.mp hp
      subst eq
      have := nodup_map_inj hnd hq hm e
      rw [this]
    · have := List.all_eq_true.mp h10 q hq
      rw [er] at this
      exact of_decide_eq_true this
def BindAll : List Fn → List He.DefD → Prop
  | [], [] => True
  | f :: fs, d :: ds => BindF d f.ps.length f.ps ∧ BindAll fs ds
  | _, _ => False
theorem BindAll.append : ∀ {a : List Fn} {b : List He.DefD} {c : List Fn} {d : List He.DefD}, BindAll a b → BindAll c d → BindAll (a ++ c) (b ++ d)
  | [], [], _, _, _, h => h
  | [], _ :: _, _, _, h, _ => h.elim
  | _ :: _, [], _, _, h, _ => h.elim
  | f :: fs, x :: ds, _, _, ⟨h1, h2⟩, h => ⟨h1, h2.append h⟩
theorem BindAll.get : ∀ {a : List Fn} {b : List He.DefD} {i : Nat} {f : Fn}, BindAll a b → a[i]? = some f → ∃ d, b[i]? = some d ∧ BindF d f.ps.length f.ps ∧ (f, d) ∈ a.zip b
  | [], _, _, _, _, e => by simp at e
  | _ :: _, [], _, _, h, _ => h.elim
  | g :: fs, x :: ds, 0, f, ⟨h1, h2⟩, e => by
    simp at e
    subst e
    exact ⟨x, rfl, h1, List.mem_cons_self⟩
  | g :: fs, x :: ds, i + 1, f, ⟨h1, h2⟩, e => by
    obtain ⟨d, e1, e2, e3⟩ := BindAll.get (i := i) h2 (by simpa using e)
    exact ⟨d, by simpa using e1, e2, List.mem_cons_of_mem _ e3⟩
/-- the inner defs, row by row: the rows numbered in inn have some -/
def okR (Z : Gz) (tf : TfN) (inn : List Nat) (fns : List Fn) (dns : List He.DefD) (i : Nat) : Bool := match fns[i]?, dns[i]? with
  | some f, some d => okD Z tf f d && (inn.contains i || (fdCs (czF f d.scope Z (qualIn d.qual d.scope) (nmsOf tf f.name)) f.body d.body).isEmpty)
  | _, _ => false
theorem defs_of {K : PySem.W.Frag} {h : Heap} {mg : Str → Option Value} {fa : List He.Fa} {fns : List Fn} {dns : List He.DefD} {Z : Gz} {tf : TfN} {inn : List Nat} (X : K.In h) (G : h.Ns mainGlobals mg) (c : He.SaysD fa dns K) (hnd : (tabsK K tf).Nodup)
    (ok : ((List.range fns.length).all fun i => okR Z tf inn fns dns i) = true) (hin : ∀ i, inn.contains i = true → ∀ fn d, fns[i]? = some fn → dns[i]? = some d → FdI Z tf fn d) (ba : BindAll fns dns) (hg : (fns.map (·.name)).all (fun x => fa.any fun z => match z with | .glo y => decide (y = x) | _ => false) = true) :
    ∀ fn ∈ fns, ∃ f fd, DefI K mg Z (tabsN K tf) (csN K tf) fn f fd ∧ ∀ (s : Shared) (us : List Value), us.length = fn.ps.length → BindsTo s fd ⟨us, []⟩ (fn.ps.zip us) := fun fn hfn => by
  obtain ⟨i, hi⟩ := List.mem_iff_getElem?.mp hfn
  obtain ⟨d, e1, e2, e3⟩ := ba.get hi
  have hm := List.all_eq_true.mp hg fn.name (List.mem_map_of_mem hfn)
  obtain ⟨z, hz, hz2⟩ := List.any_eq_true.mp hm
  have hmem : He.Fa.glo fn.name ∈ fa := by
    cases z with
    | glo y => rw [of_decide_eq_true hz2] at hz; exact hz
    | _ => cases hz2
  have k := List.all_eq_true.mp ok i (List.mem_range.mpr (List.getElem?_eq_some_iff.mp hi).1)
  unfold okR at k
  rw [hi, e1] at k
  simp only [Bool.and_eq_true, Bool.or_eq_true] at k
  refine defI_of X G c hnd e1 hmem k.1 ?_ e2
  rcases k.2 with z | z
  · exact hin i z fn d hi e1
  · exact fdI_nil z
/-- the top's facts, by computation -/
def gloB (fa : List He.Fa) (x : Str) : Bool := fa.any fun z => match z with | .glo y => decide (y = x) | _ => false
def freeB (fa : List He.Fa) (x : Str) : Bool := fa.any fun z => match z with | .free y => decide (y = x) | _ => false
theorem gloB_mem {fa : List He.Fa} {x : Str} (h : gloB fa x = true) : He.Fa.glo x ∈ fa := by
  obtain ⟨z, hz, hz2⟩ := List.any_eq_true.mp h
  cases z with
  | glo y => rw [of_decide_eq_true hz2] at hz; exact hz
  | _ => cases hz2
theorem freeB_mem {fa : List He.Fa} {x : Str} (h : freeB fa x = true) : He.Fa.free x ∈ fa := by
  obtain ⟨z, hz, hz2⟩ := List.any_eq_true.mp h
  cases z with
  | free y => rw [of_decide_eq_true hz2] at hz; exact hz
  | _ => cases hz2
def topB (fa : List He.Fa) (dns : List He.DefD) (nn : List Str) (t : SubT) (Z : Gz) : Bool := (Z.gcs.all fun q => match q.2 with
    | .int i => fa.any fun z => match z with | .int y j => decide (y = q.1) && decide (j = i) | _ => false
    | .str x => fa.any fun z => match z with | .str y j => decide (y = q.1) && decide (j = x) | _ => false
    | .non => nn.contains q.1
    | _ => false) && (Z.fns.all fun x => gloB fa x && dns.any fun d => decide (d.at_ = (x, none))) && (Z.blt.all fun x => freeB fa x) &&
  (Z.exs.all fun x => gloB fa x && fa.any fun z => match z with | .exc y => decide (y = x) | _ => false) && (Z.cls.all fun x => Z.exs.contains x || (freeB fa x && !(x == ("__name__" : Str)) && match bootBuiltins x with | some (.type _) => true | _ => false)) &&
  t.all fun q => Z.exs.contains q.1 && (Z.exs.contains q.2.1 || freeB fa q.2.1)
theorem topI_by {K : PySem.W.Frag} {h : Heap} {mg : Str → Option Value} {fa : List He.Fa} {dns : List He.DefD} {nn : List Str} {t : SubT} {tf : TfN} {Z : Gz} (X : K.In h) (G : h.Ns mainGlobals mg) (c : He.SaysD fa dns K) (ce : exK nn Z.exs t tf K = true) (hb : topB fa dns nn t Z = true) : TopI K mg Z (subOf t) := by
  unfold topB at hb
  unfold exK at ce
  simp only [Bool.and_eq_true, List.all_eq_true] at hb ce
  obtain ⟨⟨⟨⟨⟨h1, h2⟩, h3⟩, h4⟩, h5⟩, h6⟩ := hb
  obtain ⟨⟨⟨c1, c2⟩, c3⟩, c4⟩ := ce
  have glo : ∀ {x : Str}, gloB fa x = true → mg x = some (.ref (He.ga K x)) := fun {x} hx => by
    obtain ⟨j, hj⟩ := List.mem_iff_getElem?.mp (gloB_mem hx)
    exact He.glo_ok X G (c.fact j hj)
  have fre : ∀ {x : Str}, freeB fa x = true → mg x = none := fun {x} hx => by
    obtain ⟨j, hj⟩ := List.mem_iff_getElem?.mp (freeB_mem hx)
    exact He.free_ok X G (c.fact j hj)
  have exg : ∀ {x : Str}, Z.exs.contains x = true → mg x = some (.ref (He.ga K x)) := fun {x} hx => glo (h4 x (by simpa using hx)).1
  refine ⟨fun q hq => ?_, fun x hx => ?_, fun x hx => fre (h3 x hx), fun x hx => ?_, fun x hx => ?_, fun a x b e hx => ?_, fun a x b e => ?_, ?_⟩
  · have := h1 q hq
    obtain ⟨q1, q2⟩ := q
    cases q2 with
    | int i =>
      obtain ⟨z, hz, hz2⟩ := List.any_eq_true.mp this
      cases z with
      | int y j =>
        simp only [Bool.and_eq_true, decide_eq_true_eq] at hz2
        obtain ⟨e1, e2⟩ := hz2
        subst e1 e2
        obtain ⟨j', hj⟩ := List.mem_iff_getElem?.mp hz
        obtain ⟨tk, ht⟩ := He.int_ok X G (c.fact j' hj)
        exact ⟨_, .int j, ht, ⟨tk, rfl⟩, fun g μ G => rfl⟩
      | _ => cases hz2
    | str i =>
      obtain ⟨z, hz, hz2⟩ := List.any_eq_true.mp this
      cases z with
      | str y j =>
        simp only [Bool.and_eq_true, decide_eq_true_eq] at hz2
        obtain ⟨e1, e2⟩ := hz2
        subst e1 e2
        obtain ⟨j', hj⟩ := List.mem_iff_getElem?.mp hz
        obtain ⟨tk, ht⟩ := He.str_ok X G (c.fact j' hj)
        exact ⟨_, .str j, ht, ⟨tk, rfl⟩, fun g μ G => rfl⟩
      | _ => cases hz2
    | non => exact ⟨_, .non, non_ok X G c1 (by simpa using this), rfl, fun g μ G => rfl⟩
    | _ => cases this
  · obtain ⟨a1, a2⟩ := h2 x hx
    obtain ⟨d, hd, hd2⟩ := List.any_eq_true.mp a2
    obtain ⟨i, hi⟩ := List.mem_iff_getElem?.mp hd
    obtain ⟨fd, F⟩ := c.def_ i hi
    refine ⟨_, glo a1, ?_⟩
    have := F.kp
    rw [of_decide_eq_true hd2] at this
    exact this
  · obtain ⟨a1, a2⟩ := h4 x hx
    obtain ⟨z, hz, hz2⟩ := List.any_eq_true.mp a2
    cases z with
    | exc y =>
      have e : y = x := of_decide_eq_true hz2
      subst e
      obtain ⟨j, hj⟩ := List.mem_iff_getElem?.mp hz
      obtain ⟨k1, k2, k3, k4⟩ := He.exc_ok (c.fact j hj)
      exact ⟨He.ga K y, He.veBase, "ValueError", "ValueError.__new__", "ValueError.__init__", PySem.F.excBase_ValueError, k1, glo a1, k2, k3, k4⟩
    | _ => cases hz2
  · have := h5 x hx
    rw [Bool.or_eq_true] at this
    rcases this with z | z
    · exact .inl ⟨_, exg z⟩
    · simp only [Bool.and_eq_true, Bool.not_eq_true'] at z
      obtain ⟨⟨z1, z2⟩, z3⟩ := z
      refine .inr ⟨fre z1, fun e => ?_, ?_⟩
      · rw [e] at z2
        revert z2
        decide
      · split at z3
        · rename_i tn e; exact ⟨tn, e⟩
        · cases z3
  · have hm := subOf_mem e
    obtain ⟨⟨k1, k2⟩, k3⟩ := c3 _ hm
    obtain ⟨m1, m2⟩ := h6 _ hm
    rw [exg m1]
    rw [Bool.or_eq_true] at m2
    rcases m2 with z | z
    · rw [exg z]
      rw [Bool.or_eq_true] at k3
      rcases k3 with k3 | k3
      · rw [show Z.exs.contains x = true from z] at k3; cases k3
      · exact of_decide_eq_true k3
    · obtain ⟨C, hC⟩ := hx
      rw [fre z] at hC; cases hC
  · have hm := subOf_mem e
    obtain ⟨⟨k1, k2⟩, k3⟩ := c3 _ hm
    obtain ⟨m1, m2⟩ := h6 _ hm
    refine ⟨He.ga K a, exg m1, excCB_ok k1, ?_⟩
    have k2 := of_decide_eq_true k2
    have ec : clsVal mg x = clsK K Z.exs x := by
      unfold clsVal clsK
      by_cases hz : Z.exs.contains x = true
      · rw [exg hz, if_pos hz]
      · rw [Bool.or_eq_true] at m2
        rcases m2 with z | z
        · exact absurd z hz
        · rw [fre z, if_neg hz]
    rw [ec]
    exact k2
  · exact Option.isSome_iff_exists.mp c2
/-! ### the end -/
/-- what is given of the script -/
def spLaw (K : PySem.W.Frag) (cs : List (Addr × Addr)) (m : Nat) : Sp := fun vs H Q _ => ∃ (a : Addr) (ns : List Int), vs = [.ref a] ∧ ns.length ≤ m ∧ (∀ p ∈ cs, H p.2 = some (.tbl #[])) ∧ SqL K H a (ns.map V.int) ∧ ∀ H', Q (.bl true) H'
theorem law_at {l : PySem.W.OpenLaw} {w : World} {K : PySem.W.Frag} {mg : Str → Option Value} {fa : Addr} {h : Heap} {Pg : Pgm} {Z : Gz} {tf : TfN} {lawFn : Fn} {n m : Nat} (hT : TopI K mg Z Pg.sub) (hd : ∀ fn ∈ Pg.fns, ∃ f fd, DefI K mg Z (tabsN K tf) (csN K tf) fn f fd) (hclo : ∀ k fn, Pg.clos[k]? = some fn → CloD Z fn k)
    (hhd : ∀ p ∈ tf, PySem.W.codeHdIn K (He.cT K (p.1, none)).1 (He.cT K (p.1, none)).2 = true) (hout : ∀ p ∈ tf, K.lookup (He.cT K (p.1, none)).2 = none) (hemp : ∀ p ∈ tf, h.get? (He.cT K (p.1, none)).2 = some { cls := .none, data := .fields #[] })
    {f : Addr} {fd : FuncData} (hl : DefI K mg Z (tabsN K tf) (csN K tf) lawFn f fd) (hfa : mg lawFn.name = some (.ref fa)) (hps : lawFn.ps = [("script" : Str)]) (hb : ∀ (s : Shared) (u : Value), BindsTo s fd ⟨[u], []⟩ [("script", u)])
    (hrun : ∀ ns : List Int, ns.length ≤ m → ∃ S, runFn (callF Pg n) Pg.sub lawFn [.fz (ns.map D.int)] [] = .ok (.bl true) S) :
    LawG l w K (n + 1) m "script" mg fa h := by
  have ef : f = fa := by
    have h1 := hl.glo
    rw [hfa] at h1
    have h2 := Option.some.inj h1
    injection h2 with h3
    exact h3.symm
  subst ef
  have inC : ∀ p ∈ csN K tf, ∃ q ∈ tf, p = He.cT K (q.1, none) := fun p hp => let ⟨q, hq, e⟩ := List.mem_map.mp hp; ⟨q, hq, e.symm⟩
  refine ⟨fd, csN K tf, spLaw K (csN K tf) m, fun p hp => ?_, fun p hp => ?_, fun p hp => ?_, hb, fun H a ns h1 h2 h3 => ⟨a, ns, rfl, h1, h2, h3, fun _ => rfl⟩, fun base hKb hG hcs => ?_⟩
  · obtain ⟨q, hq, e⟩ := inC p hp; rw [e]; exact hemp q hq
  · obtain ⟨q, hq, e⟩ := inC p hp; rw [e]; exact hout q hq
  · obtain ⟨q, hq, e⟩ := inC p hp; rw [e]; exact hhd q hq
  · have PI : ProgI K mg base Pg Z (tabsN K tf) (csN K tf) := ⟨hT, hd, hclo, hcs⟩
    have F := fn_okG (P := l.prog) (w := w) (n := n) hT hl hcs (calm_ok PI n) (hot_ok PI n)
    refine ⟨fun A outer st H args us vs Q E hr hgd e0 hbn r hsp => F.run A outer st H args us vs Q E hr hgd e0 (by rw [hps]; exact hbn) r ?_⟩
    obtain ⟨a, ns, e1, e2, e3, e4, e5⟩ := hsp
    subst e1
    obtain ⟨S, hrn⟩ := hrun ns e2
    refine ⟨ghost H, [], [], [.val (.fz (ns.map D.int))], ⟨ghost_sub H, List.nodup_nil, fun a ha => (by cases ha), rfl, fun k o a e => (by simp at e), fun p hp => ?_, ghost_notbl H⟩, .cons ⟨a, ns.map V.int, rfl, ghost_lst e4, reps_ints ns⟩ .nil, by rw [hps]; rfl, ?_⟩
    · obtain ⟨q, hq, e⟩ := List.mem_map.mp hp
      subst e
      exact NdefX.TabN.nil (e3 (He.cT K (q.1, none)) (List.mem_map.mpr ⟨q, hq, rfl⟩))
    · have er : runFnA (callF Pg n) Pg.sub lawFn [.val (.fz (ns.map D.int))] [] = .ok (.bl true) S := by
        have := runFnA_val (callF Pg n) Pg.sub lawFn [.fz (ns.map D.int)] []
        rw [hrn] at this
        exact this
      rw [er]
      intro G' μ' H' J v hv
      have : v = .bl true := hv
      subst this
      exact e5 H'
end MP

namespace K75
open PySem PySem.Spec PyProof.Rows L2 MP
def inStmt (x : Str) (b : List Stmt) : Stmt := (b.find? fun s => match s with
  | .FunctionDef n _ _ _ _ _ _ _ _ _ => n == x
  | _ => false).getD (.Pass ⟨0, 0, 0, 0⟩)
def nfOf (qual : Str) : Stmt → NfD
  | .FunctionDef name params body _ _ _ scope _ _ _ => ⟨name, qual, params, body, scope, (scope.names.filter fun y => decide (y.2 = .free)).map (·.1)⟩
  | _ => ⟨qual, qual, ⟨[], [], none, [], [], none, []⟩, [], ⟨.function, [], false, false, []⟩, []⟩
def top (i : Nat) : Stmt := PySem.Challenge.pw_mildwarden_k75_late.main.body.getD i (.Pass ⟨0, 0, 0, 0⟩)
def b_is_whole : C := (.seq (.ret (.bop .And (.cons (.isi (.var 0) [.int]) (.cons (.not_ (.isi (.var 0) [.bool])) .nil)))) .skip)
def f_is_whole : Fn := ⟨"is_whole", ["thing"], 1, [], ["thing"], b_is_whole⟩
def d_is_whole : He.DefD := ⟨("is_whole", none), "is_whole", "is_whole", defArgs (top 16), defBody (top 16), defScope (top 16), [], []⟩
def b_is_below : C := (.seq (.ret (.bop .And (.cons (.call "is_whole" (.cons (.var 0) .nil) [] .nil) (.cons (.cmp2 .LtE .Lt (.cst (.int 0)) (.var 0) (.var 1)) .nil)))) .skip)
def f_is_below : Fn := ⟨"is_below", ["thing", "most"], 2, [], ["thing", "most"], b_is_below⟩
def d_is_below : He.DefD := ⟨("is_below", none), "is_below", "is_below", defArgs (top 17), defBody (top 17), defScope (top 17), [], []⟩
def b_is_count : C := (.seq (.ret (.bop .And (.cons (.call "is_whole" (.cons (.var 0) .nil) [] .nil) (.cons (.cmp2 .LtE .LtE (.cst (.int 1)) (.var 0) (.gc "WIDE" (.int 9))) .nil)))) .skip)
def f_is_count : Fn := ⟨"is_count", ["thing"], 1, [], ["thing"], b_is_count⟩
def d_is_count : He.DefD := ⟨("is_count", none), "is_count", "is_count", defArgs (top 18), defBody (top 18), defScope (top 18), [], []⟩
def b_is_row : C := (.seq (.ret (.bop .And (.cons (.isi (.var 0) [.tuple]) (.cons (.cmp .Eq (.bl .len (.cons (.var 0) .nil)) (.var 1)) .nil)))) .skip)
def f_is_row : Fn := ⟨"is_row", ["thing", "many"], 2, [], ["thing", "many"], b_is_row⟩
def d_is_row : He.DefD := ⟨("is_row", none), "is_row", "is_row", defArgs (top 19), defBody (top 19), defScope (top 19), [], []⟩
def b_is_room_0 : C := (.seq (.ite (.bop .And (.cons (.cmp .IsNot (.var 5) (.cst .non)) (.cons (.not_ (.v (.call "is_below" (.cons (.var 5) (.cons (.var 3) .nil)) [] .nil))) .nil))) (.seq (.ret (.cst (.bl false))) .skip) .skip) .skip)
def b_is_room_1 : C := (.seq (.ite (.not_ (.v (.call "is_row" (.cons (.var 4) (.cons (.var 2) .nil)) [] .nil))) (.seq (.ret (.cst (.bl false))) .skip) .skip) (.seq (.for_ (.v 5) (.val (.var 4)) b_is_room_0) .skip))
def b_is_room : C := (.seq (.ite (.not_ (.v (.call "is_row" (.cons (.var 0) (.cons (.var 1) .nil)) [] .nil))) (.seq (.ret (.cst (.bl false))) .skip) .skip) (.seq (.for_ (.v 4) (.val (.var 0)) b_is_room_1) (.seq (.ret (.cst (.bl true))) .skip)))
def f_is_room : Fn := ⟨"is_room", ["thing", "signs", "deeds", "many"], 4, [], ["thing", "signs", "deeds", "many", "row", "behind"], b_is_room⟩
def d_is_room : He.DefD := ⟨("is_room", none), "is_room", "is_room", defArgs (top 20), defBody (top 20), defScope (top 20), [], []⟩
def c_is_saying_0 : Cl := (.gen (.v 4) [4] (.val (.var 3)) .nil (.fin (.call "is_room" (.cons (.var 4) (.cons (.var 1) (.cons (.var 2) (.cons (.bl .len (.cons (.var 3) .nil)) .nil)))) [] .nil)))
def b_is_saying : C := (.seq (.ite (.not_ (.v (.call "is_row" (.cons (.var 0) (.cons (.cst (.int 3)) .nil)) [] .nil))) (.seq (.ret (.cst (.bl false))) .skip) .skip) (.seq (.set (.tup (.cons (.v 1) (.cons (.v 2) (.cons (.v 3) .nil)))) (.var 0)) (.seq (.ite (.bop .Or (.cons (.not_ (.v (.call "is_count" (.cons (.var 1) .nil) [] .nil))) (.cons (.not_ (.v (.call "is_count" (.cons (.var 2) .nil) [] .nil))) (.cons (.not_ (.v (.isi (.var 3) [.tuple]))) .nil)))) (.seq (.ret (.cst (.bl false))) .skip) .skip) (.seq (.ret (.bop .And (.cons (.cmp2 .LtE .LtE (.cst (.int 1)) (.bl .len (.cons (.var 3) .nil)) (.gc "MOST" (.int 100))) (.cons (.bl .all (.cons (.lc c_is_saying_0) .nil)) .nil)))) .skip))))
def f_is_saying : Fn := ⟨"is_saying", ["thing"], 1, [], ["thing", "signs", "deeds", "rooms", "room"], b_is_saying⟩
def d_is_saying : He.DefD := ⟨("is_saying", none), "is_saying", "is_saying", defArgs (top 21), defBody (top 21), defScope (top 21), [], []⟩
def b_need_saying : C := (.seq (.ite (.not_ (.v (.call "is_saying" (.cons (.var 0) .nil) [] .nil))) (.seq (.raise "NoSaying") .skip) .skip) .skip)
def f_need_saying : Fn := ⟨"need_saying", ["thing"], 1, [], ["thing"], b_need_saying⟩
def d_need_saying : He.DefD := ⟨("need_saying", none), "need_saying", "need_saying", defArgs (top 22), defBody (top 22), defScope (top 22), [], []⟩
def c_first_come_0 : Cl := (.gen (.v 11) [11] (.val (.var 9)) .nil (.fin (.ite (.cmp .Is (.var 11) (.cst .non)) (.cst .non) (.idx (.var 5) (.var 11)))))
def b_first_come_1 : C := (.seq (.ite (.bop .And (.cons (.cmp .IsNot (.var 11) (.cst .non)) (.cons (.cmp .NotIn (.var 11) (.var 5)) .nil))) (.seq (.seti (.var 5) (.var 11) (.bl .len (.cons (.var 4) .nil))) (.seq (.app (.var 4) (.var 11)) .skip)) .skip) .skip)
def c_first_come_2 : Cl := (.gen (.v 10) [10] (.rng1 (.var 1)) .nil (.fin (.callv 3 (.cons (.idx (.var 4) (.bl .len (.cons (.var 6) .nil))) (.cons (.var 8) (.cons (.var 10) .nil))))))
def b_first_come_3 : C := (.seq (.setO 9 (.lc c_first_come_2)) (.seq (.for_ (.v 11) (.val (.var 9)) b_first_come_1) (.seq (.ite (.cmp .Gt (.bl .len (.cons (.var 4) .nil)) (.gc "MOST" (.int 100))) (.seq (.raise "TooWide") .skip) .skip) (.seq (.app (.var 7) (.bl .tuple (.cons (.lc c_first_come_0) .nil))) .skip))))
def b_first_come_4 : C := (.seq (.setO 7 (.lst .nil)) (.seq (.for_ (.v 8) (.rng1 (.var 0)) b_first_come_3) (.seq (.app (.var 6) (.bl .tuple (.cons (.var 7) .nil))) .skip)))
def b_first_come : C := (.seq (.setO 4 (.lst (.cons (.var 2) .nil))) (.seq (.setD 5 (.dlit true (.cons (.var 2) (.cons (.cst (.int 0)) .nil)))) (.seq (.setO 6 (.lst .nil)) (.seq (.whl 400 (.cmp .Lt (.bl .len (.cons (.var 6) .nil)) (.bl .len (.cons (.var 4) .nil))) b_first_come_4) (.seq (.ret (.tup (.cons (.bl .tuple (.cons (.var 4) .nil)) (.cons (.bl .tuple (.cons (.var 6) .nil)) .nil)))) .skip)))))
def f_first_come : Fn := ⟨"first_come", ["signs", "deeds", "begin", "follow"], 4, [], ["signs", "deeds", "begin", "follow", "things", "numbers", "table", "rows", "sign", "row", "deed", "thing"], b_first_come⟩
def d_first_come : He.DefD := ⟨("first_come", none), "first_come", "first_come", defArgs (top 24), defBody (top 24), defScope (top 24), [], []⟩
def b_come_to : C := (.seq (.ite (.cmp .Eq (.var 1) (.tup .nil)) (.seq (.ret (.cst (.int 0))) .skip) .skip) (.seq (.set (.tup (.cons (.v 3) (.cons (.v 4) .nil))) (.var 1)) (.seq (.ret (.idx (.idx (.idx (.idx (.var 0) (.cst (.int 2))) (.var 3)) (.var 2)) (.var 4))) .skip)))
def f_come_to : Fn := ⟨"come_to", ["saying", "room", "told"], 3, [], ["saying", "room", "told", "at", "deed"], b_come_to⟩
def d_come_to : He.DefD := ⟨("come_to", none), "come_to", "come_to", defArgs (top 26), defBody (top 26), defScope (top 26), [], []⟩
def c_breaks_by_some_0 : Cl := (.gen (.v 3) [3] (.val (.idx (.idx (.var 0) (.cst (.int 2))) (.var 1))) .nil (.fin (.cmp .Is (.idx (.var 3) (.var 2)) (.cst .non))))
def b_breaks_by_some : C := (.seq (.ret (.bl .any (.cons (.lc c_breaks_by_some_0) .nil))) .skip)
def f_breaks_by_some : Fn := ⟨"breaks_by_some", ["saying", "at", "deed"], 3, [], ["saying", "at", "deed", "row"], b_breaks_by_some⟩
def d_breaks_by_some : He.DefD := ⟨("breaks_by_some", none), "breaks_by_some", "breaks_by_some", defArgs (top 27), defBody (top 27), defScope (top 27), [], []⟩
def b_lag : C := (.seq (.set (.tup (.cons (.v 1) (.cons (.v 2) (.cons (.v 3) .nil)))) (.var 0)) (.seq (.fdef 4 0) (.seq (.set (.tup (.cons (.v 5) (.cons (.v 6) .nil))) (.calla "first_come" (.v (.var 1) (.v (.var 2) (.v (.tup .nil) (.clo 4 0 [0] .nil)))))) (.seq (.ret (.tup (.cons (.var 5) (.cons (.tup (.cons (.var 1) (.cons (.var 2) (.cons (.var 6) .nil)))) .nil)))) .skip))))
def f_lag : Fn := ⟨"lag", ["saying"], 1, [], ["saying", "signs", "deeds", "rooms", "follow", "found", "table"], b_lag⟩
def d_lag : He.DefD := ⟨("lag", none), "lag", "lag", defArgs (top 28), defBody (top 28), defScope (top 28), [], []⟩
def b_late : C := (.seq (.ex (.call "need_saying" (.cons (.var 0) .nil) [] .nil)) (.seq (.ret (.idx (.call "lag" (.cons (.var 0) .nil) [] .nil) (.cst (.int 1)))) .skip))
def f_late : Fn := ⟨"late", ["saying"], 1, [], ["saying"], b_late⟩
def d_late : He.DefD := ⟨("late", none), "late", "late", defArgs (top 29), defBody (top 29), defScope (top 29), [], []⟩
def b_rooms_late : C := (.seq (.ex (.call "need_saying" (.cons (.var 0) .nil) [] .nil)) (.seq (.ret (.idx (.call "lag" (.cons (.var 0) .nil) [] .nil) (.cst (.int 0)))) .skip))
def f_rooms_late : Fn := ⟨"rooms_late", ["saying"], 1, [], ["saying"], b_rooms_late⟩
def d_rooms_late : He.DefD := ⟨("rooms_late", none), "rooms_late", "rooms_late", defArgs (top 30), defBody (top 30), defScope (top 30), [], []⟩
def b__law_pot : C := (.seq (.set (.v 2) (.cst (.int 0))) (.seq (.ite (.cmp .Lt (.var 1) (.bl .len (.cons (.var 0) .nil))) (.seq (.set (.v 2) (.bin .Mod (.bl .abs (.cons (.idx (.var 0) (.var 1)) .nil)) (.bin .Pow (.bin .Pow (.cst (.int 10)) (.cst (.int 60))) (.cst (.int 10))))) .skip) .skip) (.seq (.ret (.new (.cons (.bin .Mult (.var 2) (.bl .int (.cons (.cmp .GtE (.var 2) (.bin .Pow (.cst (.int 10)) (.cst (.int 18)))) .nil))) (.cons (.bin .Mod (.bin .Pow (.bin .Add (.bin .Add (.bin .Mod (.var 2) (.cst (.int 2147483629))) (.bin .Mult (.cst (.int 7919)) (.var 1))) (.cst (.int 1))) (.cst (.int 5))) (.cst (.int 2305843009213693951))) (.cons (.cst (.int 0)) .nil))))) .skip)))
def f__law_pot : Fn := ⟨"_law_pot", ["script", "k"], 2, [], ["script", "k", "cell"], b__law_pot⟩
def d__law_pot : He.DefD := ⟨("_law_pot", none), "_law_pot", "_law_pot", defArgs (top 32), defBody (top 32), defScope (top 32), [], []⟩
def b__law_take : C := (.seq (.ite (.cmp .Gt (.idx (.var 0) (.cst (.int 0))) (.cst (.int 0))) (.seq (.set (.v 2) (.bin .Mod (.idx (.var 0) (.cst (.int 0))) (.var 1))) (.seq (.seti (.var 0) (.cst (.int 0)) (.bin .FloorDiv (.idx (.var 0) (.cst (.int 0))) (.var 1))) (.seq (.ret (.var 2)) .skip))) .skip) (.seq (.seti (.var 0) (.cst (.int 2)) (.bin .Add (.idx (.var 0) (.cst (.int 2))) (.cst (.int 1)))) (.seq (.set (.v 3) (.bin .Mod (.bin .Pow (.bin .Add (.idx (.var 0) (.cst (.int 1))) (.bin .Mult (.cst (.int 104729)) (.idx (.var 0) (.cst (.int 2))))) (.cst (.int 3))) (.cst (.int 2305843009213693921)))) (.seq (.set (.v 4) (.bin .Mod (.bin .Pow (.bin .Add (.bin .Add (.var 3) (.bin .Mod (.idx (.var 0) (.cst (.int 1))) (.cst (.int 65537)))) (.bin .Mult (.cst (.int 31)) (.idx (.var 0) (.cst (.int 2))))) (.cst (.int 5))) (.cst (.int 2305843009213693907)))) (.seq (.ret (.bin .Mod (.bin .FloorDiv (.var 4) (.cst (.int 1024))) (.var 1))) .skip)))))
def f__law_take : Fn := ⟨"_law_take", ["pot", "many"], 2, [], ["pot", "many", "found", "one", "other"], b__law_take⟩
def d__law_take : He.DefD := ⟨("_law_take", none), "_law_take", "_law_take", defArgs (top 33), defBody (top 33), defScope (top 33), [], []⟩
def c__law_same_0 : Cl := (.gen (.tup (.cons (.v 2) (.cons (.v 3) .nil))) [2, 3] (.zip (.var 0) (.var 1)) .nil (.fin (.call "_law_same" (.cons (.var 2) (.cons (.var 3) .nil)) [] .nil)))
def b__law_same : C := (.seq (.ite (.v (.isi (.var 1) [.tuple])) (.seq (.ite (.bop .Or (.cons (.not_ (.v (.isi (.var 0) [.tuple]))) (.cons (.cmp .NotEq (.bl .len (.cons (.var 0) .nil)) (.bl .len (.cons (.var 1) .nil))) .nil))) (.seq (.ret (.cst (.bl false))) .skip) .skip) (.seq (.ret (.bl .all (.cons (.lc c__law_same_0) .nil))) .skip)) .skip) (.seq (.ite (.cmp .Is (.var 1) (.cst .non)) (.seq (.ret (.cmp .Is (.var 0) (.cst .non))) .skip) .skip) (.seq (.ite (.v (.isi (.var 1) [.str, .bool])) (.seq (.ret (.bop .And (.cons (.isi (.var 0) [.str, .bool]) (.cons (.cmp .Eq (.isi (.var 0) [.bool]) (.isi (.var 1) [.bool])) (.cons (.cmp .Eq (.var 0) (.var 1)) .nil))))) .skip) .skip) (.seq (.ret (.bop .And (.cons (.isi (.var 0) [.int]) (.cons (.not_ (.isi (.var 0) [.bool])) (.cons (.cmp .Eq (.var 0) (.var 1)) .nil))))) .skip))))
def f__law_same : Fn := ⟨"_law_same", ["found", "due"], 2, [], ["found", "due", "one", "other"], b__law_same⟩
def d__law_same : He.DefD := ⟨("_law_same", none), "_law_same", "_law_same", defArgs (top 34), defBody (top 34), defScope (top 34), [], []⟩
def b__law_whole : C := (.seq (.ret (.bop .And (.cons (.isi (.var 0) [.int]) (.cons (.not_ (.isi (.var 0) [.bool])) .nil)))) .skip)
def f__law_whole : Fn := ⟨"_law_whole", ["found"], 1, [], ["found"], b__law_whole⟩
def d__law_whole : He.DefD := ⟨("_law_whole", none), "_law_whole", "_law_whole", defArgs (top 35), defBody (top 35), defScope (top 35), [], []⟩
def b__law_room : C := (.seq (.ite (.cmp .Eq (.call "_law_take" (.cons (.var 0) (.cons (.var 2) .nil)) [] .nil) (.cst (.int 0))) (.seq (.ret (.cst .non)) .skip) .skip) (.seq (.ret (.call "_law_take" (.cons (.var 0) (.cons (.var 1) .nil)) [] .nil)) .skip))
def f__law_room : Fn := ⟨"_law_room", ["pot", "rooms", "rate"], 3, [], ["pot", "rooms", "rate"], b__law_room⟩
def d__law_room : He.DefD := ⟨("_law_room", none), "_law_room", "_law_room", defArgs (top 36), defBody (top 36), defScope (top 36), [], []⟩
def c__law_saying_0 : Cl := (.gen (.v 7) [7] (.rng1 (.var 2)) .nil (.fin (.call "_law_room" (.cons (.var 0) (.cons (.var 3) (.cons (.var 4) .nil))) [] .nil)))
def c__law_saying_1 : Cl := (.gen (.v 8) [8] (.rng1 (.var 1)) .nil (.fin (.bl .tuple (.cons (.lc c__law_saying_0) .nil))))
def b__law_saying_2 : C := (.seq (.app (.var 5) (.bl .tuple (.cons (.lc c__law_saying_1) .nil))) .skip)
def b__law_saying : C := (.seq (.setO 5 (.lst .nil)) (.seq (.for_ (.v 6) (.rng1 (.var 3)) b__law_saying_2) (.seq (.ret (.tup (.cons (.var 1) (.cons (.var 2) (.cons (.bl .tuple (.cons (.var 5) .nil)) .nil))))) .skip)))
def f__law_saying : Fn := ⟨"_law_saying", ["pot", "signs", "deeds", "rooms", "rate"], 5, [], ["pot", "signs", "deeds", "rooms", "rate", "table", "room", "d", "s"], b__law_saying⟩
def d__law_saying : He.DefD := ⟨("_law_saying", none), "_law_saying", "_law_saying", defArgs (top 37), defBody (top 37), defScope (top 37), [], []⟩
def b__law_other : C := (.seq (.set (.v 3) (.call "_law_take" (.cons (.var 0) (.cons (.cst (.int 10)) .nil)) [] .nil)) (.seq (.set (.v 4) (.idx (.var 2) (.call "_law_take" (.cons (.var 0) (.cons (.bl .len (.cons (.var 2) .nil)) .nil)) [] .nil))) (.seq (.ite (.bop .And (.cons (.v (.isi (.var 1) [.tuple])) (.cons (.cmp .NotEq (.var 1) (.tup .nil)) .nil))) (.seq (.set (.v 5) (.call "_law_take" (.cons (.var 0) (.cons (.bl .len (.cons (.var 1) .nil)) .nil)) [] .nil)) (.seq (.ite (.cmp .Lt (.var 3) (.cst (.int 6))) (.seq (.ret (.bin .Add (.bin .Add (.sl (.var 1) .nil (.var 5)) (.tup (.cons (.call "_law_other" (.cons (.var 0) (.cons (.idx (.var 1) (.var 5)) (.cons (.var 2) .nil))) [] .nil) .nil))) (.sl (.var 1) (.bin .Add (.var 5) (.cst (.int 1))) .nil))) .skip) .skip) (.seq (.setO 6 (.lst (.cons (.bin .Add (.sl (.var 1) .nil (.var 5)) (.sl (.var 1) (.bin .Add (.var 5) (.cst (.int 1))) .nil)) (.cons (.bin .Add (.sl (.var 1) .nil (.bin .Add (.var 5) (.cst (.int 1)))) (.sl (.var 1) (.var 5) .nil)) (.cons (.fl .list (.cons (.var 1) .nil)) (.cons (.bin .Add (.var 1) (.tup (.cons (.var 4) .nil))) .nil)))))) (.seq (.ret (.idx (.var 6) (.bin .Sub (.var 3) (.cst (.int 6))))) .skip)))) .skip) (.seq (.ite (.bop .And (.cons (.v (.call "_law_whole" (.cons (.var 1) .nil) [] .nil)) (.cons (.cmp .Lt (.var 3) (.cst (.int 7))) .nil))) (.seq (.ret (.bin .Add (.var 1) (.idx (.lst (.cons (.cst (.int 1)) (.cons (.neg (.cst (.int 1))) (.cons (.cst (.int 2)) .nil)))) (.bin .Mod (.var 3) (.cst (.int 3)))))) .skip) .skip) (.seq (.ret (.var 4)) .skip)))))
def f__law_other : Fn := ⟨"_law_other", ["pot", "thing", "odds"], 3, [], ["pot", "thing", "odds", "way", "odd", "at", "some"], b__law_other⟩
def d__law_other : He.DefD := ⟨("_law_other", none), "_law_other", "_law_other", defArgs (top 38), defBody (top 38), defScope (top 38), [], []⟩
def b__law_is_saying_0 : C := (.seq (.ite (.bop .And (.cons (.cmp .IsNot (.var 6) (.cst .non)) (.cons (.not_ (.bop .And (.cons (.v (.call "_law_whole" (.cons (.var 6) .nil) [] .nil)) (.cons (.cmp2 .LtE .Lt (.cst (.int 0)) (.var 6) (.bl .len (.cons (.var 3) .nil))) .nil)))) .nil))) (.seq (.ret (.cst (.bl false))) .skip) .skip) .skip)
def b__law_is_saying_1 : C := (.seq (.ite (.bop .Or (.cons (.not_ (.v (.isi (.var 5) [.tuple]))) (.cons (.cmp .NotEq (.bl .len (.cons (.var 5) .nil)) (.var 2)) .nil))) (.seq (.ret (.cst (.bl false))) .skip) .skip) (.seq (.for_ (.v 6) (.val (.var 5)) b__law_is_saying_0) .skip))
def b__law_is_saying_2 : C := (.seq (.ite (.bop .Or (.cons (.not_ (.v (.isi (.var 4) [.tuple]))) (.cons (.cmp .NotEq (.bl .len (.cons (.var 4) .nil)) (.var 1)) .nil))) (.seq (.ret (.cst (.bl false))) .skip) .skip) (.seq (.for_ (.v 5) (.val (.var 4)) b__law_is_saying_1) .skip))
def b__law_is_saying : C := (.seq (.ite (.bop .Or (.cons (.not_ (.v (.isi (.var 0) [.tuple]))) (.cons (.cmp .NotEq (.bl .len (.cons (.var 0) .nil)) (.cst (.int 3))) (.cons (.not_ (.v (.isi (.idx (.var 0) (.cst (.int 2))) [.tuple]))) .nil)))) (.seq (.ret (.cst (.bl false))) .skip) .skip) (.seq (.set (.tup (.cons (.v 1) (.cons (.v 2) (.cons (.v 3) .nil)))) (.var 0)) (.seq (.ite (.bop .Or (.cons (.not_ (.v (.call "_law_whole" (.cons (.var 1) .nil) [] .nil))) (.cons (.not_ (.v (.call "_law_whole" (.cons (.var 2) .nil) [] .nil))) .nil))) (.seq (.ret (.cst (.bl false))) .skip) .skip) (.seq (.ite (.bop .Or (.cons (.not_ (.cmp2 .LtE .LtE (.cst (.int 1)) (.var 1) (.cst (.int 9)))) (.cons (.not_ (.cmp2 .LtE .LtE (.cst (.int 1)) (.var 2) (.cst (.int 9)))) .nil))) (.seq (.ret (.cst (.bl false))) .skip) .skip) (.seq (.ite (.not_ (.cmp2 .LtE .LtE (.cst (.int 1)) (.bl .len (.cons (.var 3) .nil)) (.cst (.int 100)))) (.seq (.ret (.cst (.bl false))) .skip) .skip) (.seq (.for_ (.v 4) (.val (.var 3)) b__law_is_saying_2) (.seq (.ret (.cst (.bl true))) .skip)))))))
def f__law_is_saying : Fn := ⟨"_law_is_saying", ["thing"], 1, [], ["thing", "signs", "deeds", "table", "room", "row", "come"], b__law_is_saying⟩
def d__law_is_saying : He.DefD := ⟨("_law_is_saying", none), "_law_is_saying", "_law_is_saying", defArgs (top 39), defBody (top 39), defScope (top 39), [], []⟩
def c__law_lag_0 : Cl := (.gen (.v 12) [12] (.rng1 (.var 1)) .nil (.fin (.idx (.idx (.idx (.var 3) (.var 9)) (.var 12)) (.var 11))))
def b__law_lag_1 : C := (.seq (.ite (.cmp .In (.cst .non) (.lc c__law_lag_0)) (.seq (.app (.var 10) (.cst .non)) .skip) (.seq (.ite (.cmp .NotIn (.tup (.cons (.var 9) (.cons (.var 11) .nil))) (.var 4)) (.seq (.app (.var 4) (.tup (.cons (.var 9) (.cons (.var 11) .nil)))) .skip) .skip) (.seq (.app (.var 10) (.lm .index (.var 4) (.cons (.tup (.cons (.var 9) (.cons (.var 11) .nil))) .nil))) .skip))) .skip)
def b__law_lag_2 : C := (.seq (.set (.v 9) (.ite (.cmp .Eq (.var 6) (.tup .nil)) (.cst (.int 0)) (.idx (.idx (.idx (.var 3) (.idx (.var 6) (.cst (.int 0)))) (.var 8)) (.idx (.var 6) (.cst (.int 1)))))) (.seq (.setO 10 (.lst .nil)) (.seq (.for_ (.v 11) (.rng1 (.var 2)) b__law_lag_1) (.seq (.app (.var 7) (.bl .tuple (.cons (.var 10) .nil))) .skip))))
def b__law_lag_3 : C := (.seq (.set (.v 6) (.idx (.var 4) (.bl .len (.cons (.var 5) .nil)))) (.seq (.setO 7 (.lst .nil)) (.seq (.for_ (.v 8) (.rng1 (.var 1)) b__law_lag_2) (.seq (.app (.var 5) (.bl .tuple (.cons (.var 7) .nil))) (.seq (.ite (.cmp .Gt (.bl .len (.cons (.var 4) .nil)) (.cst (.int 100))) (.seq (.ret (.cst .non)) .skip) .skip) .skip)))))
def b__law_lag : C := (.seq (.set (.tup (.cons (.v 1) (.cons (.v 2) (.cons (.v 3) .nil)))) (.var 0)) (.seq (.setO 4 (.lst (.cons (.tup .nil) .nil))) (.seq (.setO 5 (.lst .nil)) (.seq (.whl 400 (.cmp .Lt (.bl .len (.cons (.var 5) .nil)) (.bl .len (.cons (.var 4) .nil))) b__law_lag_3) (.seq (.ret (.tup (.cons (.bl .tuple (.cons (.var 4) .nil)) (.cons (.tup (.cons (.var 1) (.cons (.var 2) (.cons (.bl .tuple (.cons (.var 5) .nil)) .nil)))) .nil)))) .skip)))))
def f__law_lag : Fn := ⟨"_law_lag", ["saying"], 1, [], ["saying", "signs", "deeds", "table", "pairs", "rooms", "here", "room", "sign", "at", "row", "deed", "other"], b__law_lag⟩
def d__law_lag : He.DefD := ⟨("_law_lag", none), "_law_lag", "_law_lag", defArgs (top 40), defBody (top 40), defScope (top 40), [], []⟩
def b__law_word : C := (.seq (.setO 1 (.lst (.cons (.isx 0 ["NoSaying"]) (.cons (.isx 0 ["TooWide"]) .nil)))) (.seq (.set (.v 2) (.isx 0 ["NoCount", "NoKeep", "NoNumber", "NoPrices", "NoRoom", "NoStep", "NoClasses", "NoWatcher", "Unlike"])) (.seq (.ite (.bop .Or (.cons (.v (.var 2)) (.cons (.cmp .NotEq (.lm .count (.var 1) (.cons (.cst (.bl true)) .nil)) (.cst (.int 1))) (.cons (.not_ (.v (.isx 0 ["ValueError"]))) .nil)))) (.seq (.ret (.cst (.str "other"))) .skip) .skip) (.seq (.ret (.idx (.lst (.cons (.cst (.str "saying")) (.cons (.cst (.str "wide")) .nil))) (.lm .index (.var 1) (.cons (.cst (.bl true)) .nil)))) .skip))))
def f__law_word : Fn := ⟨"_law_word", ["caught"], 1, [], ["caught", "some", "others"], b__law_word⟩
def d__law_word : He.DefD := ⟨("_law_word", none), "_law_word", "_law_word", defArgs (top 41), defBody (top 41), defScope (top 41), [], []⟩
def b__law_asked_0 : C := (.seq (.ite (.cmp .Eq (.var 0) (.cst (.int 0))) (.seq (.set (.v 2) (.call "late" (.cons (.var 1) .nil) [] .nil)) .skip) (.seq (.set (.v 2) (.call "rooms_late" (.cons (.var 1) .nil) [] .nil)) .skip)) .skip)
def h__law_asked_1 : C := (.seq (.set (.v 3) (.calla "_law_word" (.exn 4 .nil))) .skip)
def b__law_asked : C := (.seq (.set (.v 2) (.cst .non)) (.seq (.set (.v 3) (.cst (.str ""))) (.seq (.tryc b__law_asked_0 "WardError" (some 4) h__law_asked_1) (.seq (.ret (.tup (.cons (.var 3) (.cons (.var 2) .nil)))) .skip))))
def f__law_asked : Fn := ⟨"_law_asked", ["door", "saying"], 2, [], ["door", "saying", "found", "word", "e"], b__law_asked⟩
def d__law_asked : He.DefD := ⟨("_law_asked", none), "_law_asked", "_law_asked", defArgs (top 42), defBody (top 42), defScope (top 42), [], []⟩
def b__law_right_0 : C := (.seq (.set (.v 5) (.ite (.cmp .Is (.var 1) (.cst .non)) (.cst .non) (.idx (.var 1) (.bin .Sub (.cst (.int 1)) (.var 4))))) (.seq (.ite (.not_ (.v (.call "_law_same" (.cons (.call "_law_asked" (.cons (.var 4) (.cons (.var 0) .nil)) [] .nil) (.cons (.tup (.cons (.var 2) (.cons (.var 5) .nil))) .nil)) [] .nil))) (.seq (.ret (.cst (.bl false))) .skip) .skip) .skip))
def b__law_right : C := (.seq (.set (.v 1) (.cst .non)) (.seq (.set (.v 2) (.cst (.str "saying"))) (.seq (.ite (.v (.call "_law_is_saying" (.cons (.var 0) .nil) [] .nil)) (.seq (.set (.v 1) (.call "_law_lag" (.cons (.var 0) .nil) [] .nil)) (.seq (.set (.v 2) (.idx (.lst (.cons (.cst (.str "")) (.cons (.cst (.str "wide")) .nil))) (.bl .int (.cons (.cmp .Is (.var 1) (.cst .non)) .nil)))) .skip)) .skip) (.seq (.set (.v 3) (.bl .repr (.cons (.var 0) .nil))) (.seq (.for_ (.v 4) (.rng1 (.cst (.int 2))) b__law_right_0) (.seq (.ret (.cmp .Eq (.bl .repr (.cons (.var 0) .nil)) (.var 3))) .skip))))))
def f__law_right : Fn := ⟨"_law_right", ["saying"], 1, [], ["saying", "due", "word", "kept", "door", "told"], b__law_right⟩
def d__law_right : He.DefD := ⟨("_law_right", none), "_law_right", "_law_right", defArgs (top 43), defBody (top 43), defScope (top 43), [], []⟩
def b__law_any : C := (.seq (.set (.v 2) (.bin .Add (.call "_law_take" (.cons (.var 0) (.cons (.cst (.int 5)) .nil)) [] .nil) (.bin .Mult (.cst (.int 5)) (.bl .int (.cons (.cmp .Gt (.var 1) (.cst (.int 0))) .nil))))) (.seq (.ite (.cmp .Eq (.var 2) (.cst (.int 0))) (.seq (.ret (.call "_law_saying" (.cons (.var 0) (.cons (.bin .Add (.cst (.int 1)) (.call "_law_take" (.cons (.var 0) (.cons (.cst (.int 2)) .nil)) [] .nil)) (.cons (.bin .Add (.cst (.int 2)) (.call "_law_take" (.cons (.var 0) (.cons (.cst (.int 2)) .nil)) [] .nil)) (.cons (.bin .Add (.cst (.int 30)) (.call "_law_take" (.cons (.var 0) (.cons (.cst (.int 31)) .nil)) [] .nil)) (.cons (.bin .Pow (.cst (.int 10)) (.cst (.int 6))) .nil))))) [] .nil)) .skip) .skip) (.seq (.ite (.cmp .Eq (.var 2) (.cst (.int 1))) (.seq (.ret (.call "_law_saying" (.cons (.var 0) (.cons (.bin .Sub (.cst (.int 9)) (.call "_law_take" (.cons (.var 0) (.cons (.cst (.int 6)) .nil)) [] .nil)) (.cons (.bin .Sub (.cst (.int 9)) (.call "_law_take" (.cons (.var 0) (.cons (.cst (.int 6)) .nil)) [] .nil)) (.cons (.bin .Add (.cst (.int 1)) (.call "_law_take" (.cons (.var 0) (.cons (.cst (.int 3)) .nil)) [] .nil)) (.cons (.cst (.int 60)) .nil))))) [] .nil)) .skip) .skip) (.seq (.set (.v 3) (.bin .Add (.cst (.int 1)) (.call "_law_take" (.cons (.var 0) (.cons (.idx (.lst (.cons (.cst (.int 6)) (.cons (.cst (.int 4)) .nil))) (.bl .int (.cons (.cmp .Gt (.var 1) (.cst (.int 5))) .nil))) .nil)) [] .nil))) (.seq (.ret (.call "_law_saying" (.cons (.var 0) (.cons (.bin .Add (.cst (.int 1)) (.call "_law_take" (.cons (.var 0) (.cons (.cst (.int 3)) .nil)) [] .nil)) (.cons (.bin .Add (.cst (.int 1)) (.call "_law_take" (.cons (.var 0) (.cons (.cst (.int 4)) .nil)) [] .nil)) (.cons (.var 3) (.cons (.idx (.lst (.cons (.cst (.int 3)) (.cons (.cst (.int 9)) (.cons (.cst (.int 40)) .nil)))) (.call "_law_take" (.cons (.var 0) (.cons (.cst (.int 3)) .nil)) [] .nil)) .nil))))) [] .nil)) .skip)))))
def f__law_any : Fn := ⟨"_law_any", ["pot", "k"], 2, [], ["pot", "k", "way", "rooms"], b__law_any⟩
def d__law_any : He.DefD := ⟨("_law_any", none), "_law_any", "_law_any", defArgs (top 44), defBody (top 44), defScope (top 44), [], []⟩
def c_law_0 : Cl := (.gen (.v 9) [9] (.val (.var 1)) (.cons (.not_ (.v (.call "_law_right" (.cons (.var 9) .nil) [] .nil))) .nil) (.fin (.var 9)))
def c_law_1 : Cl := (.gen (.v 8) [8] (.rng1 (.var 7)) .nil (.fin (.tup (.cons (.tup (.cons (.bin .Mod (.bin .Add (.var 8) (.cst (.int 1))) (.var 7)) .nil)) .nil))))
def b_law_2 : C := (.seq (.ite (.not_ (.v (.call "_law_right" (.cons (.tup (.cons (.cst (.int 1)) (.cons (.cst (.int 1)) (.cons (.bl .tuple (.cons (.lc c_law_1) .nil)) .nil)))) .nil) [] .nil))) (.seq (.ret (.cst (.bl false))) .skip) .skip) .skip)
def b_law_3 : C := (.seq (.ite (.not_ (.v (.call "_law_right" (.cons (.var 6) .nil) [] .nil))) (.seq (.ret (.cst (.bl false))) .skip) .skip) .skip)
def b_law_4 : C := (.seq (.set (.v 3) (.call "_law_pot" (.cons (.var 0) (.cons (.var 2) .nil)) [] .nil)) (.seq (.set (.v 4) (.call "_law_any" (.cons (.var 3) (.cons (.var 2) .nil)) [] .nil)) (.seq (.set (.v 5) (.call "_law_other" (.cons (.var 3) (.cons (.var 4) (.cons (.var 1) .nil))) [] .nil)) (.seq (.for_ (.v 6) (.val (.tup (.cons (.var 4) (.cons (.var 5) (.cons (.call "_law_other" (.cons (.var 3) (.cons (.var 5) (.cons (.var 1) .nil))) [] .nil) (.cons (.idx (.var 1) (.call "_law_take" (.cons (.var 3) (.cons (.cst (.int 16)) .nil)) [] .nil)) .nil)))))) b_law_3) .skip))))
def b_law : C := (.seq (.setO 1 (.lst (.cons (.cst .non) (.cons (.cst (.bl true)) (.cons (.cst (.bl false)) (.cons (.neg (.cst (.int 1))) (.cons (.cst (.int 0)) (.cons (.cst (.int 1)) (.cons (.cst (.int 9)) (.cons (.cst (.int 10)) (.cons (.bin .Pow (.cst (.int 10)) (.cst (.int 39))) (.cons (.cst (.str "")) (.cons (.cst (.str "0")) (.cons (.tup .nil) (.cons (.tup (.cons (.cst (.int 0)) .nil)) (.cons (.lst .nil) (.cons (.lst (.cons (.cst (.int 0)) (.cons (.cst (.int 0)) .nil))) (.cons (.dlit false .nil) .nil)))))))))))))))))) (.seq (.for_ (.v 2) (.rng1 (.bl .max2 (.cons (.cst (.int 1)) (.cons (.bl .min2 (.cons (.cst (.int 20)) (.cons (.bl .len (.cons (.var 0) .nil)) .nil))) .nil)))) b_law_4) (.seq (.for_ (.v 7) (.val (.tup (.cons (.cst (.int 99)) (.cons (.cst (.int 100)) .nil)))) b_law_2) (.seq (.ret (.cmp .Eq (.lc c_law_0) (.lst .nil))) .skip))))
def f_law : Fn := ⟨"law", ["script"], 1, [], ["script", "odds", "k", "pot", "saying", "once", "thing", "many", "room", "odd"], b_law⟩
def d_law : He.DefD := ⟨("law", none), "law", "law", defArgs (top 45), defBody (top 45), defScope (top 45), [], []⟩
def st_lag_follow : Stmt := inStmt "follow" (defBody (top 28))
def nf_lag_follow : NfD := nfOf "lag.<locals>.follow" st_lag_follow
def b_lag_follow : C := (.seq (.set (.v 4) (.call "come_to" (.cons (.var 3) (.cons (.var 0) (.cons (.var 1) .nil))) [] .nil)) (.seq (.ret (.ite (.v (.call "breaks_by_some" (.cons (.var 3) (.cons (.var 4) (.cons (.var 2) .nil))) [] .nil)) (.cst .non) (.tup (.cons (.var 4) (.cons (.var 2) .nil))))) .skip))
def f_lag_follow : Fn := ⟨"follow", ["room", "told", "deed"], 3, [], ["room", "told", "deed", "saying", "at"], b_lag_follow⟩
def fns0 : List Fn := [f_is_whole, f_is_below, f_is_count, f_is_row, f_is_room, f_is_saying, f_need_saying, f_first_come, f_come_to, f_breaks_by_some, f_lag, f_late, f_rooms_late, f__law_pot, f__law_take, f__law_same, f__law_whole, f__law_room, f__law_saying, f__law_other, f__law_is_saying, f__law_lag, f__law_word, f__law_asked, f__law_right, f__law_any, f_law]
def dns0 : List He.DefD := [d_is_whole, d_is_below, d_is_count, d_is_row, d_is_room, d_is_saying, d_need_saying, d_first_come, d_come_to, d_breaks_by_some, d_lag, d_late, d_rooms_late, d__law_pot, d__law_take, d__law_same, d__law_whole, d__law_room, d__law_saying, d__law_other, d__law_is_saying, d__law_lag, d__law_word, d__law_asked, d__law_right, d__law_any, d_law]
def nms0 : List Str := ["is_whole", "is_below", "is_count", "is_row", "is_room", "is_saying", "need_saying", "first_come", "come_to", "breaks_by_some", "lag", "late", "rooms_late", "_law_pot", "_law_take", "_law_same", "_law_whole", "_law_room", "_law_saying", "_law_other", "_law_is_saying", "_law_lag", "_law_word", "_law_asked", "_law_right", "_law_any", "law"]
def fns : List Fn := fns0
def dns : List He.DefD := dns0
def nms : List Str := nms0
def subT : SubT := [("NoSaying", "NoClasses", false), ("NoSaying", "NoCount", false), ("NoSaying", "NoKeep", false), ("NoSaying", "NoNumber", false), ("NoSaying", "NoPrices", false), ("NoSaying", "NoRoom", false), ("NoSaying", "NoSaying", true), ("NoSaying", "NoStep", false), ("NoSaying", "NoWatcher", false), ("NoSaying", "TooWide", false), ("NoSaying", "Unlike", false), ("NoSaying", "ValueError", true), ("NoSaying", "WardError", true), ("TooWide", "NoClasses", false), ("TooWide", "NoCount", false), ("TooWide", "NoKeep", false), ("TooWide", "NoNumber", false), ("TooWide", "NoPrices", false), ("TooWide", "NoRoom", false), ("TooWide", "NoSaying", false), ("TooWide", "NoStep", false), ("TooWide", "NoWatcher", false), ("TooWide", "TooWide", true), ("TooWide", "Unlike", false), ("TooWide", "ValueError", true), ("TooWide", "WardError", true)]
def clos : List Fn := [f_lag_follow]
def nfs : List NfD := [nf_lag_follow]
def tf : TfN := [("lag", [(86, 4, "lag.<locals>.follow")])]
def inn : List Nat := [10]
def exs : List Str := ["WardError", "NoCount", "NoSaying", "NoPrices", "NoRoom", "NoStep", "NoWatcher", "NoNumber", "NoKeep", "NoClasses", "Unlike", "TooWide"]
def Pg : Pgm := ⟨fns, clos, subOf subT⟩
def Z : Gz := ⟨[("MOST", (.int 100)), ("WIDE", (.int 9))], nms, ["abs", "all", "any", "bool", "int", "isinstance", "len", "list", "max", "min", "range", "repr", "str", "tuple", "zip"], exs, ["WardError", "NoCount", "NoSaying", "NoPrices", "NoRoom", "NoStep", "NoWatcher", "NoNumber", "NoKeep", "NoClasses", "Unlike", "TooWide", "ValueError"], ["_law_word"], nfs⟩
def nn : List Str := []
def faC : List He.Fa := [.int "MOST" 100, .int "WIDE" 9]
def faB : List He.Fa := [.free "abs", .free "all", .free "any", .free "bool", .free "int", .free "isinstance", .free "len", .free "list", .free "max", .free "min", .free "range", .free "repr", .free "str", .free "tuple", .free "zip", .free "ValueError"]
def fa : List He.Fa := (nms.map He.Fa.glo) ++ ((exs.map He.Fa.glo) ++ ((exs.map He.Fa.exc) ++ (faB ++ faC)))
def lo0 : List Str := ["WardError", "NoCount", "NoSaying", "NoPrices", "NoRoom", "NoStep", "NoWatcher", "NoNumber", "NoKeep", "NoClasses", "Unlike", "TooWide", "MOST", "WIDE", "is_whole", "is_below", "is_count", "is_row", "is_room", "is_saying", "need_saying", "first_come", "come_to", "breaks_by_some", "lag", "late", "rooms_late", "_law_pot", "_law_take", "_law_same"]
def lo1 : List Str := ["_law_whole", "_law_room", "_law_saying", "_law_other", "_law_is_saying", "_law_lag", "_law_word", "_law_asked", "_law_right", "_law_any"]
def lo : List Str := lo0 ++ lo1
theorem find_is_whole : Pg.fns.find? (fun f => f.name == ("is_whole" : Str)) = some f_is_whole := by kernel_rfl
theorem find_is_below : Pg.fns.find? (fun f => f.name == ("is_below" : Str)) = some f_is_below := by kernel_rfl
theorem find_is_count : Pg.fns.find? (fun f => f.name == ("is_count" : Str)) = some f_is_count := by kernel_rfl
theorem find_is_row : Pg.fns.find? (fun f => f.name == ("is_row" : Str)) = some f_is_row := by kernel_rfl
theorem find_is_room : Pg.fns.find? (fun f => f.name == ("is_room" : Str)) = some f_is_room := by kernel_rfl
theorem find_is_saying : Pg.fns.find? (fun f => f.name == ("is_saying" : Str)) = some f_is_saying := by kernel_rfl
theorem find_need_saying : Pg.fns.find? (fun f => f.name == ("need_saying" : Str)) = some f_need_saying := by kernel_rfl
theorem find_first_come : Pg.fns.find? (fun f => f.name == ("first_come" : Str)) = some f_first_come := by kernel_rfl
theorem find_come_to : Pg.fns.find? (fun f => f.name == ("come_to" : Str)) = some f_come_to := by kernel_rfl
theorem find_breaks_by_some : Pg.fns.find? (fun f => f.name == ("breaks_by_some" : Str)) = some f_breaks_by_some := by kernel_rfl
theorem find_lag : Pg.fns.find? (fun f => f.name == ("lag" : Str)) = some f_lag := by kernel_rfl
theorem find_late : Pg.fns.find? (fun f => f.name == ("late" : Str)) = some f_late := by kernel_rfl
theorem find_rooms_late : Pg.fns.find? (fun f => f.name == ("rooms_late" : Str)) = some f_rooms_late := by kernel_rfl
theorem find__law_pot : Pg.fns.find? (fun f => f.name == ("_law_pot" : Str)) = some f__law_pot := by kernel_rfl
theorem find__law_take : Pg.fns.find? (fun f => f.name == ("_law_take" : Str)) = some f__law_take := by kernel_rfl
theorem find__law_same : Pg.fns.find? (fun f => f.name == ("_law_same" : Str)) = some f__law_same := by kernel_rfl
theorem find__law_whole : Pg.fns.find? (fun f => f.name == ("_law_whole" : Str)) = some f__law_whole := by kernel_rfl
theorem find__law_room : Pg.fns.find? (fun f => f.name == ("_law_room" : Str)) = some f__law_room := by kernel_rfl
theorem find__law_saying : Pg.fns.find? (fun f => f.name == ("_law_saying" : Str)) = some f__law_saying := by kernel_rfl
theorem find__law_other : Pg.fns.find? (fun f => f.name == ("_law_other" : Str)) = some f__law_other := by kernel_rfl
theorem find__law_is_saying : Pg.fns.find? (fun f => f.name == ("_law_is_saying" : Str)) = some f__law_is_saying := by kernel_rfl
theorem find__law_lag : Pg.fns.find? (fun f => f.name == ("_law_lag" : Str)) = some f__law_lag := by kernel_rfl
theorem find__law_word : Pg.fns.find? (fun f => f.name == ("_law_word" : Str)) = some f__law_word := by kernel_rfl
theorem find__law_asked : Pg.fns.find? (fun f => f.name == ("_law_asked" : Str)) = some f__law_asked := by kernel_rfl
theorem find__law_right : Pg.fns.find? (fun f => f.name == ("_law_right" : Str)) = some f__law_right := by kernel_rfl
theorem find__law_any : Pg.fns.find? (fun f => f.name == ("_law_any" : Str)) = some f__law_any := by kernel_rfl
theorem find_law : Pg.fns.find? (fun f => f.name == ("law" : Str)) = some f_law := by kernel_rfl
theorem bf_is_whole : BindF d_is_whole 1 ["thing"] := fun _ _ _ _ _ _ us hl => match us, hl with | [_], _ => rfl
theorem bf_is_below : BindF d_is_below 2 ["thing", "most"] := fun _ _ _ _ _ _ us hl => match us, hl with | [_, _], _ => rfl
theorem bf_is_count : BindF d_is_count 1 ["thing"] := fun _ _ _ _ _ _ us hl => match us, hl with | [_], _ => rfl
theorem bf_is_row : BindF d_is_row 2 ["thing", "many"] := fun _ _ _ _ _ _ us hl => match us, hl with | [_, _], _ => rfl
theorem bf_is_room : BindF d_is_room 4 ["thing", "signs", "deeds", "many"] := fun _ _ _ _ _ _ us hl => match us, hl with | [_, _, _, _], _ => rfl
theorem bf_is_saying : BindF d_is_saying 1 ["thing"] := fun _ _ _ _ _ _ us hl => match us, hl with | [_], _ => rfl
theorem bf_need_saying : BindF d_need_saying 1 ["thing"] := fun _ _ _ _ _ _ us hl => match us, hl with | [_], _ => rfl
theorem bf_first_come : BindF d_first_come 4 ["signs", "deeds", "begin", "follow"] := fun _ _ _ _ _ _ us hl => match us, hl with | [_, _, _, _], _ => rfl
theorem bf_come_to : BindF d_come_to 3 ["saying", "room", "told"] := fun _ _ _ _ _ _ us hl => match us, hl with | [_, _, _], _ => rfl
theorem bf_breaks_by_some : BindF d_breaks_by_some 3 ["saying", "at", "deed"] := fun _ _ _ _ _ _ us hl => match us, hl with | [_, _, _], _ => rfl
theorem bf_lag : BindF d_lag 1 ["saying"] := fun _ _ _ _ _ _ us hl => match us, hl with | [_], _ => rfl
theorem bf_late : BindF d_late 1 ["saying"] := fun _ _ _ _ _ _ us hl => match us, hl with | [_], _ => rfl
theorem bf_rooms_late : BindF d_rooms_late 1 ["saying"] := fun _ _ _ _ _ _ us hl => match us, hl with | [_], _ => rfl
theorem bf__law_pot : BindF d__law_pot 2 ["script", "k"] := fun _ _ _ _ _ _ us hl => match us, hl with | [_, _], _ => rfl
theorem bf__law_take : BindF d__law_take 2 ["pot", "many"] := fun _ _ _ _ _ _ us hl => match us, hl with | [_, _], _ => rfl
theorem bf__law_same : BindF d__law_same 2 ["found", "due"] := fun _ _ _ _ _ _ us hl => match us, hl with | [_, _], _ => rfl
theorem bf__law_whole : BindF d__law_whole 1 ["found"] := fun _ _ _ _ _ _ us hl => match us, hl with | [_], _ => rfl
theorem bf__law_room : BindF d__law_room 3 ["pot", "rooms", "rate"] := fun _ _ _ _ _ _ us hl => match us, hl with | [_, _, _], _ => rfl
theorem bf__law_saying : BindF d__law_saying 5 ["pot", "signs", "deeds", "rooms", "rate"] := fun _ _ _ _ _ _ us hl => match us, hl with | [_, _, _, _, _], _ => rfl
theorem bf__law_other : BindF d__law_other 3 ["pot", "thing", "odds"] := fun _ _ _ _ _ _ us hl => match us, hl with | [_, _, _], _ => rfl
theorem bf__law_is_saying : BindF d__law_is_saying 1 ["thing"] := fun _ _ _ _ _ _ us hl => match us, hl with | [_], _ => rfl
theorem bf__law_lag : BindF d__law_lag 1 ["saying"] := fun _ _ _ _ _ _ us hl => match us, hl with | [_], _ => rfl
theorem bf__law_word : BindF d__law_word 1 ["caught"] := fun _ _ _ _ _ _ us hl => match us, hl with | [_], _ => rfl
theorem bf__law_asked : BindF d__law_asked 2 ["door", "saying"] := fun _ _ _ _ _ _ us hl => match us, hl with | [_, _], _ => rfl
theorem bf__law_right : BindF d__law_right 1 ["saying"] := fun _ _ _ _ _ _ us hl => match us, hl with | [_], _ => rfl
theorem bf__law_any : BindF d__law_any 2 ["pot", "k"] := fun _ _ _ _ _ _ us hl => match us, hl with | [_, _], _ => rfl
theorem bf_law : BindF d_law 1 ["script"] := fun _ _ _ _ _ _ us hl => match us, hl with | [_], _ => rfl
theorem ba0 : BindAll fns0 dns0 := ⟨bf_is_whole, bf_is_below, bf_is_count, bf_is_row, bf_is_room, bf_is_saying, bf_need_saying, bf_first_come, bf_come_to, bf_breaks_by_some, bf_lag, bf_late, bf_rooms_late, bf__law_pot, bf__law_take, bf__law_same, bf__law_whole, bf__law_room, bf__law_saying, bf__law_other, bf__law_is_saying, bf__law_lag, bf__law_word, bf__law_asked, bf__law_right, bf__law_any, bf_law, trivial⟩
theorem ba : BindAll fns dns := ba0
theorem fd_lag : FdI Z tf f_lag d_lag := fun p hp => by
  rw [show fdCs (czF f_lag d_lag.scope Z (qualIn d_lag.qual d_lag.scope) (nmsOf tf f_lag.name)) f_lag.body d_lag.body = [(0, nf_lag_follow)] by kernel_rfl] at hp
  simp only [List.mem_cons, List.not_mem_nil, or_false] at hp
  rcases hp with rfl <;> kernel_rfl
theorem hin : ∀ i, inn.contains i = true → ∀ fn d, fns[i]? = some fn → dns[i]? = some d → FdI Z tf fn d := fun i hi fn d h1 h2 => by
  have hm : i ∈ inn := by simpa using hi
  simp only [inn, List.mem_cons, List.not_mem_nil, or_false] at hm
  rcases hm with rfl
  · rw [show fns[10]? = some f_lag by kernel_rfl] at h1
    rw [show dns[10]? = some d_lag by kernel_rfl] at h2
    cases h1; cases h2; exact fd_lag

theorem hglo : (fns.map (·.name)).all (fun x => fa.any fun z => match z with | .glo y => decide (y = x) | _ => false) = true := by kernel_rfl
theorem htop : topB fa dns nn subT Z = true := by kernel_rfl
theorem ok_all : ((List.range fns.length).all fun i => okR Z tf inn fns dns i) = true := by kernel_rfl
end K75

/-! running the evaluator by simp -/
namespace MP
open PySem
def bindO {α β : Type} (r : Out α) (k : α → Fr → Store → Out β) : Out β := match r with
  | .ok a ρ S => k a ρ S
  | .exc c ρ S => .exc c ρ S
  | .stk => .stk
section
variable {α β : Type} {m : M α} {k : α → M β} {a : α} {ρ ρ' : Fr} {S S' : Store} {c : Str} {cl : Calls} {sub : Str → Str → Option Bool}
theorem mbind_ap : mbind m k ρ S = bindO (m ρ S) k := rfl
theorem bindO_ok : bindO (.ok a ρ S) k = k a ρ S := rfl
theorem bindO_exc : bindO (.exc c ρ S : Out α) k = .exc c ρ S := rfl
theorem bindO_stk : bindO (.stk : Out α) k = .stk := rfl
theorem bindO_ite {p : Prop} [Decidable p] {x y : Out α} : bindO (if p then x else y) k = if p then bindO x k else bindO y k := by split <;> rfl
theorem ite_ap {p : Prop} [Decidable p] {m m' : M α} : (if p then m else m') ρ S = if p then m ρ S else m' ρ S := by split <;> rfl
theorem mret_ap : mret a ρ S = .ok a ρ S := rfl
theorem mstk_ap : (mstk : M α) ρ S = .stk := rfl
theorem mopt_some : mopt (some a) ρ S = .ok a ρ S := rfl
theorem mopt_none : mopt (none : Option α) ρ S = .stk := rfl
def liftO (r : Out0) (ρ : Fr) : Out D := match r with
  | .ok d S => .ok d ρ S
  | .exc c S => .exc c ρ S
  | .stk => .stk
theorem lift0_ap {r : Store → Out0} : lift0 r ρ S = liftO (r S) ρ := rfl
theorem liftO_ok {d : D} : liftO (.ok d S) ρ = .ok d ρ S := rfl
theorem asP_var {i : Nat} {m : M D} : asP (.var i) m = peek i := rfl
theorem peek_val {i : Nat} {d : D} (h : ρ[i]? = some (.val d)) : peek i ρ S = .ok (.v d) ρ S := by unfold peek; rw [h]
theorem peek_own {i : Nat} {o : MO} (h : ρ[i]? = some (.own o)) : peek i ρ S = .ok (.s i) ρ S := by unfold peek; rw [h]
theorem peek_lck {i : Nat} {o : MO} (h : ρ[i]? = some (.lck o)) : peek i ρ S = .ok (.s i) ρ S := by unfold peek; rw [h]
theorem take_val {i : Nat} {d : D} (h : ρ[i]? = some (.val d)) : take i ρ S = .ok d ρ S := by unfold take; rw [h]
theorem take_own {i : Nat} {l : List D} (h : ρ[i]? = some (.own (.lst l))) : take i ρ S = .ok (.lst l) (ρ.set i (.val (.lst l))) S := by unfold take; rw [h]; rfl
/-- no place of the store -/
def noRef : D → Bool
  | .ref _ => false
  | _ => true
theorem mval_v {d : D} (h : noRef d = true) : mval (.v d) ρ S = .ok d ρ S := by cases d <;> first | rfl | cases h
theorem mval_ref {n : Nat} {l : List D} (h : S[n]? = some (.lst l)) : mval (.v (.ref n)) ρ S = .ok (.lst l) ρ S := by
  simp only [mval, mbind, mres, mret, mrefd, h, moD]
theorem mval_own {i : Nat} {l : List D} (h : ρ[i]? = some (.own (.lst l))) : mval (.s i) ρ S = .ok (.lst l) ρ S := by
  simp only [mval, mbind, mres, mret, mrefd, h, moD]
theorem mval_lck {i : Nat} {l : List D} (h : ρ[i]? = some (.lck (.lst l))) : mval (.s i) ρ S = .ok (.lst l) ρ S := by
  simp only [mval, mbind, mres, mret, mrefd, h, moD]
theorem mval_int {i : Int} : mval (.v (.int i)) ρ S = .ok (.int i) ρ S := rfl
theorem mval_str {i : Str} : mval (.v (.str i)) ρ S = .ok (.str i) ρ S := rfl
theorem mval_bl {i : Bool} : mval (.v (.bl i)) ρ S = .ok (.bl i) ρ S := rfl
theorem mval_non : mval (.v .non) ρ S = .ok .non ρ S := rfl
theorem mval_tup {l : List D} : mval (.v (.tup l)) ρ S = .ok (.tup l) ρ S := rfl
theorem mval_lst {l : List D} : mval (.v (.lst l)) ρ S = .ok (.lst l) ρ S := rfl
theorem mval_fz {l : List D} : mval (.v (.fz l)) ρ S = .ok (.fz l) ρ S := rfl
theorem mval_fn {x : Str} : mval (.v (.fn x)) ρ S = .ok (.fn x) ρ S := rfl
theorem mresL_v {d : D} : mresL (.v d) ρ S = .ok d ρ S := rfl
theorem mresL_lck {i : Nat} {l : List D} (h : ρ[i]? = some (.lck (.lst l))) : mresL (.s i) ρ S = .ok (.lst l) ρ S := by simp only [mresL, h, moD]
/-! a def's end -/
def outO (r : Out Fl) : Out0 := match r with
  | .ok .nx _ S => .ok .non S
  | .ok (.rt d) _ S => .ok d S
  | .ok _ _ _ => .stk
  | .exc c _ S => .exc c S
  | .stk => .stk
theorem run_ap {fn : Fn} {args : List D} : runFn cl sub fn args S = outO (evC cl sub fn.body (frame0 fn args) S) := rfl
theorem outO_rt {d : D} : outO (.ok (.rt d) ρ S) = .ok d S := rfl
theorem outO_nx : outO (.ok .nx ρ S) = .ok .non S := rfl
theorem outO_ite {p : Prop} [Decidable p] {x y : Out Fl} : outO (if p then x else y) = if p then outO x else outO y := by split <;> rfl
/-! loops -/
theorem bindT_v {i : Nat} {d : D} (h : i < ρ.length) : bindT (.v i) d ρ S = .ok () (ρ.set i (.val d)) S := by
  show (if i < ρ.length then _ else _) = _
  rw [if_pos h]
theorem forM_nil {t : Tg} {b : M Fl} : forM t b [] ρ S = .ok .nx ρ S := rfl
/-- a loop whose turns all go on -/
theorem for_inv {t : Tg} {b : M Fl} {l : List D} (P : Nat → Fr → Store → Prop) (h0 : P 0 ρ S)
    (step : ∀ (i : Nat) (d : D) (ρ : Fr) (S : Store), l[i]? = some d → P i ρ S → ∃ ρ' S' f, bindO (bindT t d ρ S) (fun _ => b) = .ok f ρ' S' ∧ (f = .nx ∨ f = .ct) ∧ P (i + 1) ρ' S') : ∃ ρ' S', forM t b l ρ S = .ok .nx ρ' S' ∧ P l.length ρ' S' := by
  induction l generalizing ρ S P with
  | nil => exact ⟨ρ, S, rfl, h0⟩
  | cons d l ih =>
    obtain ⟨ρ1, S1, f, e, hf, p1⟩ := step 0 d ρ S rfl h0
    obtain ⟨ρ2, S2, e2, p2⟩ := ih (P := fun i => P (i + 1)) p1 fun i d ρ S h p => step (i + 1) d ρ S (by simpa using h) p
    refine ⟨ρ2, S2, ?_, p2⟩
    show mbind (bindT t d) (fun _ => mbind b fun f => match f with
      | .nx => forM t b l
      | .ct => forM t b l
      | .bk => mret .nx
      | .rt d => mret (.rt d)) ρ S = _
    rw [mbind_ap]
    cases h : bindT t d ρ S with
    | ok u ρ' S' =>
      rw [h, bindO_ok] at e
      rw [bindO_ok, mbind_ap, e, bindO_ok]
      rcases hf with hf | hf <;> subst hf <;> exact e2
    | exc c ρ' S' => rw [h] at e; cases e
    | stk => rw [h] at e; cases e
/-! comprehensions -/
theorem noOwn_lock (ρ : Fr) : noOwn (lockF ρ) = true := by
  unfold noOwn lockF
  rw [List.all_map, List.all_eq_true]
  intro x _
  cases x <;> rfl
theorem flat_pure {α : Type} {f : α → M (List D)} {g : α → List D} : ∀ {l : List α}, (∀ a ∈ l, f a ρ S = .ok (g a) ρ S) → flatM f l ρ S = .ok (l.flatMap g) ρ S
  | [], _ => rfl
  | a :: l, h => by
    show mbind (f a) (fun x => mbind (flatM f l) fun y => mret (x ++ y)) ρ S = _
    rw [mbind_ap, h a List.mem_cons_self, bindO_ok, mbind_ap, flat_pure fun b hb => h b (List.mem_cons_of_mem _ hb), bindO_ok]
    rfl
/-- one clause, its turns without changes -/
theorem lc_pure {t : Tg} {own : List Nat} {it : It} {cs : Ts} {r : Cl} {l : List D} {g : D → List D} (hi : evI cl sub false it (lockF ρ) S = .ok l (lockF ρ) S)
    (hd : ∀ d ∈ l, ∃ ρ2, bindO (bindT t d (wipeF (lockF ρ) own) S) (fun _ => mbind (evTs cl sub .And cs) fun k => if k then evCl cl sub r else mret []) = .ok (g d) ρ2 S) (hl : (l.flatMap g).length ≤ 16777216) :
    fLc (evCl cl sub (.gen t own it cs r)) ρ S = .ok (l.flatMap g) ρ S := by
  have e : flatM (fun d => fun ρ S => shut (mbind (bindT t d) fun _ => mbind (evTs cl sub .And cs) fun k => if k then evCl cl sub r else mret []) (wipeF ρ own) ρ S) l (lockF ρ) S = .ok (l.flatMap g) (lockF ρ) S := by
    refine flat_pure fun d hdm => ?_
    obtain ⟨ρ2, h⟩ := hd d hdm
    show shut (mbind (bindT t d) fun _ => mbind (evTs cl sub .And cs) fun k => if k then evCl cl sub r else mret []) (wipeF (lockF ρ) own) (lockF ρ) S = _
    unfold shut
    rw [mbind_ap, h]
  have e2 : evCl cl sub (.gen t own it cs r) (lockF ρ) S = .ok (l.flatMap g) (lockF ρ) S := by
    show mbind (evI cl sub false it) (fun l => fun ρ S => if noOwn ρ then flatM (fun d => fun ρ S => shut (mbind (bindT t d) fun _ => mbind (evTs cl sub .And cs) fun k => if k then evCl cl sub r else mret []) (wipeF ρ own) ρ S) l ρ S else .stk) (lockF ρ) S = _
    rw [mbind_ap, hi, bindO_ok, noOwn_lock, if_pos rfl]
    exact e
  unfold fLc
  rw [mbind_ap]
  show bindO (shut (evCl cl sub (.gen t own it cs r)) (lockF ρ) ρ S) okItems = _
  unfold shut
  rw [e2]
  show okItems (l.flatMap g) ρ S = _
  unfold okItems
  rw [show okLen (l.flatMap g).length = true from decide_eq_true hl]
  rfl
/-- .. without tests, each turn one item -/
theorem lc_map {t : Tg} {own : List Nat} {it : It} {e : E} {l : List D} {g : D → D} (hi : evI cl sub false it (lockF ρ) S = .ok l (lockF ρ) S)
    (hd : ∀ d ∈ l, ∃ ρ2, bindO (bindT t d (wipeF (lockF ρ) own) S) (fun _ => evE cl sub e) = .ok (g d) ρ2 S) (hl : l.length ≤ 16777216) :
    fLc (evCl cl sub (.gen t own it .nil (.fin e))) ρ S = .ok (l.map g) ρ S := by
  have e1 : ∀ l : List D, l.flatMap (fun d => [g d]) = l.map g := fun l => by
    induction l with
    | nil => rfl
    | cons x l ih => rw [List.flatMap_cons, ih]; rfl
  have h := lc_pure (t := t) (own := own) (cs := .nil) (r := .fin e) (g := fun d => [g d]) hi (fun d hdm => ?_) (by rw [e1, List.length_map]; exact hl)
  · rw [e1] at h
    exact h
  · obtain ⟨ρ2, h⟩ := hd d hdm
    refine ⟨ρ2, ?_⟩
    cases h1 : bindT t d (wipeF (lockF ρ) own) S with
    | ok u ρ' S' =>
      rw [h1, bindO_ok] at h
      rw [bindO_ok]
      show bindO (evTs cl sub .And .nil ρ' S') (fun k => if k then evCl cl sub (.fin e) else mret []) = _
      show (mbind (evE cl sub e) fun d => mret [d]) ρ' S' = _
      rw [mbind_ap, h]
      rfl
    | exc c ρ' S' => rw [h1] at h; cases h
    | stk => rw [h1] at h; cases h
/-- the items as images -/
theorem flat_img {α : Type} {a : α → D} {f : D → M (List D)} {g : α → List D} : ∀ {l : List α}, (∀ x ∈ l, f (a x) ρ S = .ok (g x) ρ S) → flatM f (l.map a) ρ S = .ok (l.flatMap g) ρ S
  | [], _ => rfl
  | x :: l, h => by
    show mbind (f (a x)) (fun z => mbind (flatM f (l.map a)) fun y => mret (z ++ y)) ρ S = _
    rw [mbind_ap, h x List.mem_cons_self, bindO_ok, mbind_ap, flat_img fun b hb => h b (List.mem_cons_of_mem _ hb), bindO_ok]
    rfl
theorem cl_img {α : Type} {a : α → D} {t : Tg} {own : List Nat} {it : It} {cs : Ts} {r : Cl} {l : List α} {g : α → List D} (hi : evI cl sub false it ρ S = .ok (l.map a) ρ S) (no : noOwn ρ = true)
    (hd : ∀ x ∈ l, ∃ ρ2, bindO (bindT t (a x) (wipeF ρ own) S) (fun _ => mbind (evTs cl sub .And cs) fun k => if k then evCl cl sub r else mret []) = .ok (g x) ρ2 S) :
    evCl cl sub (.gen t own it cs r) ρ S = .ok (l.flatMap g) ρ S := by
  have e : flatM (fun d => fun ρ S => shut (mbind (bindT t d) fun _ => mbind (evTs cl sub .And cs) fun k => if k then evCl cl sub r else mret []) (wipeF ρ own) ρ S) (l.map a) ρ S = .ok (l.flatMap g) ρ S := by
    refine flat_img fun x hx => ?_
    obtain ⟨ρ2, h⟩ := hd x hx
    show shut (mbind (bindT t (a x)) fun _ => mbind (evTs cl sub .And cs) fun k => if k then evCl cl sub r else mret []) (wipeF ρ own) ρ S = _
    unfold shut
    rw [mbind_ap, h]
  show mbind (evI cl sub false it) (fun l => fun ρ S => if noOwn ρ then flatM (fun d => fun ρ S => shut (mbind (bindT t d) fun _ => mbind (evTs cl sub .And cs) fun k => if k then evCl cl sub r else mret []) (wipeF ρ own) ρ S) l ρ S else .stk) ρ S = _
  rw [mbind_ap, hi, bindO_ok, no, if_pos rfl]
  exact e
theorem lc_of_cl {c : Cl} {l : List D} (h : evCl cl sub c (lockF ρ) S = .ok l (lockF ρ) S) (hl : l.length ≤ 16777216) : fLc (evCl cl sub c) ρ S = .ok l ρ S := by
  unfold fLc
  rw [mbind_ap]
  show bindO (shut (evCl cl sub c) (lockF ρ) ρ S) okItems = _
  unfold shut
  rw [h]
  show okItems l ρ S = _
  unfold okItems
  rw [show okLen l.length = true from decide_eq_true hl]
  rfl
theorem fm_one' {α β : Type} {f : α → β} : ∀ l : List α, (l.flatMap fun y => [f y]) = l.map f
  | [] => rfl
  | x :: l => by rw [List.flatMap_cons, fm_one' l]; rfl
theorem lc_img {α : Type} {a : α → D} {t : Tg} {own : List Nat} {it : It} {e : E} {l : List α} {g : α → D} (hi : evI cl sub false it (lockF ρ) S = .ok (l.map a) (lockF ρ) S)
    (hd : ∀ x ∈ l, ∃ ρ2, bindO (bindT t (a x) (wipeF (lockF ρ) own) S) (fun _ => evE cl sub e) = .ok (g x) ρ2 S) (hl : l.length ≤ 16777216) :
    fLc (evCl cl sub (.gen t own it .nil (.fin e))) ρ S = .ok (l.map g) ρ S := by
  have h := cl_img (t := t) (own := own) (cs := .nil) (r := .fin e) (g := fun x => [g x]) hi (noOwn_lock ρ) fun x hx => ?_
  · rw [fm_one'] at h
    exact lc_of_cl h (by rw [List.length_map]; exact hl)
  · obtain ⟨ρ2, h⟩ := hd x hx
    refine ⟨ρ2, ?_⟩
    cases h1 : bindT t (a x) (wipeF (lockF ρ) own) S with
    | ok u ρ' S' =>
      rw [h1, bindO_ok] at h
      rw [bindO_ok]
      show (mbind (evE cl sub e) fun d => mret [d]) ρ' S' = _
      rw [mbind_ap, h]
      rfl
    | exc c ρ' S' => rw [h1] at h; cases h
    | stk => rw [h1] at h; cases h
/-- a clause within a block -/
theorem cl_pure {t : Tg} {own : List Nat} {it : It} {cs : Ts} {r : Cl} {l : List D} {g : D → List D} (hi : evI cl sub false it ρ S = .ok l ρ S) (no : noOwn ρ = true)
    (hd : ∀ d ∈ l, ∃ ρ2, bindO (bindT t d (wipeF ρ own) S) (fun _ => mbind (evTs cl sub .And cs) fun k => if k then evCl cl sub r else mret []) = .ok (g d) ρ2 S) :
    evCl cl sub (.gen t own it cs r) ρ S = .ok (l.flatMap g) ρ S := by
  have e : flatM (fun d => fun ρ S => shut (mbind (bindT t d) fun _ => mbind (evTs cl sub .And cs) fun k => if k then evCl cl sub r else mret []) (wipeF ρ own) ρ S) l ρ S = .ok (l.flatMap g) ρ S := by
    refine flat_pure fun d hdm => ?_
    obtain ⟨ρ2, h⟩ := hd d hdm
    show shut (mbind (bindT t d) fun _ => mbind (evTs cl sub .And cs) fun k => if k then evCl cl sub r else mret []) (wipeF ρ own) ρ S = _
    unfold shut
    rw [mbind_ap, h]
  show mbind (evI cl sub false it) (fun l => fun ρ S => if noOwn ρ then flatM (fun d => fun ρ S => shut (mbind (bindT t d) fun _ => mbind (evTs cl sub .And cs) fun k => if k then evCl cl sub r else mret []) (wipeF ρ own) ρ S) l ρ S else .stk) ρ S = _
  rw [mbind_ap, hi, bindO_ok, no, if_pos rfl]
  exact e
theorem fm_one {α β : Type} {f : α → β} : ∀ l : List α, (l.flatMap fun y => [f y]) = l.map f
  | [] => rfl
  | x :: l => by rw [List.flatMap_cons, fm_one l]; rfl
theorem evCl_fin {e : E} : evCl cl sub (.fin e) ρ S = bindO (evE cl sub e ρ S) fun d => mret [d] := rfl
theorem evTs_nil : evTs cl sub .And .nil ρ S = .ok true ρ S := rfl
theorem allStr_map : ∀ {l : List Str}, allStr (l.map D.str) = some l
  | [] => rfl
  | x :: l => by
    show (allStr (l.map D.str)).map (x :: ·) = _
    rw [allStr_map]
    rfl
theorem join_str {a : Str} {l : List Str} (h : (l.map (·.length)).sum + l.length * a.length ≤ 16777216) : opMt .join (.str a) [.lst (l.map D.str)] = some (.str (Txt.join a l)) := by
  show ((allStr (l.map D.str)).bind fun ys => if okLen ((ys.map (·.length)).sum + ys.length * a.length) then some (D.str (Txt.join a ys)) else none) = _
  rw [allStr_map]
  show (if okLen ((l.map (·.length)).sum + l.length * a.length) then some (D.str (Txt.join a l)) else none) = _
  rw [show okLen ((l.map (·.length)).sum + l.length * a.length) = true from decide_eq_true h]
  rfl
theorem sum_le {α : Type} {f : α → Nat} {c : Nat} : ∀ {l : List α}, (∀ x ∈ l, f x ≤ c) → (l.map f).sum ≤ l.length * c
  | [], _ => by simp
  | x :: l, h => by
    have h1 := h x List.mem_cons_self
    have h2 := sum_le (l := l) fun y hy => h y (List.mem_cons_of_mem _ hy)
    rw [List.map_cons, List.sum_cons, List.length_cons, Nat.succ_mul]
    omega
theorem fBinL_ap {o : Operator} {pa pb : M PV} : fBinL o pa pb ρ S = bindO (pa ρ S) fun p => mbind pb fun q => mbind (mval p) fun x => mbind (mval q) fun y => mopt (opBinL o x y) := rfl
theorem fLst_ap {ml : M (List D)} : fLst ml ρ S = bindO (ml ρ S) fun l => if okLen l.length then mret l else mstk := rfl
theorem addL {a b : List D} (h : a.length + b.length ≤ 16777216) : opBinL .Add (.lst a) (.lst b) = some (a ++ b) := by
  show (if okLen (a.length + b.length) then some (a ++ b) else none) = _
  rw [show okLen (a.length + b.length) = true from decide_eq_true h]
  rfl
theorem fFl_ap {b : Fl1} {ml : M (List PV)} : fFl b ml ρ S = bindO (ml ρ S) fun ps => mbind (mvals ps) fun ds => mopt (opFl b ds) := rfl
theorem fl_tup {l : List D} : opFl .list [.tup l] = some l := rfl
theorem fl_lst {l : List D} : opFl .list [.lst l] = some l := rfl
theorem chg_own {i : Nat} {o o' : MO} {f : MO → Option MO} (h : ρ[i]? = some (.own o)) (hf : f o = some o') : chg (.s i) f ρ S = .ok .nx (ρ.set i (.own o')) S := by
  unfold chg
  simp only [h, hf]
theorem chg_ref {k : Nat} {o o' : MO} {f : MO → Option MO} (h : S[k]? = some o) (hf : f o = some o') : chg (.v (.ref k)) f ρ S = .ok .nx ρ (S.set k o') := by
  unfold chg
  simp only [h, hf]
theorem addTo_ok {l l' : List D} (h : l.length + l'.length ≤ 16777216) : addTo l' (.lst l) = some (.lst (l ++ l')) := by
  show (if okLen (l.length + l'.length) then some (MO.lst (l ++ l')) else none) = _
  rw [show okLen (l.length + l'.length) = true from decide_eq_true h]
  rfl
theorem fMtF_ap {m : MtF} {mo : M D} {ml : M (List PV)} : fMtF m mo ml ρ S = bindO (mo ρ S) fun x => match x with
    | .str a => mbind ml fun ps => mbind (mvals ps) fun ds => mopt (opMtF m (.str a) ds)
    | _ => mstk := rfl
theorem fSlL_ap {pa : M PV} {ml mh : M D} : fSlL pa ml mh ρ S = bindO (pa ρ S) fun p => mbind ml fun i => mbind mh fun j => mbind (mval p) fun x => match x with
    | .lst l => mopt (cutD l i j)
    | _ => mstk := rfl
theorem split_str {a b : Str} (h1 : (b.length != 0) = true) (h2 : a.length ≤ 16777214) : opMtF .split (.str a) [.str b] = some ((Txt.split a b).map D.str) := by
  show (if (b.length != 0) && okLen (a.length + 2) then some ((Txt.split a b).map D.str) else none) = _
  rw [h1, show okLen (a.length + 2) = true from decide_eq_true (by omega)]
  rfl
theorem asL_ap {m : M (List D)} : asL m ρ S = bindO (m ρ S) fun l => mret (.lst l) := rfl
theorem allBl_true : ∀ {l : List D}, (∀ x ∈ l, x = .bl true) → allBl l = some (l.map fun _ => true)
  | [], _ => rfl
  | x :: l, h => by
    rw [h x List.mem_cons_self]
    show (allBl l).map (true :: ·) = _
    rw [allBl_true fun y hy => h y (List.mem_cons_of_mem _ hy)]
    rfl
theorem all_true {l : List D} (h : ∀ x ∈ l, x = .bl true) : opBl .all [.lst l] = some (.bl true) := by
  show (allBl l).map (fun bs => D.bl (bs.all id)) = _
  rw [allBl_true h]
  simp
theorem all_mapT {l : List D} : opBl .all [.lst (l.map fun _ => .bl true)] = some (.bl true) := all_true fun x hx => by
  obtain ⟨_, _, e⟩ := List.mem_map.mp hx
  exact e.symm
theorem ln_tup {l : List D} : opBl .len [.tup l] = some (.int l.length) := rfl
theorem ln_lst {l : List D} : opBl .len [.lst l] = some (.int l.length) := rfl
theorem ln_fz {l : List D} : opBl .len [.fz l] = some (.int l.length) := rfl
theorem tu_lst {l : List D} : opBl .tuple [.lst l] = some (.tup l) := rfl
theorem tu_tup {l : List D} : opBl .tuple [.tup l] = some (.tup l) := rfl
theorem it_tup {l : List D} : iterD (.tup l) = some l := rfl
theorem it_lst {l : List D} : iterD (.lst l) = some l := rfl
theorem it_fz {l : List D} : iterD (.fz l) = some l := rfl
theorem sq_tup {l : List D} : seqD (.tup l) = some l := rfl
theorem sq_lst {l : List D} : seqD (.lst l) = some l := rfl
/-! values -/
theorem cLt {a b : Int} : opCmp .Lt (.int a) (.int b) = some (decide (a < b)) := rfl
theorem cLe {a b : Int} : opCmp .LtE (.int a) (.int b) = some (decide (a ≤ b)) := rfl
theorem cGt {a b : Int} : opCmp .Gt (.int a) (.int b) = some (decide (b < a)) := rfl
theorem cGe {a b : Int} : opCmp .GtE (.int a) (.int b) = some (decide (b ≤ a)) := rfl
theorem cEqI {a b : Int} : opCmp .Eq (.int a) (.int b) = some (a == b) := rfl
theorem cNeI {a b : Int} : opCmp .NotEq (.int a) (.int b) = some (!(a == b)) := rfl
theorem cEqB {a b : Bool} : opCmp .Eq (.bl a) (.bl b) = some (a == b) := rfl
theorem cIs {d : D} : opCmp .Is d .non = some (isNon d) := by cases d <;> rfl
theorem cIsNot {d : D} : opCmp .IsNot d .non = some (!isNon d) := by cases d <;> rfl
theorem cEqD {a b : D} (h : b ≠ .tup []) (h2 : ∀ x, b ≠ .str x) : opCmp .Eq a b = if shp a && shp b then some (deq a b) else none := by
  cases a <;> cases b <;> first
    | rfl
    | exact absurd rfl (h2 _)
    | (rename_i l; cases l <;> first | rfl | exact absurd rfl h)
theorem cNeD {a b : D} (h : b ≠ .tup []) (h2 : ∀ x, b ≠ .str x) : opCmp .NotEq a b = if shp a && shp b then some (!deq a b) else none := by
  cases a <;> cases b <;> first
    | rfl
    | exact absurd rfl (h2 _)
    | (rename_i l; cases l <;> first | rfl | exact absurd rfl h)
theorem cEqT0 {l : List D} : opCmp .Eq (.tup l) (.tup []) = some l.isEmpty := rfl
theorem cNeT0 {l : List D} : opCmp .NotEq (.tup l) (.tup []) = some (!l.isEmpty) := rfl
theorem bAdd {a b : Int} : opBin .Add (.int a) (.int b) = some (.int (a + b)) := rfl
theorem bSub {a b : Int} : opBin .Sub (.int a) (.int b) = some (.int (a - b)) := rfl
theorem bMod {a b : Int} (h : 0 < b) : opBin .Mod (.int a) (.int b) = some (.int (a % b)) := by
  show (if decide (0 < b) then some (D.int (a % b)) else none) = _
  rw [decide_eq_true h]
  rfl
theorem bDiv {a b : Int} (h : 0 < b) (h2 : b.natAbs.log2 < 9000) : opBin .FloorDiv (.int a) (.int b) = some (.int (a / b)) := by
  show (if decide (0 < b ∧ b.natAbs.log2 < 9000) then some (D.int (a / b)) else none) = _
  rw [decide_eq_true ⟨h, h2⟩]
  rfl
theorem bMul {a b : Int} (h : a.natAbs.log2 + b.natAbs.log2 < 1000000) : opBin .Mult (.int a) (.int b) = some (.int (a * b)) := by
  show (if decide (a.natAbs.log2 + b.natAbs.log2 < 1000000) then some (D.int (a * b)) else none) = _
  rw [decide_eq_true h]
  rfl
theorem bPow {a b : Int} (h : 0 ≤ b) (h2 : (Builtin.Int.intBits a : Int) * b ≤ 134217728) : opBin .Pow (.int a) (.int b) = some (.int (a ^ b.toNat)) := by
  show (if decide (0 ≤ b ∧ (Builtin.Int.intBits a : Int) * b ≤ 134217728) then some (D.int (a ^ b.toNat)) else none) = _
  rw [decide_eq_true ⟨h, h2⟩]
  rfl
theorem bAddS {a b : Str} (h : a.length + b.length ≤ 16777216) : opBin .Add (.str a) (.str b) = some (.str (a ++ b)) := by
  show (if okLen (a.length + b.length) then some (D.str (a ++ b)) else none) = _
  rw [show okLen (a.length + b.length) = true from decide_eq_true h]
  rfl
theorem isI_int {i : Int} : isiAny (.int i) [.int] = some true := rfl
theorem isI_intb {i : Int} : isiAny (.int i) [.bool] = some false := rfl
theorem xT {l : List D} {i : Int} : opIdx (.tup l) (.int i) = atD l i := rfl
theorem xL {l : List D} {i : Int} : opIdx (.lst l) (.int i) = atD l i := rfl
theorem xF {l : List D} {i : Int} : opIdx (.fz l) (.int i) = atD l i := rfl
theorem tBo {b : Bool} : tru (.bl b) = some b := rfl
theorem tIn {i : Int} : tru (.int i) = some (i != 0) := rfl
theorem tNo : tru .non = some false := rfl
theorem tTu {l : List D} : tru (.tup l) = some (!l.isEmpty) := rfl
theorem tLi {l : List D} : tru (.lst l) = some (!l.isEmpty) := rfl
theorem omap_some {α β : Type} {f : α → β} {a : α} : Option.map f (some a) = some (f a) := rfl
end
end MP

namespace MP
open PySem
variable {cl : Calls} {sub : Str → Str → Option Bool} {ρ : Fr} {S : Store}
theorem flat_inv {f : D → M (List D)} : ∀ {l : List D} {S : Store} (P : Nat → Store → Prop) (Q : Nat → D → Prop), P 0 S →
    (∀ i d S, l[i]? = some d → P i S → ∃ r S', f d ρ S = .ok [r] ρ S' ∧ Q i r ∧ P (i + 1) S') →
    ∃ rs S', flatM f l ρ S = .ok rs ρ S' ∧ rs.length = l.length ∧ (∀ i r, rs[i]? = some r → Q i r) ∧ P l.length S'
  | [], S, P, Q, h0, _ => ⟨[], S, rfl, rfl, fun i r h => by simp at h, h0⟩
  | d :: l, S, P, Q, h0, h => by
    obtain ⟨r, S1, e1, q1, p1⟩ := h 0 d S rfl h0
    obtain ⟨rs, S2, e2, l2, q2, p2⟩ := flat_inv (l := l) (fun i => P (i + 1)) (fun i => Q (i + 1)) p1 fun i d S hd hp => h (i + 1) d S (by simpa using hd) hp
    refine ⟨r :: rs, S2, ?_, by simp [l2], fun i x hx => ?_, p2⟩
    · show mbind (f d) (fun x => mbind (flatM f l) fun y => mret (x ++ y)) ρ S = _
      rw [mbind_ap, e1, bindO_ok, mbind_ap, e2, bindO_ok]
      rfl
    · cases i with
      | zero =>
        rw [List.getElem?_cons_zero] at hx
        cases hx
        exact q1
      | succ i => exact q2 i x (by simpa using hx)
theorem lc_inv {t : Tg} {own : List Nat} {it : It} {e : E} {l : List D} (P : Nat → Store → Prop) (Q : Nat → D → Prop) (hi : evI cl sub false it (lockF ρ) S = .ok l (lockF ρ) S) (h0 : P 0 S)
    (hd : ∀ i d S, l[i]? = some d → P i S → ∃ r ρ2 S', bindO (bindT t d (wipeF (lockF ρ) own) S) (fun _ => evE cl sub e) = .ok r ρ2 S' ∧ Q i r ∧ P (i + 1) S') (hl : l.length ≤ 16777216) :
    ∃ rs S', fLc (evCl cl sub (.gen t own it .nil (.fin e))) ρ S = .ok rs ρ S' ∧ rs.length = l.length ∧ (∀ i r, rs[i]? = some r → Q i r) ∧ P l.length S' := by
  obtain ⟨rs, S', ef, ln, q, p⟩ := flat_inv (ρ := lockF ρ) (f := fun d => fun ρ S => shut (mbind (bindT t d) fun _ => mbind (evTs cl sub .And .nil) fun k => if k then evCl cl sub (.fin e) else mret []) (wipeF ρ own) ρ S) (l := l) P Q h0 fun i d S hdm hp => by
    obtain ⟨r, ρ2, S', h, q, p⟩ := hd i d S hdm hp
    refine ⟨r, S', ?_, q, p⟩
    show shut (mbind (bindT t d) fun _ => mbind (evTs cl sub .And .nil) fun k => if k then evCl cl sub (.fin e) else mret []) (wipeF (lockF ρ) own) (lockF ρ) S = _
    unfold shut
    rw [mbind_ap]
    cases h1 : bindT t d (wipeF (lockF ρ) own) S with
    | ok u ρ' S2 =>
      rw [h1, bindO_ok] at h
      rw [bindO_ok]
      have e3 : (mbind (evTs cl sub .And .nil) fun k => if k then evCl cl sub (.fin e) else mret []) ρ' S2 = bindO (evE cl sub e ρ' S2) fun d => mret [d] := rfl
      rw [e3, h]
      rfl
    | exc c ρ' S' => rw [h1] at h; cases h
    | stk => rw [h1] at h; cases h
  refine ⟨rs, S', ?_, ln, q, p⟩
  have e2 : evCl cl sub (.gen t own it .nil (.fin e)) (lockF ρ) S = .ok rs (lockF ρ) S' := by
    show mbind (evI cl sub false it) (fun l => fun ρ S => if noOwn ρ then flatM (fun d => fun ρ S => shut (mbind (bindT t d) fun _ => mbind (evTs cl sub .And .nil) fun k => if k then evCl cl sub (.fin e) else mret []) (wipeF ρ own) ρ S) l ρ S else .stk) (lockF ρ) S = _
    rw [mbind_ap, hi, bindO_ok, noOwn_lock, if_pos rfl]
    exact ef
  unfold fLc
  rw [mbind_ap]
  show bindO (shut (evCl cl sub (.gen t own it .nil (.fin e))) (lockF ρ) ρ S) okItems = _
  unfold shut
  rw [e2]
  show okItems rs ρ S' = _
  unfold okItems
  rw [show okLen rs.length = true from decide_eq_true (by omega)]
  rfl
end MP

namespace SH
open PySem MP
def b_is_whole : C := (.seq (.ret (.bop .And (.cons (.isi (.var 0) [.int]) (.cons (.not_ (.isi (.var 0) [.bool])) .nil)))) .skip)
def f_is_whole : Fn := ⟨"is_whole", ["thing"], 1, [], ["thing"], b_is_whole⟩
def b_is_below : C := (.seq (.ret (.bop .And (.cons (.call "is_whole" (.cons (.var 0) .nil) [] .nil) (.cons (.cmp2 .LtE .Lt (.cst (.int 0)) (.var 0) (.var 1)) .nil)))) .skip)
def f_is_below : Fn := ⟨"is_below", ["thing", "most"], 2, [], ["thing", "most"], b_is_below⟩
def b_is_count : C := (.seq (.ret (.bop .And (.cons (.call "is_whole" (.cons (.var 0) .nil) [] .nil) (.cons (.cmp2 .LtE .LtE (.cst (.int 1)) (.var 0) (.gc "WIDE" (.int 9))) .nil)))) .skip)
def f_is_count : Fn := ⟨"is_count", ["thing"], 1, [], ["thing"], b_is_count⟩
def b_is_row : C := (.seq (.ret (.bop .And (.cons (.isi (.var 0) [.tuple]) (.cons (.cmp .Eq (.bl .len (.cons (.var 0) .nil)) (.var 1)) .nil)))) .skip)
def f_is_row : Fn := ⟨"is_row", ["thing", "many"], 2, [], ["thing", "many"], b_is_row⟩
def b_is_room_0 : C := (.seq (.ite (.bop .And (.cons (.cmp .IsNot (.var 5) (.cst .non)) (.cons (.not_ (.v (.call "is_below" (.cons (.var 5) (.cons (.var 3) .nil)) [] .nil))) .nil))) (.seq (.ret (.cst (.bl false))) .skip) .skip) .skip)
def b_is_room_1 : C := (.seq (.ite (.not_ (.v (.call "is_row" (.cons (.var 4) (.cons (.var 2) .nil)) [] .nil))) (.seq (.ret (.cst (.bl false))) .skip) .skip) (.seq (.for_ (.v 5) (.val (.var 4)) b_is_room_0) .skip))
def b_is_room : C := (.seq (.ite (.not_ (.v (.call "is_row" (.cons (.var 0) (.cons (.var 1) .nil)) [] .nil))) (.seq (.ret (.cst (.bl false))) .skip) .skip) (.seq (.for_ (.v 4) (.val (.var 0)) b_is_room_1) (.seq (.ret (.cst (.bl true))) .skip)))
def f_is_room : Fn := ⟨"is_room", ["thing", "signs", "deeds", "many"], 4, [], ["thing", "signs", "deeds", "many", "row", "behind"], b_is_room⟩
def c_is_saying_0 : Cl := (.gen (.v 4) [4] (.val (.var 3)) .nil (.fin (.call "is_room" (.cons (.var 4) (.cons (.var 1) (.cons (.var 2) (.cons (.bl .len (.cons (.var 3) .nil)) .nil)))) [] .nil)))
def b_is_saying : C := (.seq (.ite (.not_ (.v (.call "is_row" (.cons (.var 0) (.cons (.cst (.int 3)) .nil)) [] .nil))) (.seq (.ret (.cst (.bl false))) .skip) .skip) (.seq (.set (.tup (.cons (.v 1) (.cons (.v 2) (.cons (.v 3) .nil)))) (.var 0)) (.seq (.ite (.bop .Or (.cons (.not_ (.v (.call "is_count" (.cons (.var 1) .nil) [] .nil))) (.cons (.not_ (.v (.call "is_count" (.cons (.var 2) .nil) [] .nil))) (.cons (.not_ (.v (.isi (.var 3) [.tuple]))) .nil)))) (.seq (.ret (.cst (.bl false))) .skip) .skip) (.seq (.ret (.bop .And (.cons (.cmp2 .LtE .LtE (.cst (.int 1)) (.bl .len (.cons (.var 3) .nil)) (.gc "MOST" (.int 100))) (.cons (.bl .all (.cons (.lc c_is_saying_0) .nil)) .nil)))) .skip))))
def f_is_saying : Fn := ⟨"is_saying", ["thing"], 1, [], ["thing", "signs", "deeds", "rooms", "room"], b_is_saying⟩
def b_need_saying : C := (.seq (.ite (.not_ (.v (.call "is_saying" (.cons (.var 0) .nil) [] .nil))) (.seq (.raise "NoSaying") .skip) .skip) .skip)
def f_need_saying : Fn := ⟨"need_saying", ["thing"], 1, [], ["thing"], b_need_saying⟩
def c_first_come_0 : Cl := (.gen (.v 11) [11] (.val (.var 9)) .nil (.fin (.ite (.cmp .Is (.var 11) (.cst .non)) (.cst .non) (.idx (.var 5) (.var 11)))))
def b_first_come_1 : C := (.seq (.ite (.bop .And (.cons (.cmp .IsNot (.var 11) (.cst .non)) (.cons (.cmp .NotIn (.var 11) (.var 5)) .nil))) (.seq (.seti (.var 5) (.var 11) (.bl .len (.cons (.var 4) .nil))) (.seq (.app (.var 4) (.var 11)) .skip)) .skip) .skip)
def c_first_come_2 : Cl := (.gen (.v 10) [10] (.rng1 (.var 1)) .nil (.fin (.callv 3 (.cons (.idx (.var 4) (.bl .len (.cons (.var 6) .nil))) (.cons (.var 8) (.cons (.var 10) .nil))))))
def b_first_come_3 : C := (.seq (.setO 9 (.lc c_first_come_2)) (.seq (.for_ (.v 11) (.val (.var 9)) b_first_come_1) (.seq (.ite (.cmp .Gt (.bl .len (.cons (.var 4) .nil)) (.gc "MOST" (.int 100))) (.seq (.raise "TooWide") .skip) .skip) (.seq (.app (.var 7) (.bl .tuple (.cons (.lc c_first_come_0) .nil))) .skip))))
def b_first_come_4 : C := (.seq (.setO 7 (.lst .nil)) (.seq (.for_ (.v 8) (.rng1 (.var 0)) b_first_come_3) (.seq (.app (.var 6) (.bl .tuple (.cons (.var 7) .nil))) .skip)))
def b_first_come : C := (.seq (.setO 4 (.lst (.cons (.var 2) .nil))) (.seq (.setD 5 (.dlit true (.cons (.var 2) (.cons (.cst (.int 0)) .nil)))) (.seq (.setO 6 (.lst .nil)) (.seq (.whl 400 (.cmp .Lt (.bl .len (.cons (.var 6) .nil)) (.bl .len (.cons (.var 4) .nil))) b_first_come_4) (.seq (.ret (.tup (.cons (.bl .tuple (.cons (.var 4) .nil)) (.cons (.bl .tuple (.cons (.var 6) .nil)) .nil)))) .skip)))))
def f_first_come : Fn := ⟨"first_come", ["signs", "deeds", "begin", "follow"], 4, [], ["signs", "deeds", "begin", "follow", "things", "numbers", "table", "rows", "sign", "row", "deed", "thing"], b_first_come⟩
def b_come_to : C := (.seq (.ite (.cmp .Eq (.var 1) (.tup .nil)) (.seq (.ret (.cst (.int 0))) .skip) .skip) (.seq (.set (.tup (.cons (.v 3) (.cons (.v 4) .nil))) (.var 1)) (.seq (.ret (.idx (.idx (.idx (.idx (.var 0) (.cst (.int 2))) (.var 3)) (.var 2)) (.var 4))) .skip)))
def f_come_to : Fn := ⟨"come_to", ["saying", "room", "told"], 3, [], ["saying", "room", "told", "at", "deed"], b_come_to⟩
def c_breaks_by_some_0 : Cl := (.gen (.v 3) [3] (.val (.idx (.idx (.var 0) (.cst (.int 2))) (.var 1))) .nil (.fin (.cmp .Is (.idx (.var 3) (.var 2)) (.cst .non))))
def b_breaks_by_some : C := (.seq (.ret (.bl .any (.cons (.lc c_breaks_by_some_0) .nil))) .skip)
def f_breaks_by_some : Fn := ⟨"breaks_by_some", ["saying", "at", "deed"], 3, [], ["saying", "at", "deed", "row"], b_breaks_by_some⟩
def b__law_pot : C := (.seq (.set (.v 2) (.cst (.int 0))) (.seq (.ite (.cmp .Lt (.var 1) (.bl .len (.cons (.var 0) .nil))) (.seq (.set (.v 2) (.bin .Mod (.bl .abs (.cons (.idx (.var 0) (.var 1)) .nil)) (.bin .Pow (.bin .Pow (.cst (.int 10)) (.cst (.int 60))) (.cst (.int 10))))) .skip) .skip) (.seq (.ret (.new (.cons (.bin .Mult (.var 2) (.bl .int (.cons (.cmp .GtE (.var 2) (.bin .Pow (.cst (.int 10)) (.cst (.int 18)))) .nil))) (.cons (.bin .Mod (.bin .Pow (.bin .Add (.bin .Add (.bin .Mod (.var 2) (.cst (.int 2147483629))) (.bin .Mult (.cst (.int 7919)) (.var 1))) (.cst (.int 1))) (.cst (.int 5))) (.cst (.int 2305843009213693951))) (.cons (.cst (.int 0)) .nil))))) .skip)))
def f__law_pot : Fn := ⟨"_law_pot", ["script", "k"], 2, [], ["script", "k", "cell"], b__law_pot⟩
def b__law_take : C := (.seq (.ite (.cmp .Gt (.idx (.var 0) (.cst (.int 0))) (.cst (.int 0))) (.seq (.set (.v 2) (.bin .Mod (.idx (.var 0) (.cst (.int 0))) (.var 1))) (.seq (.seti (.var 0) (.cst (.int 0)) (.bin .FloorDiv (.idx (.var 0) (.cst (.int 0))) (.var 1))) (.seq (.ret (.var 2)) .skip))) .skip) (.seq (.seti (.var 0) (.cst (.int 2)) (.bin .Add (.idx (.var 0) (.cst (.int 2))) (.cst (.int 1)))) (.seq (.set (.v 3) (.bin .Mod (.bin .Pow (.bin .Add (.idx (.var 0) (.cst (.int 1))) (.bin .Mult (.cst (.int 104729)) (.idx (.var 0) (.cst (.int 2))))) (.cst (.int 3))) (.cst (.int 2305843009213693921)))) (.seq (.set (.v 4) (.bin .Mod (.bin .Pow (.bin .Add (.bin .Add (.var 3) (.bin .Mod (.idx (.var 0) (.cst (.int 1))) (.cst (.int 65537)))) (.bin .Mult (.cst (.int 31)) (.idx (.var 0) (.cst (.int 2))))) (.cst (.int 5))) (.cst (.int 2305843009213693907)))) (.seq (.ret (.bin .Mod (.bin .FloorDiv (.var 4) (.cst (.int 1024))) (.var 1))) .skip)))))
def f__law_take : Fn := ⟨"_law_take", ["pot", "many"], 2, [], ["pot", "many", "found", "one", "other"], b__law_take⟩
def c__law_same_0 : Cl := (.gen (.tup (.cons (.v 2) (.cons (.v 3) .nil))) [2, 3] (.zip (.var 0) (.var 1)) .nil (.fin (.call "_law_same" (.cons (.var 2) (.cons (.var 3) .nil)) [] .nil)))
def b__law_same : C := (.seq (.ite (.v (.isi (.var 1) [.tuple])) (.seq (.ite (.bop .Or (.cons (.not_ (.v (.isi (.var 0) [.tuple]))) (.cons (.cmp .NotEq (.bl .len (.cons (.var 0) .nil)) (.bl .len (.cons (.var 1) .nil))) .nil))) (.seq (.ret (.cst (.bl false))) .skip) .skip) (.seq (.ret (.bl .all (.cons (.lc c__law_same_0) .nil))) .skip)) .skip) (.seq (.ite (.cmp .Is (.var 1) (.cst .non)) (.seq (.ret (.cmp .Is (.var 0) (.cst .non))) .skip) .skip) (.seq (.ite (.v (.isi (.var 1) [.str, .bool])) (.seq (.ret (.bop .And (.cons (.isi (.var 0) [.str, .bool]) (.cons (.cmp .Eq (.isi (.var 0) [.bool]) (.isi (.var 1) [.bool])) (.cons (.cmp .Eq (.var 0) (.var 1)) .nil))))) .skip) .skip) (.seq (.ret (.bop .And (.cons (.isi (.var 0) [.int]) (.cons (.not_ (.isi (.var 0) [.bool])) (.cons (.cmp .Eq (.var 0) (.var 1)) .nil))))) .skip))))
def f__law_same : Fn := ⟨"_law_same", ["found", "due"], 2, [], ["found", "due", "one", "other"], b__law_same⟩
def b__law_whole : C := (.seq (.ret (.bop .And (.cons (.isi (.var 0) [.int]) (.cons (.not_ (.isi (.var 0) [.bool])) .nil)))) .skip)
def f__law_whole : Fn := ⟨"_law_whole", ["found"], 1, [], ["found"], b__law_whole⟩
def b__law_room : C := (.seq (.ite (.cmp .Eq (.call "_law_take" (.cons (.var 0) (.cons (.var 2) .nil)) [] .nil) (.cst (.int 0))) (.seq (.ret (.cst .non)) .skip) .skip) (.seq (.ret (.call "_law_take" (.cons (.var 0) (.cons (.var 1) .nil)) [] .nil)) .skip))
def f__law_room : Fn := ⟨"_law_room", ["pot", "rooms", "rate"], 3, [], ["pot", "rooms", "rate"], b__law_room⟩
def c__law_saying_0 : Cl := (.gen (.v 7) [7] (.rng1 (.var 2)) .nil (.fin (.call "_law_room" (.cons (.var 0) (.cons (.var 3) (.cons (.var 4) .nil))) [] .nil)))
def c__law_saying_1 : Cl := (.gen (.v 8) [8] (.rng1 (.var 1)) .nil (.fin (.bl .tuple (.cons (.lc c__law_saying_0) .nil))))
def b__law_saying_2 : C := (.seq (.app (.var 5) (.bl .tuple (.cons (.lc c__law_saying_1) .nil))) .skip)
def b__law_saying : C := (.seq (.setO 5 (.lst .nil)) (.seq (.for_ (.v 6) (.rng1 (.var 3)) b__law_saying_2) (.seq (.ret (.tup (.cons (.var 1) (.cons (.var 2) (.cons (.bl .tuple (.cons (.var 5) .nil)) .nil))))) .skip)))
def f__law_saying : Fn := ⟨"_law_saying", ["pot", "signs", "deeds", "rooms", "rate"], 5, [], ["pot", "signs", "deeds", "rooms", "rate", "table", "room", "d", "s"], b__law_saying⟩
def b__law_other : C := (.seq (.set (.v 3) (.call "_law_take" (.cons (.var 0) (.cons (.cst (.int 10)) .nil)) [] .nil)) (.seq (.set (.v 4) (.idx (.var 2) (.call "_law_take" (.cons (.var 0) (.cons (.bl .len (.cons (.var 2) .nil)) .nil)) [] .nil))) (.seq (.ite (.bop .And (.cons (.v (.isi (.var 1) [.tuple])) (.cons (.cmp .NotEq (.var 1) (.tup .nil)) .nil))) (.seq (.set (.v 5) (.call "_law_take" (.cons (.var 0) (.cons (.bl .len (.cons (.var 1) .nil)) .nil)) [] .nil)) (.seq (.ite (.cmp .Lt (.var 3) (.cst (.int 6))) (.seq (.ret (.bin .Add (.bin .Add (.sl (.var 1) .nil (.var 5)) (.tup (.cons (.call "_law_other" (.cons (.var 0) (.cons (.idx (.var 1) (.var 5)) (.cons (.var 2) .nil))) [] .nil) .nil))) (.sl (.var 1) (.bin .Add (.var 5) (.cst (.int 1))) .nil))) .skip) .skip) (.seq (.setO 6 (.lst (.cons (.bin .Add (.sl (.var 1) .nil (.var 5)) (.sl (.var 1) (.bin .Add (.var 5) (.cst (.int 1))) .nil)) (.cons (.bin .Add (.sl (.var 1) .nil (.bin .Add (.var 5) (.cst (.int 1)))) (.sl (.var 1) (.var 5) .nil)) (.cons (.fl .list (.cons (.var 1) .nil)) (.cons (.bin .Add (.var 1) (.tup (.cons (.var 4) .nil))) .nil)))))) (.seq (.ret (.idx (.var 6) (.bin .Sub (.var 3) (.cst (.int 6))))) .skip)))) .skip) (.seq (.ite (.bop .And (.cons (.v (.call "_law_whole" (.cons (.var 1) .nil) [] .nil)) (.cons (.cmp .Lt (.var 3) (.cst (.int 7))) .nil))) (.seq (.ret (.bin .Add (.var 1) (.idx (.lst (.cons (.cst (.int 1)) (.cons (.neg (.cst (.int 1))) (.cons (.cst (.int 2)) .nil)))) (.bin .Mod (.var 3) (.cst (.int 3)))))) .skip) .skip) (.seq (.ret (.var 4)) .skip)))))
def f__law_other : Fn := ⟨"_law_other", ["pot", "thing", "odds"], 3, [], ["pot", "thing", "odds", "way", "odd", "at", "some"], b__law_other⟩
def b__law_is_saying_0 : C := (.seq (.ite (.bop .And (.cons (.cmp .IsNot (.var 6) (.cst .non)) (.cons (.not_ (.bop .And (.cons (.v (.call "_law_whole" (.cons (.var 6) .nil) [] .nil)) (.cons (.cmp2 .LtE .Lt (.cst (.int 0)) (.var 6) (.bl .len (.cons (.var 3) .nil))) .nil)))) .nil))) (.seq (.ret (.cst (.bl false))) .skip) .skip) .skip)
def b__law_is_saying_1 : C := (.seq (.ite (.bop .Or (.cons (.not_ (.v (.isi (.var 5) [.tuple]))) (.cons (.cmp .NotEq (.bl .len (.cons (.var 5) .nil)) (.var 2)) .nil))) (.seq (.ret (.cst (.bl false))) .skip) .skip) (.seq (.for_ (.v 6) (.val (.var 5)) b__law_is_saying_0) .skip))
def b__law_is_saying_2 : C := (.seq (.ite (.bop .Or (.cons (.not_ (.v (.isi (.var 4) [.tuple]))) (.cons (.cmp .NotEq (.bl .len (.cons (.var 4) .nil)) (.var 1)) .nil))) (.seq (.ret (.cst (.bl false))) .skip) .skip) (.seq (.for_ (.v 5) (.val (.var 4)) b__law_is_saying_1) .skip))
def b__law_is_saying : C := (.seq (.ite (.bop .Or (.cons (.not_ (.v (.isi (.var 0) [.tuple]))) (.cons (.cmp .NotEq (.bl .len (.cons (.var 0) .nil)) (.cst (.int 3))) (.cons (.not_ (.v (.isi (.idx (.var 0) (.cst (.int 2))) [.tuple]))) .nil)))) (.seq (.ret (.cst (.bl false))) .skip) .skip) (.seq (.set (.tup (.cons (.v 1) (.cons (.v 2) (.cons (.v 3) .nil)))) (.var 0)) (.seq (.ite (.bop .Or (.cons (.not_ (.v (.call "_law_whole" (.cons (.var 1) .nil) [] .nil))) (.cons (.not_ (.v (.call "_law_whole" (.cons (.var 2) .nil) [] .nil))) .nil))) (.seq (.ret (.cst (.bl false))) .skip) .skip) (.seq (.ite (.bop .Or (.cons (.not_ (.cmp2 .LtE .LtE (.cst (.int 1)) (.var 1) (.cst (.int 9)))) (.cons (.not_ (.cmp2 .LtE .LtE (.cst (.int 1)) (.var 2) (.cst (.int 9)))) .nil))) (.seq (.ret (.cst (.bl false))) .skip) .skip) (.seq (.ite (.not_ (.cmp2 .LtE .LtE (.cst (.int 1)) (.bl .len (.cons (.var 3) .nil)) (.cst (.int 100)))) (.seq (.ret (.cst (.bl false))) .skip) .skip) (.seq (.for_ (.v 4) (.val (.var 3)) b__law_is_saying_2) (.seq (.ret (.cst (.bl true))) .skip)))))))
def f__law_is_saying : Fn := ⟨"_law_is_saying", ["thing"], 1, [], ["thing", "signs", "deeds", "table", "room", "row", "come"], b__law_is_saying⟩
abbrev Find (Pg : Pgm) (f : Fn) : Prop := Pg.fns.find? (fun g => g.name == f.name) = some f
end SH

namespace SH
open PySem MP
theorem F_eq {Pg : Pgm} {n : Nat} {ds : List D} {S : Store} {fn : Fn} (h : Find Pg fn) (hk : fn.kwd = []) (hn : ds.length = fn.npos) : (callF Pg (n + 1)).f fn.name ds [] [] S = runFn (callF Pg n) Pg.sub fn ds S := by
  have e : arrange fn ds [] [] = some ds := by
    unfold arrange
    rw [hk, hn]
    simp
  show (match Pg.fns.find? (fun f => f.name == fn.name) with
    | some fn => (match arrange fn ds [] [] with
      | some args => runFn (callF Pg n) Pg.sub fn args S
      | none => .stk)
    | none => .stk) = _
  rw [h]
  show (match arrange fn ds [] [] with
      | some args => runFn (callF Pg n) Pg.sub fn args S
      | none => .stk) = _
  rw [e]
/-- the checks of sayings -/
structure HS (Pg : Pgm) : Prop where
  is_whole : Find Pg f_is_whole
  is_below : Find Pg f_is_below
  is_count : Find Pg f_is_count
  is_row : Find Pg f_is_row
  is_room : Find Pg f_is_room
  is_saying : Find Pg f_is_saying
  need_saying : Find Pg f_need_saying
/-- things of the kinds that a law hands in -/
def kind : D → Bool
  | .non | .bl _ | .int _ | .str _ | .tup _ | .lst _ => true
  | .dct t _ _ => !t
  | _ => false
mutual
def pl : D → Bool
  | .non | .bl _ | .int _ | .str _ => true
  | .tup l => pls l
  | .lst l => pls l
  | .dct false [] [] => true
  | _ => false
def pls : List D → Bool
  | [] => true
  | d :: r => pl d && pls r
end
theorem pls_mem : ∀ {l : List D}, pls l = true → ∀ x ∈ l, pl x = true
  | [], _, x, h => by cases h
  | d :: r, hp, x, h => by
    obtain ⟨h1, h2⟩ := Bool.and_eq_true_iff.mp (show (pl d && pls r) = true from hp)
    rcases List.mem_cons.mp h with h | h
    · rw [h]; exact h1
    · exact pls_mem h2 x h
theorem pls_of : ∀ {l : List D}, (∀ x ∈ l, pl x = true) → pls l = true
  | [], _ => rfl
  | d :: r, h => Bool.and_eq_true_iff.mpr ⟨h d List.mem_cons_self, pls_of fun x hx => h x (List.mem_cons_of_mem _ hx)⟩
def isI : D → Bool
  | .int _ => true
  | _ => false
def isT : D → Bool
  | .tup _ => true
  | _ => false
def itT : D → List D
  | .tup l => l
  | _ => []
def inI : D → Int
  | .int i => i
  | _ => 0
def belB (m : Int) (d : D) : Bool := isI d && decide (0 ≤ inI d) && decide (inI d < m)
def cntB (d : D) : Bool := isI d && decide (1 ≤ inI d) && decide (inI d ≤ 9)
def rowB (m : Int) (d : D) : Bool := isT d && ((itT d).length : Int) == m
def behB (m : Int) (d : D) : Bool := isNon d || belB m d
def rowsB (k m : Int) (d : D) : Bool := rowB k d && (itT d).all (behB m)
def roomB (s k m : Int) (d : D) : Bool := rowB s d && (itT d).all (rowsB k m)
def ge (l : List D) (i : Nat) : D := l.getD i .non
/-- a saying -/
def sayB (d : D) : Bool := rowB 3 d && cntB (ge (itT d) 0) && cntB (ge (itT d) 1) && isT (ge (itT d) 2) && decide (1 ≤ ((itT (ge (itT d) 2)).length : Int)) && decide (((itT (ge (itT d) 2)).length : Int) ≤ 100) && (itT (ge (itT d) 2)).all fun r => roomB (inI (ge (itT d) 0)) (inI (ge (itT d) 1)) (itT (ge (itT d) 2)).length r
theorem mval_dct {t : Bool} {ks vs : List D} {ρ : Fr} {S : Store} : mval (.v (.dct t ks vs)) ρ S = .ok (.dct t ks vs) ρ S := rfl
section
variable {Pg : Pgm} (H : HS Pg)
include H
theorem mval_pl {d : D} {ρ : Fr} {S : Store} (h : pl d = true) : mval (.v d) ρ S = .ok d ρ S := by
  cases d <;> first | rfl | cases h
theorem e_is_whole (n : Nat) (d : D) (S : Store) (h : pl d = true) : (callF Pg (n + 1)).f "is_whole" [d] [] [] S = .ok (.bl (isI d)) S := by
  rw [show ("is_whole" : Str) = f_is_whole.name from rfl, F_eq H.is_whole rfl rfl]
  cases d with
  | dct t ks vs => cases t <;> first | rfl | cases h
  | _ => first | rfl | cases h
theorem e_is_below (n : Nat) (d : D) (m : Int) (S : Store) (h : pl d = true) : (callF Pg (n + 2)).f "is_below" [d, .int m] [] [] S = .ok (.bl (belB m d)) S := by
  rw [show ("is_below" : Str) = f_is_below.name from rfl, F_eq H.is_below rfl rfl]
  cases d with
  | int i =>
    simp [asL_ap, all_mapT, ln_tup, ln_lst, ln_fz, tu_lst, tu_tup, it_tup, it_lst, it_fz, sq_tup, sq_lst, bindT_v, lockF, lockS, wipeF, run_ap, outO_rt, outO_nx, outO_ite, evC, evE, evB, evEs, evPs, evT, evTs, evI, frame0, asP, asQ, mbind_ap, bindO_ok, bindO_ite, ite_ap, mret_ap, mopt_some, lift0_ap, liftO_ok, take_val, peek_val, peek_own, peek_lck, take_own, mval_int, mval_str, mval_bl, mval_non, mval_tup, mval_lst, mval_fz, mresL_v, mvals, cLt, cLe, cGt, cGe, cEqI, cNeI, cEqB, cIs, cIsNot, isNon, tBo, tIn, tNo, tTu, tLi, xT, xL, xF, omap_some, f_is_below, b_is_below, e_is_whole H, h, belB, isI, inI]
    by_cases h : 0 ≤ i <;> simp [asL_ap, all_mapT, ln_tup, ln_lst, ln_fz, tu_lst, tu_tup, it_tup, it_lst, it_fz, sq_tup, sq_lst, bindT_v, lockF, lockS, wipeF, run_ap, outO_rt, outO_nx, outO_ite, evC, evE, evB, evEs, evPs, evT, evTs, evI, frame0, asP, asQ, mbind_ap, bindO_ok, bindO_ite, ite_ap, mret_ap, mopt_some, lift0_ap, liftO_ok, take_val, peek_val, peek_own, peek_lck, take_own, mval_int, mval_str, mval_bl, mval_non, mval_tup, mval_lst, mval_fz, mresL_v, mvals, cLt, cLe, cGt, cGe, cEqI, cNeI, cEqB, cIs, cIsNot, isNon, tBo, tIn, tNo, tTu, tLi, xT, xL, xF, omap_some, h] <;> rfl
  | _ => simp [asL_ap, all_mapT, ln_tup, ln_lst, ln_fz, tu_lst, tu_tup, it_tup, it_lst, it_fz, sq_tup, sq_lst, bindT_v, lockF, lockS, wipeF, run_ap, outO_rt, outO_nx, outO_ite, evC, evE, evB, evEs, evPs, evT, evTs, evI, frame0, asP, asQ, mbind_ap, bindO_ok, bindO_ite, ite_ap, mret_ap, mopt_some, lift0_ap, liftO_ok, take_val, peek_val, peek_own, peek_lck, take_own, mval_int, mval_str, mval_bl, mval_non, mval_tup, mval_lst, mval_fz, mresL_v, mvals, cLt, cLe, cGt, cGe, cEqI, cNeI, cEqB, cIs, cIsNot, isNon, tBo, tIn, tNo, tTu, tLi, xT, xL, xF, omap_some, f_is_below, b_is_below, e_is_whole H, h, belB, isI]
theorem e_is_count (n : Nat) (d : D) (S : Store) (h : pl d = true) : (callF Pg (n + 2)).f "is_count" [d] [] [] S = .ok (.bl (cntB d)) S := by
  rw [show ("is_count" : Str) = f_is_count.name from rfl, F_eq H.is_count rfl rfl]
  cases d with
  | int i =>
    simp [asL_ap, all_mapT, ln_tup, ln_lst, ln_fz, tu_lst, tu_tup, it_tup, it_lst, it_fz, sq_tup, sq_lst, bindT_v, lockF, lockS, wipeF, run_ap, outO_rt, outO_nx, outO_ite, evC, evE, evB, evEs, evPs, evT, evTs, evI, frame0, asP, asQ, mbind_ap, bindO_ok, bindO_ite, ite_ap, mret_ap, mopt_some, lift0_ap, liftO_ok, take_val, peek_val, peek_own, peek_lck, take_own, mval_int, mval_str, mval_bl, mval_non, mval_tup, mval_lst, mval_fz, mresL_v, mvals, cLt, cLe, cGt, cGe, cEqI, cNeI, cEqB, cIs, cIsNot, isNon, tBo, tIn, tNo, tTu, tLi, xT, xL, xF, omap_some, f_is_count, b_is_count, e_is_whole H, h, cntB, isI, inI]
    by_cases h : 1 ≤ i <;> simp [asL_ap, all_mapT, ln_tup, ln_lst, ln_fz, tu_lst, tu_tup, it_tup, it_lst, it_fz, sq_tup, sq_lst, bindT_v, lockF, lockS, wipeF, run_ap, outO_rt, outO_nx, outO_ite, evC, evE, evB, evEs, evPs, evT, evTs, evI, frame0, asP, asQ, mbind_ap, bindO_ok, bindO_ite, ite_ap, mret_ap, mopt_some, lift0_ap, liftO_ok, take_val, peek_val, peek_own, peek_lck, take_own, mval_int, mval_str, mval_bl, mval_non, mval_tup, mval_lst, mval_fz, mresL_v, mvals, cLt, cLe, cGt, cGe, cEqI, cNeI, cEqB, cIs, cIsNot, isNon, tBo, tIn, tNo, tTu, tLi, xT, xL, xF, omap_some, h] <;> rfl
  | _ => simp [asL_ap, all_mapT, ln_tup, ln_lst, ln_fz, tu_lst, tu_tup, it_tup, it_lst, it_fz, sq_tup, sq_lst, bindT_v, lockF, lockS, wipeF, run_ap, outO_rt, outO_nx, outO_ite, evC, evE, evB, evEs, evPs, evT, evTs, evI, frame0, asP, asQ, mbind_ap, bindO_ok, bindO_ite, ite_ap, mret_ap, mopt_some, lift0_ap, liftO_ok, take_val, peek_val, peek_own, peek_lck, take_own, mval_int, mval_str, mval_bl, mval_non, mval_tup, mval_lst, mval_fz, mresL_v, mvals, cLt, cLe, cGt, cGe, cEqI, cNeI, cEqB, cIs, cIsNot, isNon, tBo, tIn, tNo, tTu, tLi, xT, xL, xF, omap_some, f_is_count, b_is_count, e_is_whole H, h, cntB, isI]
theorem e_is_row (n : Nat) (d : D) (m : Int) (S : Store) (h : pl d = true) : (callF Pg (n + 1)).f "is_row" [d, .int m] [] [] S = .ok (.bl (rowB m d)) S := by
  rw [show ("is_row" : Str) = f_is_row.name from rfl, F_eq H.is_row rfl rfl]
  cases d with
  | tup l => simp [asL_ap, all_mapT, ln_tup, ln_lst, ln_fz, tu_lst, tu_tup, it_tup, it_lst, it_fz, sq_tup, sq_lst, bindT_v, lockF, lockS, wipeF, run_ap, outO_rt, outO_nx, outO_ite, evC, evE, evB, evEs, evPs, evT, evTs, evI, frame0, asP, asQ, mbind_ap, bindO_ok, bindO_ite, ite_ap, mret_ap, mopt_some, lift0_ap, liftO_ok, take_val, peek_val, peek_own, peek_lck, take_own, mval_int, mval_str, mval_bl, mval_non, mval_tup, mval_lst, mval_fz, mresL_v, mvals, cLt, cLe, cGt, cGe, cEqI, cNeI, cEqB, cIs, cIsNot, isNon, tBo, tIn, tNo, tTu, tLi, xT, xL, xF, omap_some, f_is_row, b_is_row, isiAny, isiD, opBl, rowB, isT, itT]
  | dct t ks vs =>
    cases t with
    | false => simp [asL_ap, all_mapT, ln_tup, ln_lst, ln_fz, tu_lst, tu_tup, it_tup, it_lst, it_fz, sq_tup, sq_lst, bindT_v, lockF, lockS, wipeF, run_ap, outO_rt, outO_nx, outO_ite, evC, evE, evB, evEs, evPs, evT, evTs, evI, frame0, asP, asQ, mbind_ap, bindO_ok, bindO_ite, ite_ap, mret_ap, mopt_some, lift0_ap, liftO_ok, take_val, peek_val, peek_own, peek_lck, take_own, mval_int, mval_str, mval_bl, mval_non, mval_tup, mval_lst, mval_fz, mresL_v, mvals, cLt, cLe, cGt, cGe, cEqI, cNeI, cEqB, cIs, cIsNot, isNon, tBo, tIn, tNo, tTu, tLi, xT, xL, xF, omap_some, f_is_row, b_is_row, isiAny, isiD, rowB, isT, mval_dct]
    | true => cases h
  | non => simp [asL_ap, all_mapT, ln_tup, ln_lst, ln_fz, tu_lst, tu_tup, it_tup, it_lst, it_fz, sq_tup, sq_lst, bindT_v, lockF, lockS, wipeF, run_ap, outO_rt, outO_nx, outO_ite, evC, evE, evB, evEs, evPs, evT, evTs, evI, frame0, asP, asQ, mbind_ap, bindO_ok, bindO_ite, ite_ap, mret_ap, mopt_some, lift0_ap, liftO_ok, take_val, peek_val, peek_own, peek_lck, take_own, mval_int, mval_str, mval_bl, mval_non, mval_tup, mval_lst, mval_fz, mresL_v, mvals, cLt, cLe, cGt, cGe, cEqI, cNeI, cEqB, cIs, cIsNot, isNon, tBo, tIn, tNo, tTu, tLi, xT, xL, xF, omap_some, f_is_row, b_is_row, isiAny, isiD, rowB, isT]
  | bl b => simp [asL_ap, all_mapT, ln_tup, ln_lst, ln_fz, tu_lst, tu_tup, it_tup, it_lst, it_fz, sq_tup, sq_lst, bindT_v, lockF, lockS, wipeF, run_ap, outO_rt, outO_nx, outO_ite, evC, evE, evB, evEs, evPs, evT, evTs, evI, frame0, asP, asQ, mbind_ap, bindO_ok, bindO_ite, ite_ap, mret_ap, mopt_some, lift0_ap, liftO_ok, take_val, peek_val, peek_own, peek_lck, take_own, mval_int, mval_str, mval_bl, mval_non, mval_tup, mval_lst, mval_fz, mresL_v, mvals, cLt, cLe, cGt, cGe, cEqI, cNeI, cEqB, cIs, cIsNot, isNon, tBo, tIn, tNo, tTu, tLi, xT, xL, xF, omap_some, f_is_row, b_is_row, isiAny, isiD, rowB, isT]
  | int b => simp [asL_ap, all_mapT, ln_tup, ln_lst, ln_fz, tu_lst, tu_tup, it_tup, it_lst, it_fz, sq_tup, sq_lst, bindT_v, lockF, lockS, wipeF, run_ap, outO_rt, outO_nx, outO_ite, evC, evE, evB, evEs, evPs, evT, evTs, evI, frame0, asP, asQ, mbind_ap, bindO_ok, bindO_ite, ite_ap, mret_ap, mopt_some, lift0_ap, liftO_ok, take_val, peek_val, peek_own, peek_lck, take_own, mval_int, mval_str, mval_bl, mval_non, mval_tup, mval_lst, mval_fz, mresL_v, mvals, cLt, cLe, cGt, cGe, cEqI, cNeI, cEqB, cIs, cIsNot, isNon, tBo, tIn, tNo, tTu, tLi, xT, xL, xF, omap_some, f_is_row, b_is_row, isiAny, isiD, rowB, isT]
  | str b => simp [asL_ap, all_mapT, ln_tup, ln_lst, ln_fz, tu_lst, tu_tup, it_tup, it_lst, it_fz, sq_tup, sq_lst, bindT_v, lockF, lockS, wipeF, run_ap, outO_rt, outO_nx, outO_ite, evC, evE, evB, evEs, evPs, evT, evTs, evI, frame0, asP, asQ, mbind_ap, bindO_ok, bindO_ite, ite_ap, mret_ap, mopt_some, lift0_ap, liftO_ok, take_val, peek_val, peek_own, peek_lck, take_own, mval_int, mval_str, mval_bl, mval_non, mval_tup, mval_lst, mval_fz, mresL_v, mvals, cLt, cLe, cGt, cGe, cEqI, cNeI, cEqB, cIs, cIsNot, isNon, tBo, tIn, tNo, tTu, tLi, xT, xL, xF, omap_some, f_is_row, b_is_row, isiAny, isiD, rowB, isT]
  | lst b => simp [asL_ap, all_mapT, ln_tup, ln_lst, ln_fz, tu_lst, tu_tup, it_tup, it_lst, it_fz, sq_tup, sq_lst, bindT_v, lockF, lockS, wipeF, run_ap, outO_rt, outO_nx, outO_ite, evC, evE, evB, evEs, evPs, evT, evTs, evI, frame0, asP, asQ, mbind_ap, bindO_ok, bindO_ite, ite_ap, mret_ap, mopt_some, lift0_ap, liftO_ok, take_val, peek_val, peek_own, peek_lck, take_own, mval_int, mval_str, mval_bl, mval_non, mval_tup, mval_lst, mval_fz, mresL_v, mvals, cLt, cLe, cGt, cGe, cEqI, cNeI, cEqB, cIs, cIsNot, isNon, tBo, tIn, tNo, tTu, tLi, xT, xL, xF, omap_some, f_is_row, b_is_row, isiAny, isiD, rowB, isT]
  | _ => cases h
end
/-- a loop that ends early where a turn says so -/
theorem for_all {t : Tg} {b : M Fl} {p : D → Bool} {r : D} {S : Store} (P : Nat → Fr → Prop) : ∀ {l : List D} {k : Nat} {ρ : Fr}, P k ρ →
    (∀ (i : Nat) (d : D) (ρ : Fr), l[i]? = some d → P (k + i) ρ → if p d then ∃ ρ', bindO (bindT t d ρ S) (fun _ => b) = .ok .nx ρ' S ∧ P (k + i + 1) ρ' else ∃ ρ', bindO (bindT t d ρ S) (fun _ => b) = .ok (.rt r) ρ' S) →
    if l.all p then ∃ ρ', forM t b l ρ S = .ok .nx ρ' S ∧ P (k + l.length) ρ' else ∃ ρ', forM t b l ρ S = .ok (.rt r) ρ' S
  | [], k, ρ, h0, h => ⟨ρ, rfl, h0⟩
  | d :: l, k, ρ, h0, h => by
    have h1 := h 0 d ρ rfl h0
    have e : ∀ {f ρ1}, bindO (bindT t d ρ S) (fun _ => b) = .ok f ρ1 S → forM t b (d :: l) ρ S = (match f with
      | .nx => forM t b l
      | .ct => forM t b l
      | .bk => mret .nx
      | .rt d => mret (.rt d)) ρ1 S := fun {f ρ1} e => by
      show mbind (bindT t d) (fun _ => mbind b fun f => match f with
        | .nx => forM t b l
        | .ct => forM t b l
        | .bk => mret .nx
        | .rt d => mret (.rt d)) ρ S = _
      rw [mbind_ap]
      cases h : bindT t d ρ S with
      | ok u ρ' S' =>
        rw [h, bindO_ok] at e
        rw [bindO_ok, mbind_ap, e, bindO_ok]
      | exc c ρ' S' => rw [h] at e; cases e
      | stk => rw [h] at e; cases e
    rw [List.all_cons]
    cases hp : p d with
    | false =>
      rw [hp] at h1
      obtain ⟨ρ1, e1⟩ := h1
      simp only [Bool.false_and, Bool.false_eq_true, if_false]
      exact ⟨ρ1, (e e1).trans rfl⟩
    | true =>
      rw [hp, if_pos rfl] at h1
      obtain ⟨ρ1, e1, p1⟩ := h1
      have ih := for_all (l := l) (k := k + 1) P p1 fun i d ρ hd hq => by
        have := h (i + 1) d ρ (by simpa [asL_ap, all_mapT, ln_tup, ln_lst, ln_fz, tu_lst, tu_tup, it_tup, it_lst, it_fz, sq_tup, sq_lst, bindT_v, lockF, lockS, wipeF, run_ap, outO_rt, outO_nx, outO_ite, evC, evE, evB, evEs, evPs, evT, evTs, evI, frame0, asP, asQ, mbind_ap, bindO_ok, bindO_ite, ite_ap, mret_ap, mopt_some, lift0_ap, liftO_ok, take_val, peek_val, peek_own, peek_lck, take_own, mval_int, mval_str, mval_bl, mval_non, mval_tup, mval_lst, mval_fz, mresL_v, mvals, cLt, cLe, cGt, cGe, cEqI, cNeI, cEqB, cIs, cIsNot, isNon, tBo, tIn, tNo, tTu, tLi, xT, xL, xF, omap_some] using hd) (by rw [show k + (i + 1) = k + 1 + i by omega]; exact hq)
        rw [show k + (i + 1) + 1 = k + 1 + i + 1 by omega] at this
        exact this
      rw [Bool.true_and, e e1]
      rw [show k + (d :: l).length = k + 1 + l.length by rw [List.length_cons]; omega]
      exact ih
end SH

namespace SH
open PySem MP
theorem isT_tup {l : List D} : isT (.tup l) = true := rfl
section
variable {Pg : Pgm} (H : HS Pg)
include H
theorem rowB_tup {m : Int} {d : D} (h : rowB m d = true) : ∃ l, d = .tup l ∧ (l.length : Int) = m := by
  cases d with
  | tup l => exact ⟨l, rfl, by simpa [asL_ap, all_mapT, ln_tup, ln_lst, ln_fz, tu_lst, tu_tup, it_tup, it_lst, it_fz, sq_tup, sq_lst, bindT_v, lockF, lockS, wipeF, run_ap, outO_rt, outO_nx, outO_ite, evC, evE, evB, evEs, evPs, evT, evTs, evI, frame0, asP, asQ, mbind_ap, bindO_ok, bindO_ite, ite_ap, mret_ap, mopt_some, lift0_ap, liftO_ok, take_val, peek_val, peek_own, peek_lck, take_own, mval_int, mval_str, mval_bl, mval_non, mval_tup, mval_lst, mval_fz, mval_dct, mresL_v, mvals, cLt, cLe, cGt, cGe, cEqI, cNeI, cEqB, cIs, cIsNot, tBo, tIn, tNo, tTu, tLi, xT, xL, xF, omap_some, rowB, isT, itT] using h⟩
  | _ => simp [asL_ap, all_mapT, ln_tup, ln_lst, ln_fz, tu_lst, tu_tup, it_tup, it_lst, it_fz, sq_tup, sq_lst, bindT_v, lockF, lockS, wipeF, run_ap, outO_rt, outO_nx, outO_ite, evC, evE, evB, evEs, evPs, evT, evTs, evI, frame0, asP, asQ, mbind_ap, bindO_ok, bindO_ite, ite_ap, mret_ap, mopt_some, lift0_ap, liftO_ok, take_val, peek_val, peek_own, peek_lck, take_own, mval_int, mval_str, mval_bl, mval_non, mval_tup, mval_lst, mval_fz, mval_dct, mresL_v, mvals, cLt, cLe, cGt, cGe, cEqI, cNeI, cEqB, cIs, cIsNot, tBo, tIn, tNo, tTu, tLi, xT, xL, xF, omap_some, rowB, isT] at h
theorem e_is_room (n : Nat) (d : D) (s k m : Int) (S : Store) (h : pl d = true) : (callF Pg (n + 3)).f "is_room" [d, .int s, .int k, .int m] [] [] S = .ok (.bl (roomB s k m d)) S := by
  rw [show ("is_room" : Str) = f_is_room.name from rfl, F_eq H.is_room rfl rfl]
  cases hr : rowB s d with
  | false => simp [asL_ap, all_mapT, ln_tup, ln_lst, ln_fz, tu_lst, tu_tup, it_tup, it_lst, it_fz, sq_tup, sq_lst, bindT_v, lockF, lockS, wipeF, run_ap, outO_rt, outO_nx, outO_ite, evC, evE, evB, evEs, evPs, evT, evTs, evI, frame0, asP, asQ, mbind_ap, bindO_ok, bindO_ite, ite_ap, mret_ap, mopt_some, lift0_ap, liftO_ok, take_val, peek_val, peek_own, peek_lck, take_own, mval_int, mval_str, mval_bl, mval_non, mval_tup, mval_lst, mval_fz, mval_dct, mresL_v, mvals, cLt, cLe, cGt, cGe, cEqI, cNeI, cEqB, cIs, cIsNot, tBo, tIn, tNo, tTu, tLi, xT, xL, xF, omap_some, f_is_room, b_is_room, e_is_row H, h, hr, roomB]
  | true =>
    obtain ⟨l, rfl, hl⟩ := rowB_tup H hr
    have hp := pls_mem (show pls l = true from h)
    have key := for_all (t := .v 4) (b := evC (callF Pg (n + 2)) Pg.sub b_is_room_1) (p := rowsB k m) (r := .bl false) (S := S) (l := l) (k := 0) (ρ := [.val (.tup l), .val (.int s), .val (.int k), .val (.int m), .none, .none])
      (fun _ ρ => ∃ a b, ρ = [.val (.tup l), .val (.int s), .val (.int k), .val (.int m), a, b]) ⟨_, _, rfl⟩ ?_
    · cases ha : l.all (rowsB k m) with
      | true =>
        rw [ha, if_pos rfl] at key
        obtain ⟨ρ', e, a, b, rfl⟩ := key
        simp [asL_ap, all_mapT, ln_tup, ln_lst, ln_fz, tu_lst, tu_tup, it_tup, it_lst, it_fz, sq_tup, sq_lst, bindT_v, lockF, lockS, wipeF, run_ap, outO_rt, outO_nx, outO_ite, evC, evE, evB, evEs, evPs, evT, evTs, evI, frame0, asP, asQ, mbind_ap, bindO_ok, bindO_ite, ite_ap, mret_ap, mopt_some, lift0_ap, liftO_ok, take_val, peek_val, peek_own, peek_lck, take_own, mval_int, mval_str, mval_bl, mval_non, mval_tup, mval_lst, mval_fz, mval_dct, mresL_v, mvals, cLt, cLe, cGt, cGe, cEqI, cNeI, cEqB, cIs, cIsNot, tBo, tIn, tNo, tTu, tLi, xT, xL, xF, omap_some, f_is_room, b_is_room, e_is_row H, h, hr, roomB, itT, ha, e]
      | false =>
        rw [ha] at key
        simp only [Bool.false_eq_true, if_false] at key
        obtain ⟨ρ', e⟩ := key
        simp [asL_ap, all_mapT, ln_tup, ln_lst, ln_fz, tu_lst, tu_tup, it_tup, it_lst, it_fz, sq_tup, sq_lst, bindT_v, lockF, lockS, wipeF, run_ap, outO_rt, outO_nx, outO_ite, evC, evE, evB, evEs, evPs, evT, evTs, evI, frame0, asP, asQ, mbind_ap, bindO_ok, bindO_ite, ite_ap, mret_ap, mopt_some, lift0_ap, liftO_ok, take_val, peek_val, peek_own, peek_lck, take_own, mval_int, mval_str, mval_bl, mval_non, mval_tup, mval_lst, mval_fz, mval_dct, mresL_v, mvals, cLt, cLe, cGt, cGe, cEqI, cNeI, cEqB, cIs, cIsNot, tBo, tIn, tNo, tTu, tLi, xT, xL, xF, omap_some, f_is_room, b_is_room, e_is_row H, h, hr, roomB, itT, ha, e]
    · rintro i x ρ hx ⟨a, b, rfl⟩
      have hxp := hp x (List.mem_of_getElem? hx)
      cases hr2 : rowB k x with
      | false =>
        have : rowsB k m x = false := by simp [asL_ap, all_mapT, ln_tup, ln_lst, ln_fz, tu_lst, tu_tup, it_tup, it_lst, it_fz, sq_tup, sq_lst, bindT_v, lockF, lockS, wipeF, run_ap, outO_rt, outO_nx, outO_ite, evC, evE, evB, evEs, evPs, evT, evTs, evI, frame0, asP, asQ, mbind_ap, bindO_ok, bindO_ite, ite_ap, mret_ap, mopt_some, lift0_ap, liftO_ok, take_val, peek_val, peek_own, peek_lck, take_own, mval_int, mval_str, mval_bl, mval_non, mval_tup, mval_lst, mval_fz, mval_dct, mresL_v, mvals, cLt, cLe, cGt, cGe, cEqI, cNeI, cEqB, cIs, cIsNot, tBo, tIn, tNo, tTu, tLi, xT, xL, xF, omap_some, rowsB, hr2]
        rw [this]
        simp only [Bool.false_eq_true, if_false]
        exact ⟨_, by simp [asL_ap, all_mapT, ln_tup, ln_lst, ln_fz, tu_lst, tu_tup, it_tup, it_lst, it_fz, sq_tup, sq_lst, bindT_v, lockF, lockS, wipeF, run_ap, outO_rt, outO_nx, outO_ite, evC, evE, evB, evEs, evPs, evT, evTs, evI, frame0, asP, asQ, mbind_ap, bindO_ok, bindO_ite, ite_ap, mret_ap, mopt_some, lift0_ap, liftO_ok, take_val, peek_val, peek_own, peek_lck, take_own, mval_int, mval_str, mval_bl, mval_non, mval_tup, mval_lst, mval_fz, mval_dct, mresL_v, mvals, cLt, cLe, cGt, cGe, cEqI, cNeI, cEqB, cIs, cIsNot, tBo, tIn, tNo, tTu, tLi, xT, xL, xF, omap_some, b_is_room_1, bindT_v, e_is_row H, hxp, hr2]; rfl⟩
      | true =>
        obtain ⟨r, rfl, hrl⟩ := rowB_tup H hr2
        have hp2 := pls_mem (show pls r = true from hxp)
        have key := for_all (t := .v 5) (b := evC (callF Pg (n + 2)) Pg.sub b_is_room_0) (p := behB m) (r := .bl false) (S := S) (l := r) (k := 0) (ρ := [.val (.tup l), .val (.int s), .val (.int k), .val (.int m), .val (.tup r), b])
          (fun _ ρ => ∃ b, ρ = [.val (.tup l), .val (.int s), .val (.int k), .val (.int m), .val (.tup r), b]) ⟨_, rfl⟩ ?_
        · cases ha : r.all (behB m) with
          | true =>
            rw [ha, if_pos rfl] at key
            obtain ⟨ρ', e, b2, rfl⟩ := key
            have : rowsB k m (.tup r) = true := by simp [asL_ap, all_mapT, ln_tup, ln_lst, ln_fz, tu_lst, tu_tup, it_tup, it_lst, it_fz, sq_tup, sq_lst, bindT_v, lockF, lockS, wipeF, run_ap, outO_rt, outO_nx, outO_ite, evC, evE, evB, evEs, evPs, evT, evTs, evI, frame0, asP, asQ, mbind_ap, bindO_ok, bindO_ite, ite_ap, mret_ap, mopt_some, lift0_ap, liftO_ok, take_val, peek_val, peek_own, peek_lck, take_own, mval_int, mval_str, mval_bl, mval_non, mval_tup, mval_lst, mval_fz, mval_dct, mresL_v, mvals, cLt, cLe, cGt, cGe, cEqI, cNeI, cEqB, cIs, cIsNot, tBo, tIn, tNo, tTu, tLi, xT, xL, xF, omap_some, rowsB, hr2, itT, ha]
            rw [this, if_pos rfl]
            exact ⟨[.val (.tup l), .val (.int s), .val (.int k), .val (.int m), .val (.tup r), b2], by simp [asL_ap, all_mapT, ln_tup, ln_lst, ln_fz, tu_lst, tu_tup, it_tup, it_lst, it_fz, sq_tup, sq_lst, bindT_v, lockF, lockS, wipeF, run_ap, outO_rt, outO_nx, outO_ite, evC, evE, evB, evEs, evPs, evT, evTs, evI, frame0, asP, asQ, mbind_ap, bindO_ok, bindO_ite, ite_ap, mret_ap, mopt_some, lift0_ap, liftO_ok, take_val, peek_val, peek_own, peek_lck, take_own, mval_int, mval_str, mval_bl, mval_non, mval_tup, mval_lst, mval_fz, mval_dct, mresL_v, mvals, cLt, cLe, cGt, cGe, cEqI, cNeI, cEqB, cIs, cIsNot, tBo, tIn, tNo, tTu, tLi, xT, xL, xF, omap_some, b_is_room_1, bindT_v, e_is_row H, hxp, hr2, e], _, _, rfl⟩
          | false =>
            rw [ha] at key
            simp only [Bool.false_eq_true, if_false] at key
            obtain ⟨ρ', e⟩ := key
            have : rowsB k m (.tup r) = false := by simp only [rowsB, hr2, itT, ha, Bool.true_and]
            rw [this]
            simp only [Bool.false_eq_true, if_false]
            exact ⟨_, by simp [asL_ap, all_mapT, ln_tup, ln_lst, ln_fz, tu_lst, tu_tup, it_tup, it_lst, it_fz, sq_tup, sq_lst, bindT_v, lockF, lockS, wipeF, run_ap, outO_rt, outO_nx, outO_ite, evC, evE, evB, evEs, evPs, evT, evTs, evI, frame0, asP, asQ, mbind_ap, bindO_ok, bindO_ite, ite_ap, mret_ap, mopt_some, lift0_ap, liftO_ok, take_val, peek_val, peek_own, peek_lck, take_own, mval_int, mval_str, mval_bl, mval_non, mval_tup, mval_lst, mval_fz, mval_dct, mresL_v, mvals, cLt, cLe, cGt, cGe, cEqI, cNeI, cEqB, cIs, cIsNot, tBo, tIn, tNo, tTu, tLi, xT, xL, xF, omap_some, b_is_room_1, bindT_v, e_is_row H, hxp, hr2, e]; rfl⟩
        · rintro j y ρ hy ⟨b2, rfl⟩
          have hyp := hp2 y (List.mem_of_getElem? hy)
          cases hn : isNon y with
          | true =>
            have : behB m y = true := by simp only [behB, hn, Bool.true_or]
            rw [this, if_pos rfl]
            exact ⟨[.val (.tup l), .val (.int s), .val (.int k), .val (.int m), .val (.tup r), .val y], by simp [asL_ap, all_mapT, ln_tup, ln_lst, ln_fz, tu_lst, tu_tup, it_tup, it_lst, it_fz, sq_tup, sq_lst, bindT_v, lockF, lockS, wipeF, run_ap, outO_rt, outO_nx, outO_ite, evC, evE, evB, evEs, evPs, evT, evTs, evI, frame0, asP, asQ, mbind_ap, bindO_ok, bindO_ite, ite_ap, mret_ap, mopt_some, lift0_ap, liftO_ok, take_val, peek_val, peek_own, peek_lck, take_own, mval_int, mval_str, mval_bl, mval_non, mval_tup, mval_lst, mval_fz, mval_dct, mresL_v, mvals, cLt, cLe, cGt, cGe, cEqI, cNeI, cEqB, cIs, cIsNot, tBo, tIn, tNo, tTu, tLi, xT, xL, xF, omap_some, b_is_room_0, bindT_v, mval_pl H hyp, hn], _, rfl⟩
          | false =>
            have : behB m y = belB m y := by simp only [behB, hn, Bool.false_or]
            rw [this]
            cases hb : belB m y with
            | true =>
              rw [if_pos rfl]
              exact ⟨[.val (.tup l), .val (.int s), .val (.int k), .val (.int m), .val (.tup r), .val y], by simp [asL_ap, all_mapT, ln_tup, ln_lst, ln_fz, tu_lst, tu_tup, it_tup, it_lst, it_fz, sq_tup, sq_lst, bindT_v, lockF, lockS, wipeF, run_ap, outO_rt, outO_nx, outO_ite, evC, evE, evB, evEs, evPs, evT, evTs, evI, frame0, asP, asQ, mbind_ap, bindO_ok, bindO_ite, ite_ap, mret_ap, mopt_some, lift0_ap, liftO_ok, take_val, peek_val, peek_own, peek_lck, take_own, mval_int, mval_str, mval_bl, mval_non, mval_tup, mval_lst, mval_fz, mval_dct, mresL_v, mvals, cLt, cLe, cGt, cGe, cEqI, cNeI, cEqB, cIs, cIsNot, tBo, tIn, tNo, tTu, tLi, xT, xL, xF, omap_some, b_is_room_0, bindT_v, mval_pl H hyp, hn, e_is_below H, hyp, hb], _, rfl⟩
            | false =>
              simp only [Bool.false_eq_true, if_false]
              exact ⟨[.val (.tup l), .val (.int s), .val (.int k), .val (.int m), .val (.tup r), .val y], by simp [asL_ap, all_mapT, ln_tup, ln_lst, ln_fz, tu_lst, tu_tup, it_tup, it_lst, it_fz, sq_tup, sq_lst, bindT_v, lockF, lockS, wipeF, run_ap, outO_rt, outO_nx, outO_ite, evC, evE, evB, evEs, evPs, evT, evTs, evI, frame0, asP, asQ, mbind_ap, bindO_ok, bindO_ite, ite_ap, mret_ap, mopt_some, lift0_ap, liftO_ok, take_val, peek_val, peek_own, peek_lck, take_own, mval_int, mval_str, mval_bl, mval_non, mval_tup, mval_lst, mval_fz, mval_dct, mresL_v, mvals, cLt, cLe, cGt, cGe, cEqI, cNeI, cEqB, cIs, cIsNot, tBo, tIn, tNo, tTu, tLi, xT, xL, xF, omap_some, b_is_room_0, bindT_v, mval_pl H hyp, hn, e_is_below H, hyp, hb]⟩
theorem all_map {f : D → Bool} : ∀ l : List D, opBl .all [.lst (l.map fun x => .bl (f x))] = some (.bl (l.all f)) := fun l => by
  have e : ∀ l : List D, allBl (l.map fun x => .bl (f x)) = some (l.map f) := fun l => by
    induction l with
    | nil => rfl
    | cons x l ih =>
      show (allBl (l.map fun x => .bl (f x))).map (f x :: ·) = _
      rw [ih]
      rfl
  show (allBl (l.map fun x => .bl (f x))).map (fun bs => D.bl (bs.all id)) = _
  rw [e]
  simp [asL_ap, all_mapT, ln_tup, ln_lst, ln_fz, tu_lst, tu_tup, it_tup, it_lst, it_fz, sq_tup, sq_lst, bindT_v, lockF, lockS, wipeF, run_ap, outO_rt, outO_nx, outO_ite, evC, evE, evB, evEs, evPs, evT, evTs, evI, frame0, asP, asQ, mbind_ap, bindO_ok, bindO_ite, ite_ap, mret_ap, mopt_some, lift0_ap, liftO_ok, take_val, peek_val, peek_own, peek_lck, take_own, mval_int, mval_str, mval_bl, mval_non, mval_tup, mval_lst, mval_fz, mval_dct, mresL_v, mvals, cLt, cLe, cGt, cGe, cEqI, cNeI, cEqB, cIs, cIsNot, tBo, tIn, tNo, tTu, tLi, xT, xL, xF, omap_some, List.all_map]
theorem isi_t {d : D} (h : pl d = true) : isiAny d [.tuple] = some (isT d) := by
  cases d with
  | dct t ks vs => cases t <;> first | rfl | cases h
  | _ => first | rfl | cases h
theorem e_is_saying (n : Nat) (d : D) (S : Store) (h : pl d = true) : (callF Pg (n + 4)).f "is_saying" [d] [] [] S = .ok (.bl (sayB d)) S := by
  rw [show ("is_saying" : Str) = f_is_saying.name from rfl, F_eq H.is_saying rfl rfl]
  cases hr : rowB 3 d with
  | false => simp [asL_ap, all_mapT, ln_tup, ln_lst, ln_fz, tu_lst, tu_tup, it_tup, it_lst, it_fz, sq_tup, sq_lst, bindT_v, lockF, lockS, wipeF, run_ap, outO_rt, outO_nx, outO_ite, evC, evE, evB, evEs, evPs, evT, evTs, evI, frame0, asP, asQ, mbind_ap, bindO_ok, bindO_ite, ite_ap, mret_ap, mopt_some, lift0_ap, liftO_ok, take_val, peek_val, peek_own, peek_lck, take_own, mval_int, mval_str, mval_bl, mval_non, mval_tup, mval_lst, mval_fz, mval_dct, mresL_v, mvals, cLt, cLe, cGt, cGe, cEqI, cNeI, cEqB, cIs, cIsNot, tBo, tIn, tNo, tTu, tLi, xT, xL, xF, omap_some, f_is_saying, b_is_saying, e_is_row H, h, hr, sayB]
  | true =>
    obtain ⟨l, rfl, hl⟩ := rowB_tup H hr
    obtain ⟨a, b, c, rfl⟩ : ∃ a b c, l = [a, b, c] := by
      match l, hl with
      | [a, b, c], _ => exact ⟨a, b, c, rfl⟩
      | [], hl => simp [asL_ap, all_mapT, ln_tup, ln_lst, ln_fz, tu_lst, tu_tup, it_tup, it_lst, it_fz, sq_tup, sq_lst, bindT_v, lockF, lockS, wipeF, run_ap, outO_rt, outO_nx, outO_ite, evC, evE, evB, evEs, evPs, evT, evTs, evI, frame0, asP, asQ, mbind_ap, bindO_ok, bindO_ite, ite_ap, mret_ap, mopt_some, lift0_ap, liftO_ok, take_val, peek_val, peek_own, peek_lck, take_own, mval_int, mval_str, mval_bl, mval_non, mval_tup, mval_lst, mval_fz, mval_dct, mresL_v, mvals, cLt, cLe, cGt, cGe, cEqI, cNeI, cEqB, cIs, cIsNot, tBo, tIn, tNo, tTu, tLi, xT, xL, xF, omap_some] at hl
      | [_], hl => simp [asL_ap, all_mapT, ln_tup, ln_lst, ln_fz, tu_lst, tu_tup, it_tup, it_lst, it_fz, sq_tup, sq_lst, bindT_v, lockF, lockS, wipeF, run_ap, outO_rt, outO_nx, outO_ite, evC, evE, evB, evEs, evPs, evT, evTs, evI, frame0, asP, asQ, mbind_ap, bindO_ok, bindO_ite, ite_ap, mret_ap, mopt_some, lift0_ap, liftO_ok, take_val, peek_val, peek_own, peek_lck, take_own, mval_int, mval_str, mval_bl, mval_non, mval_tup, mval_lst, mval_fz, mval_dct, mresL_v, mvals, cLt, cLe, cGt, cGe, cEqI, cNeI, cEqB, cIs, cIsNot, tBo, tIn, tNo, tTu, tLi, xT, xL, xF, omap_some] at hl
      | [_, _], hl => simp [asL_ap, all_mapT, ln_tup, ln_lst, ln_fz, tu_lst, tu_tup, it_tup, it_lst, it_fz, sq_tup, sq_lst, bindT_v, lockF, lockS, wipeF, run_ap, outO_rt, outO_nx, outO_ite, evC, evE, evB, evEs, evPs, evT, evTs, evI, frame0, asP, asQ, mbind_ap, bindO_ok, bindO_ite, ite_ap, mret_ap, mopt_some, lift0_ap, liftO_ok, take_val, peek_val, peek_own, peek_lck, take_own, mval_int, mval_str, mval_bl, mval_non, mval_tup, mval_lst, mval_fz, mval_dct, mresL_v, mvals, cLt, cLe, cGt, cGe, cEqI, cNeI, cEqB, cIs, cIsNot, tBo, tIn, tNo, tTu, tLi, xT, xL, xF, omap_some] at hl
      | _ :: _ :: _ :: _ :: _, hl => simp [asL_ap, all_mapT, ln_tup, ln_lst, ln_fz, tu_lst, tu_tup, it_tup, it_lst, it_fz, sq_tup, sq_lst, bindT_v, lockF, lockS, wipeF, run_ap, outO_rt, outO_nx, outO_ite, evC, evE, evB, evEs, evPs, evT, evTs, evI, frame0, asP, asQ, mbind_ap, bindO_ok, bindO_ite, ite_ap, mret_ap, mopt_some, lift0_ap, liftO_ok, take_val, peek_val, peek_own, peek_lck, take_own, mval_int, mval_str, mval_bl, mval_non, mval_tup, mval_lst, mval_fz, mval_dct, mresL_v, mvals, cLt, cLe, cGt, cGe, cEqI, cNeI, cEqB, cIs, cIsNot, tBo, tIn, tNo, tTu, tLi, xT, xL, xF, omap_some] at hl; omega
    have hp := pls_mem (show pls [a, b, c] = true from h)
    have ha := hp a (by simp [asL_ap, all_mapT, ln_tup, ln_lst, ln_fz, tu_lst, tu_tup, it_tup, it_lst, it_fz, sq_tup, sq_lst, bindT_v, lockF, lockS, wipeF, run_ap, outO_rt, outO_nx, outO_ite, evC, evE, evB, evEs, evPs, evT, evTs, evI, frame0, asP, asQ, mbind_ap, bindO_ok, bindO_ite, ite_ap, mret_ap, mopt_some, lift0_ap, liftO_ok, take_val, peek_val, peek_own, peek_lck, take_own, mval_int, mval_str, mval_bl, mval_non, mval_tup, mval_lst, mval_fz, mval_dct, mresL_v, mvals, cLt, cLe, cGt, cGe, cEqI, cNeI, cEqB, cIs, cIsNot, tBo, tIn, tNo, tTu, tLi, xT, xL, xF, omap_some])
    have hb := hp b (by simp [asL_ap, all_mapT, ln_tup, ln_lst, ln_fz, tu_lst, tu_tup, it_tup, it_lst, it_fz, sq_tup, sq_lst, bindT_v, lockF, lockS, wipeF, run_ap, outO_rt, outO_nx, outO_ite, evC, evE, evB, evEs, evPs, evT, evTs, evI, frame0, asP, asQ, mbind_ap, bindO_ok, bindO_ite, ite_ap, mret_ap, mopt_some, lift0_ap, liftO_ok, take_val, peek_val, peek_own, peek_lck, take_own, mval_int, mval_str, mval_bl, mval_non, mval_tup, mval_lst, mval_fz, mval_dct, mresL_v, mvals, cLt, cLe, cGt, cGe, cEqI, cNeI, cEqB, cIs, cIsNot, tBo, tIn, tNo, tTu, tLi, xT, xL, xF, omap_some])
    have hc := hp c (by simp [asL_ap, all_mapT, ln_tup, ln_lst, ln_fz, tu_lst, tu_tup, it_tup, it_lst, it_fz, sq_tup, sq_lst, bindT_v, lockF, lockS, wipeF, run_ap, outO_rt, outO_nx, outO_ite, evC, evE, evB, evEs, evPs, evT, evTs, evI, frame0, asP, asQ, mbind_ap, bindO_ok, bindO_ite, ite_ap, mret_ap, mopt_some, lift0_ap, liftO_ok, take_val, peek_val, peek_own, peek_lck, take_own, mval_int, mval_str, mval_bl, mval_non, mval_tup, mval_lst, mval_fz, mval_dct, mresL_v, mvals, cLt, cLe, cGt, cGe, cEqI, cNeI, cEqB, cIs, cIsNot, tBo, tIn, tNo, tTu, tLi, xT, xL, xF, omap_some])
    cases h1 : cntB a with
    | false => simp [asL_ap, all_mapT, ln_tup, ln_lst, ln_fz, tu_lst, tu_tup, it_tup, it_lst, it_fz, sq_tup, sq_lst, bindT_v, lockF, lockS, wipeF, run_ap, outO_rt, outO_nx, outO_ite, evC, evE, evB, evEs, evPs, evT, evTs, evI, frame0, asP, asQ, mbind_ap, bindO_ok, bindO_ite, ite_ap, mret_ap, mopt_some, lift0_ap, liftO_ok, take_val, peek_val, peek_own, peek_lck, take_own, mval_int, mval_str, mval_bl, mval_non, mval_tup, mval_lst, mval_fz, mval_dct, mresL_v, mvals, cLt, cLe, cGt, cGe, cEqI, cNeI, cEqB, cIs, cIsNot, tBo, tIn, tNo, tTu, tLi, xT, xL, xF, omap_some, f_is_saying, b_is_saying, e_is_row H, h, hr, sayB, bindT, bindTs, e_is_count H, ha, h1, itT, ge]
    | true =>
      cases h2 : cntB b with
      | false => simp [asL_ap, all_mapT, ln_tup, ln_lst, ln_fz, tu_lst, tu_tup, it_tup, it_lst, it_fz, sq_tup, sq_lst, bindT_v, lockF, lockS, wipeF, run_ap, outO_rt, outO_nx, outO_ite, evC, evE, evB, evEs, evPs, evT, evTs, evI, frame0, asP, asQ, mbind_ap, bindO_ok, bindO_ite, ite_ap, mret_ap, mopt_some, lift0_ap, liftO_ok, take_val, peek_val, peek_own, peek_lck, take_own, mval_int, mval_str, mval_bl, mval_non, mval_tup, mval_lst, mval_fz, mval_dct, mresL_v, mvals, cLt, cLe, cGt, cGe, cEqI, cNeI, cEqB, cIs, cIsNot, tBo, tIn, tNo, tTu, tLi, xT, xL, xF, omap_some, f_is_saying, b_is_saying, e_is_row H, h, hr, sayB, bindT, bindTs, e_is_count H, ha, hb, h1, h2, itT, ge]
      | true =>
        cases h3 : isT c with
        | false => simp [asL_ap, all_mapT, ln_tup, ln_lst, ln_fz, tu_lst, tu_tup, it_tup, it_lst, it_fz, sq_tup, sq_lst, bindT_v, lockF, lockS, wipeF, run_ap, outO_rt, outO_nx, outO_ite, evC, evE, evB, evEs, evPs, evT, evTs, evI, frame0, asP, asQ, mbind_ap, bindO_ok, bindO_ite, ite_ap, mret_ap, mopt_some, lift0_ap, liftO_ok, take_val, peek_val, peek_own, peek_lck, take_own, mval_int, mval_str, mval_bl, mval_non, mval_tup, mval_lst, mval_fz, mval_dct, mresL_v, mvals, cLt, cLe, cGt, cGe, cEqI, cNeI, cEqB, cIs, cIsNot, tBo, tIn, tNo, tTu, tLi, xT, xL, xF, omap_some, f_is_saying, b_is_saying, e_is_row H, h, hr, sayB, bindT, bindTs, e_is_count H, ha, hb, h1, h2, h3, itT, ge, mval_pl H hc, isi_t H hc]
        | true =>
          obtain ⟨rooms, rfl⟩ : ∃ rooms, c = .tup rooms := by cases c <;> first | exact ⟨_, rfl⟩ | cases h3
          obtain ⟨s, rfl⟩ : ∃ s, a = .int s := by cases a <;> first | exact ⟨_, rfl⟩ | (simp [asL_ap, all_mapT, ln_tup, ln_lst, ln_fz, tu_lst, tu_tup, it_tup, it_lst, it_fz, sq_tup, sq_lst, bindT_v, lockF, lockS, wipeF, run_ap, outO_rt, outO_nx, outO_ite, evC, evE, evB, evEs, evPs, evT, evTs, evI, frame0, asP, asQ, mbind_ap, bindO_ok, bindO_ite, ite_ap, mret_ap, mopt_some, lift0_ap, liftO_ok, take_val, peek_val, peek_own, peek_lck, take_own, mval_int, mval_str, mval_bl, mval_non, mval_tup, mval_lst, mval_fz, mval_dct, mresL_v, mvals, cLt, cLe, cGt, cGe, cEqI, cNeI, cEqB, cIs, cIsNot, tBo, tIn, tNo, tTu, tLi, xT, xL, xF, omap_some, cntB, isI] at h1)
          obtain ⟨k, rfl⟩ : ∃ s, b = .int s := by cases b <;> first | exact ⟨_, rfl⟩ | (simp [asL_ap, all_mapT, ln_tup, ln_lst, ln_fz, tu_lst, tu_tup, it_tup, it_lst, it_fz, sq_tup, sq_lst, bindT_v, lockF, lockS, wipeF, run_ap, outO_rt, outO_nx, outO_ite, evC, evE, evB, evEs, evPs, evT, evTs, evI, frame0, asP, asQ, mbind_ap, bindO_ok, bindO_ite, ite_ap, mret_ap, mopt_some, lift0_ap, liftO_ok, take_val, peek_val, peek_own, peek_lck, take_own, mval_int, mval_str, mval_bl, mval_non, mval_tup, mval_lst, mval_fz, mval_dct, mresL_v, mvals, cLt, cLe, cGt, cGe, cEqI, cNeI, cEqB, cIs, cIsNot, tBo, tIn, tNo, tTu, tLi, xT, xL, xF, omap_some, cntB, isI] at h2)
          have hrp := pls_mem (show pls rooms = true from hc)
          by_cases g1 : (1 : Int) ≤ rooms.length
          · by_cases g2 : (rooms.length : Int) ≤ 100
            · have key : fLc (evCl (callF Pg (n + 3)) Pg.sub c_is_saying_0) [.val (.tup [.int s, .int k, .tup rooms]), .val (.int s), .val (.int k), .val (.tup rooms), .none] S = .ok (rooms.map fun r => .bl (roomB s k rooms.length r)) [.val (.tup [.int s, .int k, .tup rooms]), .val (.int s), .val (.int k), .val (.tup rooms), .none] S :=
                lc_map (l := rooms) (g := fun r => .bl (roomB s k rooms.length r)) (by simp [asL_ap, all_mapT, ln_tup, ln_lst, ln_fz, tu_lst, tu_tup, it_tup, it_lst, it_fz, sq_tup, sq_lst, bindT_v, lockF, lockS, wipeF, run_ap, outO_rt, outO_nx, outO_ite, evC, evE, evB, evEs, evPs, evT, evTs, evI, frame0, asP, asQ, mbind_ap, bindO_ok, bindO_ite, ite_ap, mret_ap, mopt_some, lift0_ap, liftO_ok, take_val, peek_val, peek_own, peek_lck, take_own, mval_int, mval_str, mval_bl, mval_non, mval_tup, mval_lst, mval_fz, mval_dct, mresL_v, mvals, cLt, cLe, cGt, cGe, cEqI, cNeI, cEqB, cIs, cIsNot, tBo, tIn, tNo, tTu, tLi, xT, xL, xF, omap_some]) (fun d hd => ⟨[.val (.tup [.int s, .int k, .tup rooms]), .val (.int s), .val (.int k), .val (.tup rooms), .val d], by simp [asL_ap, all_mapT, ln_tup, ln_lst, ln_fz, tu_lst, tu_tup, it_tup, it_lst, it_fz, sq_tup, sq_lst, bindT_v, lockF, lockS, wipeF, run_ap, outO_rt, outO_nx, outO_ite, evC, evE, evB, evEs, evPs, evT, evTs, evI, frame0, asP, asQ, mbind_ap, bindO_ok, bindO_ite, ite_ap, mret_ap, mopt_some, lift0_ap, liftO_ok, take_val, peek_val, peek_own, peek_lck, take_own, mval_int, mval_str, mval_bl, mval_non, mval_tup, mval_lst, mval_fz, mval_dct, mresL_v, mvals, cLt, cLe, cGt, cGe, cEqI, cNeI, cEqB, cIs, cIsNot, tBo, tIn, tNo, tTu, tLi, xT, xL, xF, omap_some, e_is_room H n d s k _ S (hrp d hd)]⟩) (by omega)
              simp [asL_ap, all_mapT, ln_tup, ln_lst, ln_fz, tu_lst, tu_tup, it_tup, it_lst, it_fz, sq_tup, sq_lst, bindT_v, lockF, lockS, wipeF, run_ap, outO_rt, outO_nx, outO_ite, evC, evE, evB, evEs, evPs, evT, evTs, evI, frame0, asP, asQ, mbind_ap, bindO_ok, bindO_ite, ite_ap, mret_ap, mopt_some, lift0_ap, liftO_ok, take_val, peek_val, peek_own, peek_lck, take_own, mval_int, mval_str, mval_bl, mval_non, mval_tup, mval_lst, mval_fz, mval_dct, mresL_v, mvals, cLt, cLe, cGt, cGe, cEqI, cNeI, cEqB, cIs, cIsNot, tBo, tIn, tNo, tTu, tLi, xT, xL, xF, omap_some, f_is_saying, b_is_saying, e_is_row H, h, hr, sayB, bindT, bindTs, e_is_count H, ha, hb, h1, h2, itT, ge, inI, isT, isiAny, isiD, key, g1, g2, all_map H]
            · simp [asL_ap, all_mapT, ln_tup, ln_lst, ln_fz, tu_lst, tu_tup, it_tup, it_lst, it_fz, sq_tup, sq_lst, bindT_v, lockF, lockS, wipeF, run_ap, outO_rt, outO_nx, outO_ite, evC, evE, evB, evEs, evPs, evT, evTs, evI, frame0, asP, asQ, mbind_ap, bindO_ok, bindO_ite, ite_ap, mret_ap, mopt_some, lift0_ap, liftO_ok, take_val, peek_val, peek_own, peek_lck, take_own, mval_int, mval_str, mval_bl, mval_non, mval_tup, mval_lst, mval_fz, mval_dct, mresL_v, mvals, cLt, cLe, cGt, cGe, cEqI, cNeI, cEqB, cIs, cIsNot, tBo, tIn, tNo, tTu, tLi, xT, xL, xF, omap_some, f_is_saying, b_is_saying, e_is_row H, h, hr, sayB, bindT, bindTs, e_is_count H, ha, hb, h1, h2, itT, ge, inI, isT, isiAny, isiD, g1, g2]
          · simp [asL_ap, all_mapT, ln_tup, ln_lst, ln_fz, tu_lst, tu_tup, it_tup, it_lst, it_fz, sq_tup, sq_lst, bindT_v, lockF, lockS, wipeF, run_ap, outO_rt, outO_nx, outO_ite, evC, evE, evB, evEs, evPs, evT, evTs, evI, frame0, asP, asQ, mbind_ap, bindO_ok, bindO_ite, ite_ap, mret_ap, mopt_some, lift0_ap, liftO_ok, take_val, peek_val, peek_own, peek_lck, take_own, mval_int, mval_str, mval_bl, mval_non, mval_tup, mval_lst, mval_fz, mval_dct, mresL_v, mvals, cLt, cLe, cGt, cGe, cEqI, cNeI, cEqB, cIs, cIsNot, tBo, tIn, tNo, tTu, tLi, xT, xL, xF, omap_some, f_is_saying, b_is_saying, e_is_row H, h, hr, sayB, bindT, bindTs, e_is_count H, ha, hb, h1, h2, itT, ge, inI, isT, isiAny, isiD, g1]
theorem e_need_saying (n : Nat) (d : D) (S : Store) (h : pl d = true) : (callF Pg (n + 5)).f "need_saying" [d] [] [] S = if sayB d then .ok .non S else .exc "NoSaying" S := by
  rw [show ("need_saying" : Str) = f_need_saying.name from rfl, F_eq H.need_saying rfl rfl]
  cases hs : sayB d <;> simp [asL_ap, all_mapT, ln_tup, ln_lst, ln_fz, tu_lst, tu_tup, it_tup, it_lst, it_fz, sq_tup, sq_lst, bindT_v, lockF, lockS, wipeF, run_ap, outO_rt, outO_nx, outO_ite, evC, evE, evB, evEs, evPs, evT, evTs, evI, frame0, asP, asQ, mbind_ap, bindO_ok, bindO_ite, ite_ap, mret_ap, mopt_some, lift0_ap, liftO_ok, take_val, peek_val, peek_own, peek_lck, take_own, mval_int, mval_str, mval_bl, mval_non, mval_tup, mval_lst, mval_fz, mval_dct, mresL_v, mvals, cLt, cLe, cGt, cGe, cEqI, cNeI, cEqB, cIs, cIsNot, tBo, tIn, tNo, tTu, tLi, xT, xL, xF, omap_some, f_need_saying, b_need_saying, e_is_saying H n d S h, hs] <;> rfl
end
/-! ### the laws' own -/
structure HL (Pg : Pgm) : Prop where
  whole : Find Pg f__law_whole
  is_saying : Find Pg f__law_is_saying
section
variable {Pg : Pgm} (H : HS Pg) (HL : HL Pg)
include H HL
theorem e_law_whole (n : Nat) (d : D) (S : Store) (h : pl d = true) : (callF Pg (n + 1)).f "_law_whole" [d] [] [] S = .ok (.bl (isI d)) S := by
  rw [show ("_law_whole" : Str) = f__law_whole.name from rfl, F_eq HL.whole rfl rfl]
  cases d with
  | dct t ks vs => cases t <;> first | rfl | cases h
  | _ => first | rfl | cases h
theorem ln_T {d : D} (h : isT d = true) : opBl .len [d] = some (.int (itT d).length) := by
  cases d <;> first | rfl | cases h
theorem law_rooms (n : Nat) (S : Store) (d : D) (s k : Int) (rooms : List D) (hrp : ∀ x ∈ rooms, pl x = true) :
    if rooms.all (roomB s k rooms.length) then ∃ ρ', forM (.v 4) (evC (callF Pg (n + 1)) Pg.sub b__law_is_saying_2) rooms [.val d, .val (.int s), .val (.int k), .val (.tup rooms), .none, .none, .none] S = .ok .nx ρ' S
    else ∃ ρ', forM (.v 4) (evC (callF Pg (n + 1)) Pg.sub b__law_is_saying_2) rooms [.val d, .val (.int s), .val (.int k), .val (.tup rooms), .none, .none, .none] S = .ok (.rt (.bl false)) ρ' S := by
  have key := for_all (t := .v 4) (b := evC (callF Pg (n + 1)) Pg.sub b__law_is_saying_2) (p := roomB s k rooms.length) (r := .bl false) (S := S) (l := rooms) (k := 0) (ρ := [.val d, .val (.int s), .val (.int k), .val (.tup rooms), .none, .none, .none])
    (fun _ ρ => ∃ a b c, ρ = [.val d, .val (.int s), .val (.int k), .val (.tup rooms), a, b, c]) ⟨_, _, _, rfl⟩ ?_
  · split at key
    · rename_i h; rw [if_pos h]; obtain ⟨ρ', e, _⟩ := key; exact ⟨ρ', e⟩
    · rename_i h; rw [if_neg h]; exact key
  · rintro i x ρ hx ⟨a, b, c, rfl⟩
    have hxp := hrp x (List.mem_of_getElem? hx)
    cases hT : isT x with
    | false =>
      have : roomB s k rooms.length x = false := by simp only [roomB, rowB, hT, Bool.false_and]
      rw [this]
      simp only [Bool.false_eq_true, if_false]
      exact ⟨[.val d, .val (.int s), .val (.int k), .val (.tup rooms), .val x, b, c], by simp [asL_ap, all_mapT, ln_tup, ln_lst, ln_fz, tu_lst, tu_tup, it_tup, it_lst, it_fz, sq_tup, sq_lst, bindT_v, lockF, lockS, wipeF, run_ap, outO_rt, outO_nx, outO_ite, evC, evE, evB, evEs, evPs, evT, evTs, evI, frame0, asP, asQ, mbind_ap, bindO_ok, bindO_ite, ite_ap, mret_ap, mopt_some, lift0_ap, liftO_ok, take_val, peek_val, peek_own, peek_lck, take_own, mval_int, mval_str, mval_bl, mval_non, mval_tup, mval_lst, mval_fz, mval_dct, mresL_v, mvals, cLt, cLe, cGt, cGe, cEqI, cNeI, cEqB, cIs, cIsNot, tBo, tIn, tNo, tTu, tLi, xT, xL, xF, omap_some, b__law_is_saying_2, bindT_v, mval_pl H hxp, isi_t H hxp, hT]⟩
    | true =>
      obtain ⟨l, rfl⟩ : ∃ l, x = .tup l := by cases x <;> first | exact ⟨_, rfl⟩ | cases hT
      have hlp := pls_mem (show pls l = true from hxp)
      by_cases hl : (l.length : Int) = s
      · have key := for_all (t := .v 5) (b := evC (callF Pg (n + 1)) Pg.sub b__law_is_saying_1) (p := rowsB k rooms.length) (r := .bl false) (S := S) (l := l) (k := 0) (ρ := [.val d, .val (.int s), .val (.int k), .val (.tup rooms), .val (.tup l), b, c])
          (fun _ ρ => ∃ b c, ρ = [.val d, .val (.int s), .val (.int k), .val (.tup rooms), .val (.tup l), b, c]) ⟨_, _, rfl⟩ ?_
        · have er : roomB s k rooms.length (.tup l) = l.all (rowsB k rooms.length) := by simp [asL_ap, all_mapT, ln_tup, ln_lst, ln_fz, tu_lst, tu_tup, it_tup, it_lst, it_fz, sq_tup, sq_lst, bindT_v, lockF, lockS, wipeF, run_ap, outO_rt, outO_nx, outO_ite, evC, evE, evB, evEs, evPs, evT, evTs, evI, frame0, asP, asQ, mbind_ap, bindO_ok, bindO_ite, ite_ap, mret_ap, mopt_some, lift0_ap, liftO_ok, take_val, peek_val, peek_own, peek_lck, take_own, mval_int, mval_str, mval_bl, mval_non, mval_tup, mval_lst, mval_fz, mval_dct, mresL_v, mvals, cLt, cLe, cGt, cGe, cEqI, cNeI, cEqB, cIs, cIsNot, tBo, tIn, tNo, tTu, tLi, xT, xL, xF, omap_some, roomB, rowB, isT, itT, hl]
          rw [er]
          cases hall : l.all (rowsB k rooms.length) with
          | true =>
            rw [hall, if_pos rfl] at key
            obtain ⟨ρ', e, b2, c2, rfl⟩ := key
            rw [if_pos rfl]
            exact ⟨[.val d, .val (.int s), .val (.int k), .val (.tup rooms), .val (.tup l), b2, c2], by simp [asL_ap, all_mapT, ln_tup, ln_lst, ln_fz, tu_lst, tu_tup, it_tup, it_lst, it_fz, sq_tup, sq_lst, bindT_v, lockF, lockS, wipeF, run_ap, outO_rt, outO_nx, outO_ite, evC, evE, evB, evEs, evPs, evT, evTs, evI, frame0, asP, asQ, mbind_ap, bindO_ok, bindO_ite, ite_ap, mret_ap, mopt_some, lift0_ap, liftO_ok, take_val, peek_val, peek_own, peek_lck, take_own, mval_int, mval_str, mval_bl, mval_non, mval_tup, mval_lst, mval_fz, mval_dct, mresL_v, mvals, cLt, cLe, cGt, cGe, cEqI, cNeI, cEqB, cIs, cIsNot, tBo, tIn, tNo, tTu, tLi, xT, xL, xF, omap_some, b__law_is_saying_2, bindT_v, isi_t H hxp, isT, hl, e], _, _, _, rfl⟩
          | false =>
            rw [hall] at key
            simp only [Bool.false_eq_true, if_false] at key
            obtain ⟨ρ', e⟩ := key
            simp only [Bool.false_eq_true, if_false]
            exact ⟨ρ', by simp [asL_ap, all_mapT, ln_tup, ln_lst, ln_fz, tu_lst, tu_tup, it_tup, it_lst, it_fz, sq_tup, sq_lst, bindT_v, lockF, lockS, wipeF, run_ap, outO_rt, outO_nx, outO_ite, evC, evE, evB, evEs, evPs, evT, evTs, evI, frame0, asP, asQ, mbind_ap, bindO_ok, bindO_ite, ite_ap, mret_ap, mopt_some, lift0_ap, liftO_ok, take_val, peek_val, peek_own, peek_lck, take_own, mval_int, mval_str, mval_bl, mval_non, mval_tup, mval_lst, mval_fz, mval_dct, mresL_v, mvals, cLt, cLe, cGt, cGe, cEqI, cNeI, cEqB, cIs, cIsNot, tBo, tIn, tNo, tTu, tLi, xT, xL, xF, omap_some, b__law_is_saying_2, bindT_v, isi_t H hxp, isT, hl, e]⟩
        · rintro j y ρ hy ⟨b3, c3, rfl⟩
          have hyp := hlp y (List.mem_of_getElem? hy)
          cases hT2 : isT y with
          | false =>
            have : rowsB k rooms.length y = false := by simp only [rowsB, rowB, hT2, Bool.false_and]
            rw [this]
            simp only [Bool.false_eq_true, if_false]
            exact ⟨[.val d, .val (.int s), .val (.int k), .val (.tup rooms), .val (.tup l), .val y, c3], by simp [asL_ap, all_mapT, ln_tup, ln_lst, ln_fz, tu_lst, tu_tup, it_tup, it_lst, it_fz, sq_tup, sq_lst, bindT_v, lockF, lockS, wipeF, run_ap, outO_rt, outO_nx, outO_ite, evC, evE, evB, evEs, evPs, evT, evTs, evI, frame0, asP, asQ, mbind_ap, bindO_ok, bindO_ite, ite_ap, mret_ap, mopt_some, lift0_ap, liftO_ok, take_val, peek_val, peek_own, peek_lck, take_own, mval_int, mval_str, mval_bl, mval_non, mval_tup, mval_lst, mval_fz, mval_dct, mresL_v, mvals, cLt, cLe, cGt, cGe, cEqI, cNeI, cEqB, cIs, cIsNot, tBo, tIn, tNo, tTu, tLi, xT, xL, xF, omap_some, b__law_is_saying_1, bindT_v, mval_pl H hyp, isi_t H hyp, hT2]⟩
          | true =>
            obtain ⟨r, rfl⟩ : ∃ l, y = .tup l := by cases y <;> first | exact ⟨_, rfl⟩ | cases hT2
            have hrp2 := pls_mem (show pls r = true from hyp)
            by_cases hl2 : (r.length : Int) = k
            · have key := for_all (t := .v 6) (b := evC (callF Pg (n + 1)) Pg.sub b__law_is_saying_0) (p := behB rooms.length) (r := .bl false) (S := S) (l := r) (k := 0) (ρ := [.val d, .val (.int s), .val (.int k), .val (.tup rooms), .val (.tup l), .val (.tup r), c3])
                (fun _ ρ => ∃ c, ρ = [.val d, .val (.int s), .val (.int k), .val (.tup rooms), .val (.tup l), .val (.tup r), c]) ⟨_, rfl⟩ ?_
              · have er : rowsB k rooms.length (.tup r) = r.all (behB rooms.length) := by simp [asL_ap, all_mapT, ln_tup, ln_lst, ln_fz, tu_lst, tu_tup, it_tup, it_lst, it_fz, sq_tup, sq_lst, bindT_v, lockF, lockS, wipeF, run_ap, outO_rt, outO_nx, outO_ite, evC, evE, evB, evEs, evPs, evT, evTs, evI, frame0, asP, asQ, mbind_ap, bindO_ok, bindO_ite, ite_ap, mret_ap, mopt_some, lift0_ap, liftO_ok, take_val, peek_val, peek_own, peek_lck, take_own, mval_int, mval_str, mval_bl, mval_non, mval_tup, mval_lst, mval_fz, mval_dct, mresL_v, mvals, cLt, cLe, cGt, cGe, cEqI, cNeI, cEqB, cIs, cIsNot, tBo, tIn, tNo, tTu, tLi, xT, xL, xF, omap_some, rowsB, rowB, isT, itT, hl2]
                rw [er]
                cases hall : r.all (behB rooms.length) with
                | true =>
                  rw [hall, if_pos rfl] at key
                  obtain ⟨ρ', e, c2, rfl⟩ := key
                  rw [if_pos rfl]
                  exact ⟨[.val d, .val (.int s), .val (.int k), .val (.tup rooms), .val (.tup l), .val (.tup r), c2], by simp [asL_ap, all_mapT, ln_tup, ln_lst, ln_fz, tu_lst, tu_tup, it_tup, it_lst, it_fz, sq_tup, sq_lst, bindT_v, lockF, lockS, wipeF, run_ap, outO_rt, outO_nx, outO_ite, evC, evE, evB, evEs, evPs, evT, evTs, evI, frame0, asP, asQ, mbind_ap, bindO_ok, bindO_ite, ite_ap, mret_ap, mopt_some, lift0_ap, liftO_ok, take_val, peek_val, peek_own, peek_lck, take_own, mval_int, mval_str, mval_bl, mval_non, mval_tup, mval_lst, mval_fz, mval_dct, mresL_v, mvals, cLt, cLe, cGt, cGe, cEqI, cNeI, cEqB, cIs, cIsNot, tBo, tIn, tNo, tTu, tLi, xT, xL, xF, omap_some, b__law_is_saying_1, bindT_v, isi_t H hyp, isT, hl2, e], _, _, rfl⟩
                | false =>
                  rw [hall] at key
                  simp only [Bool.false_eq_true, if_false] at key
                  obtain ⟨ρ', e⟩ := key
                  simp only [Bool.false_eq_true, if_false]
                  exact ⟨ρ', by simp [asL_ap, all_mapT, ln_tup, ln_lst, ln_fz, tu_lst, tu_tup, it_tup, it_lst, it_fz, sq_tup, sq_lst, bindT_v, lockF, lockS, wipeF, run_ap, outO_rt, outO_nx, outO_ite, evC, evE, evB, evEs, evPs, evT, evTs, evI, frame0, asP, asQ, mbind_ap, bindO_ok, bindO_ite, ite_ap, mret_ap, mopt_some, lift0_ap, liftO_ok, take_val, peek_val, peek_own, peek_lck, take_own, mval_int, mval_str, mval_bl, mval_non, mval_tup, mval_lst, mval_fz, mval_dct, mresL_v, mvals, cLt, cLe, cGt, cGe, cEqI, cNeI, cEqB, cIs, cIsNot, tBo, tIn, tNo, tTu, tLi, xT, xL, xF, omap_some, b__law_is_saying_1, bindT_v, isi_t H hyp, isT, hl2, e]⟩
              · rintro q z ρ hz ⟨c4, rfl⟩
                have hzp := hrp2 z (List.mem_of_getElem? hz)
                cases hn : isNon z with
                | true =>
                  have : behB rooms.length z = true := by simp only [behB, hn, Bool.true_or]
                  rw [this, if_pos rfl]
                  exact ⟨[.val d, .val (.int s), .val (.int k), .val (.tup rooms), .val (.tup l), .val (.tup r), .val z], by simp [asL_ap, all_mapT, ln_tup, ln_lst, ln_fz, tu_lst, tu_tup, it_tup, it_lst, it_fz, sq_tup, sq_lst, bindT_v, lockF, lockS, wipeF, run_ap, outO_rt, outO_nx, outO_ite, evC, evE, evB, evEs, evPs, evT, evTs, evI, frame0, asP, asQ, mbind_ap, bindO_ok, bindO_ite, ite_ap, mret_ap, mopt_some, lift0_ap, liftO_ok, take_val, peek_val, peek_own, peek_lck, take_own, mval_int, mval_str, mval_bl, mval_non, mval_tup, mval_lst, mval_fz, mval_dct, mresL_v, mvals, cLt, cLe, cGt, cGe, cEqI, cNeI, cEqB, cIs, cIsNot, tBo, tIn, tNo, tTu, tLi, xT, xL, xF, omap_some, b__law_is_saying_0, bindT_v, mval_pl H hzp, hn], _, rfl⟩
                | false =>
                  have e0 : behB rooms.length z = belB rooms.length z := by simp only [behB, hn, Bool.false_or]
                  rw [e0]
                  cases hi : isI z with
                  | false =>
                    have : belB rooms.length z = false := by simp only [belB, hi, Bool.false_and]
                    rw [this]
                    simp only [Bool.false_eq_true, if_false]
                    exact ⟨[.val d, .val (.int s), .val (.int k), .val (.tup rooms), .val (.tup l), .val (.tup r), .val z], by simp [asL_ap, all_mapT, ln_tup, ln_lst, ln_fz, tu_lst, tu_tup, it_tup, it_lst, it_fz, sq_tup, sq_lst, bindT_v, lockF, lockS, wipeF, run_ap, outO_rt, outO_nx, outO_ite, evC, evE, evB, evEs, evPs, evT, evTs, evI, frame0, asP, asQ, mbind_ap, bindO_ok, bindO_ite, ite_ap, mret_ap, mopt_some, lift0_ap, liftO_ok, take_val, peek_val, peek_own, peek_lck, take_own, mval_int, mval_str, mval_bl, mval_non, mval_tup, mval_lst, mval_fz, mval_dct, mresL_v, mvals, cLt, cLe, cGt, cGe, cEqI, cNeI, cEqB, cIs, cIsNot, tBo, tIn, tNo, tTu, tLi, xT, xL, xF, omap_some, b__law_is_saying_0, bindT_v, mval_pl H hzp, hn, e_law_whole H HL, hzp, hi]⟩
                  | true =>
                    obtain ⟨v, rfl⟩ : ∃ s, z = .int s := by cases z <;> first | exact ⟨_, rfl⟩ | cases hi
                    by_cases v1 : 0 ≤ v
                    · by_cases v2 : v < rooms.length
                      · have : belB rooms.length (.int v) = true := by simp [asL_ap, all_mapT, ln_tup, ln_lst, ln_fz, tu_lst, tu_tup, it_tup, it_lst, it_fz, sq_tup, sq_lst, bindT_v, lockF, lockS, wipeF, run_ap, outO_rt, outO_nx, outO_ite, evC, evE, evB, evEs, evPs, evT, evTs, evI, frame0, asP, asQ, mbind_ap, bindO_ok, bindO_ite, ite_ap, mret_ap, mopt_some, lift0_ap, liftO_ok, take_val, peek_val, peek_own, peek_lck, take_own, mval_int, mval_str, mval_bl, mval_non, mval_tup, mval_lst, mval_fz, mval_dct, mresL_v, mvals, cLt, cLe, cGt, cGe, cEqI, cNeI, cEqB, cIs, cIsNot, tBo, tIn, tNo, tTu, tLi, xT, xL, xF, omap_some, belB, isI, inI, v1, v2]
                        rw [this, if_pos rfl]
                        exact ⟨[.val d, .val (.int s), .val (.int k), .val (.tup rooms), .val (.tup l), .val (.tup r), .val (.int v)], by simp [asL_ap, all_mapT, ln_tup, ln_lst, ln_fz, tu_lst, tu_tup, it_tup, it_lst, it_fz, sq_tup, sq_lst, bindT_v, lockF, lockS, wipeF, run_ap, outO_rt, outO_nx, outO_ite, evC, evE, evB, evEs, evPs, evT, evTs, evI, frame0, asP, asQ, mbind_ap, bindO_ok, bindO_ite, ite_ap, mret_ap, mopt_some, lift0_ap, liftO_ok, take_val, peek_val, peek_own, peek_lck, take_own, mval_int, mval_str, mval_bl, mval_non, mval_tup, mval_lst, mval_fz, mval_dct, mresL_v, mvals, cLt, cLe, cGt, cGe, cEqI, cNeI, cEqB, cIs, cIsNot, tBo, tIn, tNo, tTu, tLi, xT, xL, xF, omap_some, b__law_is_saying_0, bindT_v, isNon, e_law_whole H HL, hzp, hi, v1, v2], _, rfl⟩
                      · have : belB rooms.length (.int v) = false := by simp [asL_ap, all_mapT, ln_tup, ln_lst, ln_fz, tu_lst, tu_tup, it_tup, it_lst, it_fz, sq_tup, sq_lst, bindT_v, lockF, lockS, wipeF, run_ap, outO_rt, outO_nx, outO_ite, evC, evE, evB, evEs, evPs, evT, evTs, evI, frame0, asP, asQ, mbind_ap, bindO_ok, bindO_ite, ite_ap, mret_ap, mopt_some, lift0_ap, liftO_ok, take_val, peek_val, peek_own, peek_lck, take_own, mval_int, mval_str, mval_bl, mval_non, mval_tup, mval_lst, mval_fz, mval_dct, mresL_v, mvals, cLt, cLe, cGt, cGe, cEqI, cNeI, cEqB, cIs, cIsNot, tBo, tIn, tNo, tTu, tLi, xT, xL, xF, omap_some, belB, isI, inI, v1, v2]
                        rw [this]
                        simp only [Bool.false_eq_true, if_false]
                        exact ⟨[.val d, .val (.int s), .val (.int k), .val (.tup rooms), .val (.tup l), .val (.tup r), .val (.int v)], by simp [asL_ap, all_mapT, ln_tup, ln_lst, ln_fz, tu_lst, tu_tup, it_tup, it_lst, it_fz, sq_tup, sq_lst, bindT_v, lockF, lockS, wipeF, run_ap, outO_rt, outO_nx, outO_ite, evC, evE, evB, evEs, evPs, evT, evTs, evI, frame0, asP, asQ, mbind_ap, bindO_ok, bindO_ite, ite_ap, mret_ap, mopt_some, lift0_ap, liftO_ok, take_val, peek_val, peek_own, peek_lck, take_own, mval_int, mval_str, mval_bl, mval_non, mval_tup, mval_lst, mval_fz, mval_dct, mresL_v, mvals, cLt, cLe, cGt, cGe, cEqI, cNeI, cEqB, cIs, cIsNot, tBo, tIn, tNo, tTu, tLi, xT, xL, xF, omap_some, b__law_is_saying_0, bindT_v, isNon, e_law_whole H HL, hzp, hi, v1, v2]⟩
                    · have : belB rooms.length (.int v) = false := by simp [asL_ap, all_mapT, ln_tup, ln_lst, ln_fz, tu_lst, tu_tup, it_tup, it_lst, it_fz, sq_tup, sq_lst, bindT_v, lockF, lockS, wipeF, run_ap, outO_rt, outO_nx, outO_ite, evC, evE, evB, evEs, evPs, evT, evTs, evI, frame0, asP, asQ, mbind_ap, bindO_ok, bindO_ite, ite_ap, mret_ap, mopt_some, lift0_ap, liftO_ok, take_val, peek_val, peek_own, peek_lck, take_own, mval_int, mval_str, mval_bl, mval_non, mval_tup, mval_lst, mval_fz, mval_dct, mresL_v, mvals, cLt, cLe, cGt, cGe, cEqI, cNeI, cEqB, cIs, cIsNot, tBo, tIn, tNo, tTu, tLi, xT, xL, xF, omap_some, belB, isI, inI, v1]
                      rw [this]
                      simp only [Bool.false_eq_true, if_false]
                      exact ⟨[.val d, .val (.int s), .val (.int k), .val (.tup rooms), .val (.tup l), .val (.tup r), .val (.int v)], by simp [asL_ap, all_mapT, ln_tup, ln_lst, ln_fz, tu_lst, tu_tup, it_tup, it_lst, it_fz, sq_tup, sq_lst, bindT_v, lockF, lockS, wipeF, run_ap, outO_rt, outO_nx, outO_ite, evC, evE, evB, evEs, evPs, evT, evTs, evI, frame0, asP, asQ, mbind_ap, bindO_ok, bindO_ite, ite_ap, mret_ap, mopt_some, lift0_ap, liftO_ok, take_val, peek_val, peek_own, peek_lck, take_own, mval_int, mval_str, mval_bl, mval_non, mval_tup, mval_lst, mval_fz, mval_dct, mresL_v, mvals, cLt, cLe, cGt, cGe, cEqI, cNeI, cEqB, cIs, cIsNot, tBo, tIn, tNo, tTu, tLi, xT, xL, xF, omap_some, b__law_is_saying_0, bindT_v, isNon, e_law_whole H HL, hzp, hi, v1]⟩
            · have er : rowsB k rooms.length (.tup r) = false := by simp [asL_ap, all_mapT, ln_tup, ln_lst, ln_fz, tu_lst, tu_tup, it_tup, it_lst, it_fz, sq_tup, sq_lst, bindT_v, lockF, lockS, wipeF, run_ap, outO_rt, outO_nx, outO_ite, evC, evE, evB, evEs, evPs, evT, evTs, evI, frame0, asP, asQ, mbind_ap, bindO_ok, bindO_ite, ite_ap, mret_ap, mopt_some, lift0_ap, liftO_ok, take_val, peek_val, peek_own, peek_lck, take_own, mval_int, mval_str, mval_bl, mval_non, mval_tup, mval_lst, mval_fz, mval_dct, mresL_v, mvals, cLt, cLe, cGt, cGe, cEqI, cNeI, cEqB, cIs, cIsNot, tBo, tIn, tNo, tTu, tLi, xT, xL, xF, omap_some, rowsB, rowB, isT, itT, hl2]
              rw [er]
              simp only [Bool.false_eq_true, if_false]
              exact ⟨[.val d, .val (.int s), .val (.int k), .val (.tup rooms), .val (.tup l), .val (.tup r), c3], by simp [asL_ap, all_mapT, ln_tup, ln_lst, ln_fz, tu_lst, tu_tup, it_tup, it_lst, it_fz, sq_tup, sq_lst, bindT_v, lockF, lockS, wipeF, run_ap, outO_rt, outO_nx, outO_ite, evC, evE, evB, evEs, evPs, evT, evTs, evI, frame0, asP, asQ, mbind_ap, bindO_ok, bindO_ite, ite_ap, mret_ap, mopt_some, lift0_ap, liftO_ok, take_val, peek_val, peek_own, peek_lck, take_own, mval_int, mval_str, mval_bl, mval_non, mval_tup, mval_lst, mval_fz, mval_dct, mresL_v, mvals, cLt, cLe, cGt, cGe, cEqI, cNeI, cEqB, cIs, cIsNot, tBo, tIn, tNo, tTu, tLi, xT, xL, xF, omap_some, b__law_is_saying_1, bindT_v, isi_t H hyp, isT, hl2]⟩
      · have er : roomB s k rooms.length (.tup l) = false := by simp [asL_ap, all_mapT, ln_tup, ln_lst, ln_fz, tu_lst, tu_tup, it_tup, it_lst, it_fz, sq_tup, sq_lst, bindT_v, lockF, lockS, wipeF, run_ap, outO_rt, outO_nx, outO_ite, evC, evE, evB, evEs, evPs, evT, evTs, evI, frame0, asP, asQ, mbind_ap, bindO_ok, bindO_ite, ite_ap, mret_ap, mopt_some, lift0_ap, liftO_ok, take_val, peek_val, peek_own, peek_lck, take_own, mval_int, mval_str, mval_bl, mval_non, mval_tup, mval_lst, mval_fz, mval_dct, mresL_v, mvals, cLt, cLe, cGt, cGe, cEqI, cNeI, cEqB, cIs, cIsNot, tBo, tIn, tNo, tTu, tLi, xT, xL, xF, omap_some, roomB, rowB, isT, itT, hl]
        rw [er]
        simp only [Bool.false_eq_true, if_false]
        exact ⟨[.val d, .val (.int s), .val (.int k), .val (.tup rooms), .val (.tup l), b, c], by simp [asL_ap, all_mapT, ln_tup, ln_lst, ln_fz, tu_lst, tu_tup, it_tup, it_lst, it_fz, sq_tup, sq_lst, bindT_v, lockF, lockS, wipeF, run_ap, outO_rt, outO_nx, outO_ite, evC, evE, evB, evEs, evPs, evT, evTs, evI, frame0, asP, asQ, mbind_ap, bindO_ok, bindO_ite, ite_ap, mret_ap, mopt_some, lift0_ap, liftO_ok, take_val, peek_val, peek_own, peek_lck, take_own, mval_int, mval_str, mval_bl, mval_non, mval_tup, mval_lst, mval_fz, mval_dct, mresL_v, mvals, cLt, cLe, cGt, cGe, cEqI, cNeI, cEqB, cIs, cIsNot, tBo, tIn, tNo, tTu, tLi, xT, xL, xF, omap_some, b__law_is_saying_2, bindT_v, isi_t H hxp, isT, hl]⟩
theorem e_law_is_saying (n : Nat) (d : D) (S : Store) (h : pl d = true) : (callF Pg (n + 2)).f "_law_is_saying" [d] [] [] S = .ok (.bl (sayB d)) S := by
  rw [show ("_law_is_saying" : Str) = f__law_is_saying.name from rfl, F_eq HL.is_saying rfl rfl]
  cases h0 : isT d with
  | false =>
    have : sayB d = false := by simp only [sayB, rowB, h0, Bool.false_and]
    rw [this]
    simp [asL_ap, all_mapT, ln_tup, ln_lst, ln_fz, tu_lst, tu_tup, it_tup, it_lst, it_fz, sq_tup, sq_lst, bindT_v, lockF, lockS, wipeF, run_ap, outO_rt, outO_nx, outO_ite, evC, evE, evB, evEs, evPs, evT, evTs, evI, frame0, asP, asQ, mbind_ap, bindO_ok, bindO_ite, ite_ap, mret_ap, mopt_some, lift0_ap, liftO_ok, take_val, peek_val, peek_own, peek_lck, take_own, mval_int, mval_str, mval_bl, mval_non, mval_tup, mval_lst, mval_fz, mval_dct, mresL_v, mvals, cLt, cLe, cGt, cGe, cEqI, cNeI, cEqB, cIs, cIsNot, tBo, tIn, tNo, tTu, tLi, xT, xL, xF, omap_some, f__law_is_saying, b__law_is_saying, mval_pl H h, isi_t H h, h0]
  | true =>
    obtain ⟨l, rfl⟩ : ∃ l, d = .tup l := by cases d <;> first | exact ⟨_, rfl⟩ | cases h0
    by_cases hl : (l.length : Int) = 3
    · obtain ⟨a, b, c, rfl⟩ : ∃ a b c, l = [a, b, c] := by
        match l, hl with
        | [a, b, c], _ => exact ⟨a, b, c, rfl⟩
        | [], hl => simp [asL_ap, all_mapT, ln_tup, ln_lst, ln_fz, tu_lst, tu_tup, it_tup, it_lst, it_fz, sq_tup, sq_lst, bindT_v, lockF, lockS, wipeF, run_ap, outO_rt, outO_nx, outO_ite, evC, evE, evB, evEs, evPs, evT, evTs, evI, frame0, asP, asQ, mbind_ap, bindO_ok, bindO_ite, ite_ap, mret_ap, mopt_some, lift0_ap, liftO_ok, take_val, peek_val, peek_own, peek_lck, take_own, mval_int, mval_str, mval_bl, mval_non, mval_tup, mval_lst, mval_fz, mval_dct, mresL_v, mvals, cLt, cLe, cGt, cGe, cEqI, cNeI, cEqB, cIs, cIsNot, tBo, tIn, tNo, tTu, tLi, xT, xL, xF, omap_some] at hl
        | [_], hl => simp [asL_ap, all_mapT, ln_tup, ln_lst, ln_fz, tu_lst, tu_tup, it_tup, it_lst, it_fz, sq_tup, sq_lst, bindT_v, lockF, lockS, wipeF, run_ap, outO_rt, outO_nx, outO_ite, evC, evE, evB, evEs, evPs, evT, evTs, evI, frame0, asP, asQ, mbind_ap, bindO_ok, bindO_ite, ite_ap, mret_ap, mopt_some, lift0_ap, liftO_ok, take_val, peek_val, peek_own, peek_lck, take_own, mval_int, mval_str, mval_bl, mval_non, mval_tup, mval_lst, mval_fz, mval_dct, mresL_v, mvals, cLt, cLe, cGt, cGe, cEqI, cNeI, cEqB, cIs, cIsNot, tBo, tIn, tNo, tTu, tLi, xT, xL, xF, omap_some] at hl
        | [_, _], hl => simp [asL_ap, all_mapT, ln_tup, ln_lst, ln_fz, tu_lst, tu_tup, it_tup, it_lst, it_fz, sq_tup, sq_lst, bindT_v, lockF, lockS, wipeF, run_ap, outO_rt, outO_nx, outO_ite, evC, evE, evB, evEs, evPs, evT, evTs, evI, frame0, asP, asQ, mbind_ap, bindO_ok, bindO_ite, ite_ap, mret_ap, mopt_some, lift0_ap, liftO_ok, take_val, peek_val, peek_own, peek_lck, take_own, mval_int, mval_str, mval_bl, mval_non, mval_tup, mval_lst, mval_fz, mval_dct, mresL_v, mvals, cLt, cLe, cGt, cGe, cEqI, cNeI, cEqB, cIs, cIsNot, tBo, tIn, tNo, tTu, tLi, xT, xL, xF, omap_some] at hl
        | _ :: _ :: _ :: _ :: _, hl => simp [asL_ap, all_mapT, ln_tup, ln_lst, ln_fz, tu_lst, tu_tup, it_tup, it_lst, it_fz, sq_tup, sq_lst, bindT_v, lockF, lockS, wipeF, run_ap, outO_rt, outO_nx, outO_ite, evC, evE, evB, evEs, evPs, evT, evTs, evI, frame0, asP, asQ, mbind_ap, bindO_ok, bindO_ite, ite_ap, mret_ap, mopt_some, lift0_ap, liftO_ok, take_val, peek_val, peek_own, peek_lck, take_own, mval_int, mval_str, mval_bl, mval_non, mval_tup, mval_lst, mval_fz, mval_dct, mresL_v, mvals, cLt, cLe, cGt, cGe, cEqI, cNeI, cEqB, cIs, cIsNot, tBo, tIn, tNo, tTu, tLi, xT, xL, xF, omap_some] at hl; omega
      have hp := pls_mem (show pls [a, b, c] = true from h)
      have ha := hp a (by simp [asL_ap, all_mapT, ln_tup, ln_lst, ln_fz, tu_lst, tu_tup, it_tup, it_lst, it_fz, sq_tup, sq_lst, bindT_v, lockF, lockS, wipeF, run_ap, outO_rt, outO_nx, outO_ite, evC, evE, evB, evEs, evPs, evT, evTs, evI, frame0, asP, asQ, mbind_ap, bindO_ok, bindO_ite, ite_ap, mret_ap, mopt_some, lift0_ap, liftO_ok, take_val, peek_val, peek_own, peek_lck, take_own, mval_int, mval_str, mval_bl, mval_non, mval_tup, mval_lst, mval_fz, mval_dct, mresL_v, mvals, cLt, cLe, cGt, cGe, cEqI, cNeI, cEqB, cIs, cIsNot, tBo, tIn, tNo, tTu, tLi, xT, xL, xF, omap_some])
      have hb := hp b (by simp [asL_ap, all_mapT, ln_tup, ln_lst, ln_fz, tu_lst, tu_tup, it_tup, it_lst, it_fz, sq_tup, sq_lst, bindT_v, lockF, lockS, wipeF, run_ap, outO_rt, outO_nx, outO_ite, evC, evE, evB, evEs, evPs, evT, evTs, evI, frame0, asP, asQ, mbind_ap, bindO_ok, bindO_ite, ite_ap, mret_ap, mopt_some, lift0_ap, liftO_ok, take_val, peek_val, peek_own, peek_lck, take_own, mval_int, mval_str, mval_bl, mval_non, mval_tup, mval_lst, mval_fz, mval_dct, mresL_v, mvals, cLt, cLe, cGt, cGe, cEqI, cNeI, cEqB, cIs, cIsNot, tBo, tIn, tNo, tTu, tLi, xT, xL, xF, omap_some])
      have hc := hp c (by simp [asL_ap, all_mapT, ln_tup, ln_lst, ln_fz, tu_lst, tu_tup, it_tup, it_lst, it_fz, sq_tup, sq_lst, bindT_v, lockF, lockS, wipeF, run_ap, outO_rt, outO_nx, outO_ite, evC, evE, evB, evEs, evPs, evT, evTs, evI, frame0, asP, asQ, mbind_ap, bindO_ok, bindO_ite, ite_ap, mret_ap, mopt_some, lift0_ap, liftO_ok, take_val, peek_val, peek_own, peek_lck, take_own, mval_int, mval_str, mval_bl, mval_non, mval_tup, mval_lst, mval_fz, mval_dct, mresL_v, mvals, cLt, cLe, cGt, cGe, cEqI, cNeI, cEqB, cIs, cIsNot, tBo, tIn, tNo, tTu, tLi, xT, xL, xF, omap_some])
      cases h3 : isT c with
      | false => simp [asL_ap, all_mapT, ln_tup, ln_lst, ln_fz, tu_lst, tu_tup, it_tup, it_lst, it_fz, sq_tup, sq_lst, bindT_v, lockF, lockS, wipeF, run_ap, outO_rt, outO_nx, outO_ite, evC, evE, evB, evEs, evPs, evT, evTs, evI, frame0, asP, asQ, mbind_ap, bindO_ok, bindO_ite, ite_ap, mret_ap, mopt_some, lift0_ap, liftO_ok, take_val, peek_val, peek_own, peek_lck, take_own, mval_int, mval_str, mval_bl, mval_non, mval_tup, mval_lst, mval_fz, mval_dct, mresL_v, mvals, cLt, cLe, cGt, cGe, cEqI, cNeI, cEqB, cIs, cIsNot, tBo, tIn, tNo, tTu, tLi, xT, xL, xF, omap_some, f__law_is_saying, b__law_is_saying, isi_t H h, isi_t H hc, atD, ixD, mval_pl H hc, h3, sayB, rowB, isT_tup, itT, ge]
      | true =>
        obtain ⟨rooms, rfl⟩ : ∃ rooms, c = .tup rooms := by cases c <;> first | exact ⟨_, rfl⟩ | cases h3
        cases h1 : isI a with
        | false =>
          have : cntB a = false := by simp only [cntB, h1, Bool.false_and]
          simp [asL_ap, all_mapT, ln_tup, ln_lst, ln_fz, tu_lst, tu_tup, it_tup, it_lst, it_fz, sq_tup, sq_lst, bindT_v, lockF, lockS, wipeF, run_ap, outO_rt, outO_nx, outO_ite, evC, evE, evB, evEs, evPs, evT, evTs, evI, frame0, asP, asQ, mbind_ap, bindO_ok, bindO_ite, ite_ap, mret_ap, mopt_some, lift0_ap, liftO_ok, take_val, peek_val, peek_own, peek_lck, take_own, mval_int, mval_str, mval_bl, mval_non, mval_tup, mval_lst, mval_fz, mval_dct, mresL_v, mvals, cLt, cLe, cGt, cGe, cEqI, cNeI, cEqB, cIs, cIsNot, tBo, tIn, tNo, tTu, tLi, xT, xL, xF, omap_some, f__law_is_saying, b__law_is_saying, isi_t H h, isi_t H hc, atD, ixD, h3, sayB, rowB, isT, itT, ge, this, bindT, bindTs, e_law_whole H HL, ha, h1]
        | true =>
          obtain ⟨s, rfl⟩ : ∃ s, a = .int s := by cases a <;> first | exact ⟨_, rfl⟩ | cases h1
          cases h2 : isI b with
          | false =>
            have : cntB b = false := by simp only [cntB, h2, Bool.false_and]
            simp [asL_ap, all_mapT, ln_tup, ln_lst, ln_fz, tu_lst, tu_tup, it_tup, it_lst, it_fz, sq_tup, sq_lst, bindT_v, lockF, lockS, wipeF, run_ap, outO_rt, outO_nx, outO_ite, evC, evE, evB, evEs, evPs, evT, evTs, evI, frame0, asP, asQ, mbind_ap, bindO_ok, bindO_ite, ite_ap, mret_ap, mopt_some, lift0_ap, liftO_ok, take_val, peek_val, peek_own, peek_lck, take_own, mval_int, mval_str, mval_bl, mval_non, mval_tup, mval_lst, mval_fz, mval_dct, mresL_v, mvals, cLt, cLe, cGt, cGe, cEqI, cNeI, cEqB, cIs, cIsNot, tBo, tIn, tNo, tTu, tLi, xT, xL, xF, omap_some, f__law_is_saying, b__law_is_saying, isi_t H h, isi_t H hc, atD, ixD, h3, sayB, rowB, isT, itT, ge, this, bindT, bindTs, e_law_whole H HL, ha, hb, h1, h2]
          | true =>
            obtain ⟨k, rfl⟩ : ∃ s, b = .int s := by cases b <;> first | exact ⟨_, rfl⟩ | cases h2
            by_cases a1 : 1 ≤ s
            · by_cases a2 : s ≤ 9
              · by_cases b1 : 1 ≤ k
                · by_cases b2 : k ≤ 9
                  · by_cases g1 : (1 : Int) ≤ rooms.length
                    · by_cases g2 : (rooms.length : Int) ≤ 100
                      · have hrp := pls_mem (show pls rooms = true from hc)
                        have key := law_rooms H HL n S (.tup [.int s, .int k, .tup rooms]) s k rooms hrp
                        cases hall : rooms.all (roomB s k rooms.length) with
                        | true =>
                          rw [hall, if_pos rfl] at key
                          obtain ⟨ρ', e⟩ := key
                          simp [asL_ap, all_mapT, ln_tup, ln_lst, ln_fz, tu_lst, tu_tup, it_tup, it_lst, it_fz, sq_tup, sq_lst, bindT_v, lockF, lockS, wipeF, run_ap, outO_rt, outO_nx, outO_ite, evC, evE, evB, evEs, evPs, evT, evTs, evI, frame0, asP, asQ, mbind_ap, bindO_ok, bindO_ite, ite_ap, mret_ap, mopt_some, lift0_ap, liftO_ok, take_val, peek_val, peek_own, peek_lck, take_own, mval_int, mval_str, mval_bl, mval_non, mval_tup, mval_lst, mval_fz, mval_dct, mresL_v, mvals, cLt, cLe, cGt, cGe, cEqI, cNeI, cEqB, cIs, cIsNot, tBo, tIn, tNo, tTu, tLi, xT, xL, xF, omap_some, f__law_is_saying, b__law_is_saying, isi_t H h, isi_t H hc, atD, ixD, sayB, rowB, isT, itT, ge, inI, cntB, isI, bindT, bindTs, e_law_whole H HL, ha, hb, a1, a2, b1, b2, g1, g2, e, hall]
                        | false =>
                          rw [hall] at key
                          simp only [Bool.false_eq_true, if_false] at key
                          obtain ⟨ρ', e⟩ := key
                          simp [asL_ap, all_mapT, ln_tup, ln_lst, ln_fz, tu_lst, tu_tup, it_tup, it_lst, it_fz, sq_tup, sq_lst, bindT_v, lockF, lockS, wipeF, run_ap, outO_rt, outO_nx, outO_ite, evC, evE, evB, evEs, evPs, evT, evTs, evI, frame0, asP, asQ, mbind_ap, bindO_ok, bindO_ite, ite_ap, mret_ap, mopt_some, lift0_ap, liftO_ok, take_val, peek_val, peek_own, peek_lck, take_own, mval_int, mval_str, mval_bl, mval_non, mval_tup, mval_lst, mval_fz, mval_dct, mresL_v, mvals, cLt, cLe, cGt, cGe, cEqI, cNeI, cEqB, cIs, cIsNot, tBo, tIn, tNo, tTu, tLi, xT, xL, xF, omap_some, f__law_is_saying, b__law_is_saying, isi_t H h, isi_t H hc, atD, ixD, sayB, rowB, isT, itT, ge, inI, cntB, isI, bindT, bindTs, e_law_whole H HL, ha, hb, a1, a2, b1, b2, g1, g2, e, hall]
                      · simp [asL_ap, all_mapT, ln_tup, ln_lst, ln_fz, tu_lst, tu_tup, it_tup, it_lst, it_fz, sq_tup, sq_lst, bindT_v, lockF, lockS, wipeF, run_ap, outO_rt, outO_nx, outO_ite, evC, evE, evB, evEs, evPs, evT, evTs, evI, frame0, asP, asQ, mbind_ap, bindO_ok, bindO_ite, ite_ap, mret_ap, mopt_some, lift0_ap, liftO_ok, take_val, peek_val, peek_own, peek_lck, take_own, mval_int, mval_str, mval_bl, mval_non, mval_tup, mval_lst, mval_fz, mval_dct, mresL_v, mvals, cLt, cLe, cGt, cGe, cEqI, cNeI, cEqB, cIs, cIsNot, tBo, tIn, tNo, tTu, tLi, xT, xL, xF, omap_some, f__law_is_saying, b__law_is_saying, isi_t H h, isi_t H hc, atD, ixD, sayB, rowB, isT, itT, ge, inI, cntB, isI, bindT, bindTs, e_law_whole H HL, ha, hb, a1, a2, b1, b2, g1, g2]
                    · simp [asL_ap, all_mapT, ln_tup, ln_lst, ln_fz, tu_lst, tu_tup, it_tup, it_lst, it_fz, sq_tup, sq_lst, bindT_v, lockF, lockS, wipeF, run_ap, outO_rt, outO_nx, outO_ite, evC, evE, evB, evEs, evPs, evT, evTs, evI, frame0, asP, asQ, mbind_ap, bindO_ok, bindO_ite, ite_ap, mret_ap, mopt_some, lift0_ap, liftO_ok, take_val, peek_val, peek_own, peek_lck, take_own, mval_int, mval_str, mval_bl, mval_non, mval_tup, mval_lst, mval_fz, mval_dct, mresL_v, mvals, cLt, cLe, cGt, cGe, cEqI, cNeI, cEqB, cIs, cIsNot, tBo, tIn, tNo, tTu, tLi, xT, xL, xF, omap_some, f__law_is_saying, b__law_is_saying, isi_t H h, isi_t H hc, atD, ixD, sayB, rowB, isT, itT, ge, inI, cntB, isI, bindT, bindTs, e_law_whole H HL, ha, hb, a1, a2, b1, b2, g1]
                  · simp [asL_ap, all_mapT, ln_tup, ln_lst, ln_fz, tu_lst, tu_tup, it_tup, it_lst, it_fz, sq_tup, sq_lst, bindT_v, lockF, lockS, wipeF, run_ap, outO_rt, outO_nx, outO_ite, evC, evE, evB, evEs, evPs, evT, evTs, evI, frame0, asP, asQ, mbind_ap, bindO_ok, bindO_ite, ite_ap, mret_ap, mopt_some, lift0_ap, liftO_ok, take_val, peek_val, peek_own, peek_lck, take_own, mval_int, mval_str, mval_bl, mval_non, mval_tup, mval_lst, mval_fz, mval_dct, mresL_v, mvals, cLt, cLe, cGt, cGe, cEqI, cNeI, cEqB, cIs, cIsNot, tBo, tIn, tNo, tTu, tLi, xT, xL, xF, omap_some, f__law_is_saying, b__law_is_saying, isi_t H h, isi_t H hc, atD, ixD, sayB, rowB, isT, itT, ge, inI, cntB, isI, bindT, bindTs, e_law_whole H HL, ha, hb, a1, a2, b1, b2]
                · simp [asL_ap, all_mapT, ln_tup, ln_lst, ln_fz, tu_lst, tu_tup, it_tup, it_lst, it_fz, sq_tup, sq_lst, bindT_v, lockF, lockS, wipeF, run_ap, outO_rt, outO_nx, outO_ite, evC, evE, evB, evEs, evPs, evT, evTs, evI, frame0, asP, asQ, mbind_ap, bindO_ok, bindO_ite, ite_ap, mret_ap, mopt_some, lift0_ap, liftO_ok, take_val, peek_val, peek_own, peek_lck, take_own, mval_int, mval_str, mval_bl, mval_non, mval_tup, mval_lst, mval_fz, mval_dct, mresL_v, mvals, cLt, cLe, cGt, cGe, cEqI, cNeI, cEqB, cIs, cIsNot, tBo, tIn, tNo, tTu, tLi, xT, xL, xF, omap_some, f__law_is_saying, b__law_is_saying, isi_t H h, isi_t H hc, atD, ixD, sayB, rowB, isT, itT, ge, inI, cntB, isI, bindT, bindTs, e_law_whole H HL, ha, hb, a1, a2, b1]
              · simp [asL_ap, all_mapT, ln_tup, ln_lst, ln_fz, tu_lst, tu_tup, it_tup, it_lst, it_fz, sq_tup, sq_lst, bindT_v, lockF, lockS, wipeF, run_ap, outO_rt, outO_nx, outO_ite, evC, evE, evB, evEs, evPs, evT, evTs, evI, frame0, asP, asQ, mbind_ap, bindO_ok, bindO_ite, ite_ap, mret_ap, mopt_some, lift0_ap, liftO_ok, take_val, peek_val, peek_own, peek_lck, take_own, mval_int, mval_str, mval_bl, mval_non, mval_tup, mval_lst, mval_fz, mval_dct, mresL_v, mvals, cLt, cLe, cGt, cGe, cEqI, cNeI, cEqB, cIs, cIsNot, tBo, tIn, tNo, tTu, tLi, xT, xL, xF, omap_some, f__law_is_saying, b__law_is_saying, isi_t H h, isi_t H hc, atD, ixD, sayB, rowB, isT, itT, ge, inI, cntB, isI, bindT, bindTs, e_law_whole H HL, ha, hb, a1, a2]
            · simp [asL_ap, all_mapT, ln_tup, ln_lst, ln_fz, tu_lst, tu_tup, it_tup, it_lst, it_fz, sq_tup, sq_lst, bindT_v, lockF, lockS, wipeF, run_ap, outO_rt, outO_nx, outO_ite, evC, evE, evB, evEs, evPs, evT, evTs, evI, frame0, asP, asQ, mbind_ap, bindO_ok, bindO_ite, ite_ap, mret_ap, mopt_some, lift0_ap, liftO_ok, take_val, peek_val, peek_own, peek_lck, take_own, mval_int, mval_str, mval_bl, mval_non, mval_tup, mval_lst, mval_fz, mval_dct, mresL_v, mvals, cLt, cLe, cGt, cGe, cEqI, cNeI, cEqB, cIs, cIsNot, tBo, tIn, tNo, tTu, tLi, xT, xL, xF, omap_some, f__law_is_saying, b__law_is_saying, isi_t H h, isi_t H hc, atD, ixD, sayB, rowB, isT, itT, ge, inI, cntB, isI, bindT, bindTs, e_law_whole H HL, ha, hb, a1]
    · simp [asL_ap, all_mapT, ln_tup, ln_lst, ln_fz, tu_lst, tu_tup, it_tup, it_lst, it_fz, sq_tup, sq_lst, bindT_v, lockF, lockS, wipeF, run_ap, outO_rt, outO_nx, outO_ite, evC, evE, evB, evEs, evPs, evT, evTs, evI, frame0, asP, asQ, mbind_ap, bindO_ok, bindO_ite, ite_ap, mret_ap, mopt_some, lift0_ap, liftO_ok, take_val, peek_val, peek_own, peek_lck, take_own, mval_int, mval_str, mval_bl, mval_non, mval_tup, mval_lst, mval_fz, mval_dct, mresL_v, mvals, cLt, cLe, cGt, cGe, cEqI, cNeI, cEqB, cIs, cIsNot, tBo, tIn, tNo, tTu, tLi, xT, xL, xF, omap_some, f__law_is_saying, b__law_is_saying, isi_t H h, atD, ixD, hl, sayB, rowB, isT, itT]
end
end SH

namespace SH
open PySem PySem.Spec MP
theorem ok0 : okLen 0 = true := rfl
theorem ok1 : okLen 1 = true := rfl
theorem ok2 : okLen 2 = true := rfl
theorem ok3 : okLen 3 = true := rfl
/-! ### pots -/
structure HP (Pg : Pgm) : Prop where
  pot : Find Pg f__law_pot
  take : Find Pg f__law_take
  room : Find Pg f__law_room
  saying : Find Pg f__law_saying
/-- a number below m -/
def Bel (m : Int) (d : D) : Prop := ∃ i : Int, d = .int i ∧ 0 ≤ i ∧ i < m
def Beh (m : Int) (d : D) : Prop := d = .non ∨ Bel m d
def Row (m : Int) (P : D → Prop) (d : D) : Prop := ∃ l : List D, d = .tup l ∧ (l.length : Int) = m ∧ ∀ x ∈ l, P x

/-- a saying -/
def Saying (d : D) : Prop := ∃ (s k : Int) (rooms : List D), d = .tup [.int s, .int k, .tup rooms] ∧ 1 ≤ s ∧ s ≤ 9 ∧ 1 ≤ k ∧ k ≤ 9 ∧ 1 ≤ rooms.length ∧ rooms.length ≤ 100 ∧ ∀ r ∈ rooms, Row s (Row k (Beh rooms.length)) r
theorem log_le {a : Int} {k : Nat} (h1 : 0 ≤ a) (h2 : a < 2 ^ k) : a.natAbs.log2 ≤ k := by
  by_cases h0 : a.natAbs = 0
  · rw [h0]; exact Nat.zero_le _
  · have e : (a.natAbs : Int) = a := Int.natAbs_of_nonneg h1
    have h3 : a.natAbs < 2 ^ k := by
      have : ((a.natAbs : Nat) : Int) < ((2 ^ k : Nat) : Int) := by rw [e]; simpa [asL_ap, fBinL_ap, fLst_ap, fFl_ap, fl_tup, fl_lst, all_mapT, ln_tup, ln_lst, ln_fz, tu_lst, tu_tup, it_tup, it_lst, it_fz, sq_tup, sq_lst, bindT_v, lockF, lockS, wipeF, run_ap, outO_rt, outO_nx, outO_ite, evC, evE, evB, evEs, evPs, evT, evTs, evI, evF, frame0, asP, asQ, mbind_ap, bindO_ok, bindO_ite, ite_ap, mret_ap, mopt_some, lift0_ap, liftO_ok, take_val, peek_val, peek_own, peek_lck, take_own, mval_int, mval_str, mval_bl, mval_non, mval_tup, mval_lst, mval_fz, mresL_v, mvals, cLt, cLe, cGt, cGe, cEqI, cNeI, cEqB, cIs, cIsNot, isNon, tBo, tIn, tNo, tTu, tLi, xT, xL, xF, omap_some, ok0, ok1, ok2, ok3] using h2
      exact_mod_cast this
    exact Nat.le_of_lt ((Nat.log2_lt h0).2 h3)
theorem bits_le {a : Int} {k : Nat} (h1 : 0 ≤ a) (h2 : a < 2 ^ k) : Builtin.Int.intBits a ≤ k + 1 := by
  have := log_le h1 h2
  unfold Builtin.Int.intBits
  split <;> omega
theorem bMul' {a b : Int} (h1 : 0 ≤ a) (h2 : a < 2 ^ 128) (h3 : 0 ≤ b) (h4 : b < 2 ^ 2048) : opBin .Mult (.int a) (.int b) = some (.int (a * b)) := by
  have := log_le h1 h2
  have := log_le h3 h4
  exact bMul (by omega)
theorem bPow' {a b : Int} (h1 : 0 ≤ a) (h2 : a < 2 ^ 128) (h3 : 0 ≤ b) (h4 : b ≤ 100) : opBin .Pow (.int a) (.int b) = some (.int (a ^ b.toNat)) := by
  have := bits_le h1 h2
  refine bPow h3 ?_
  have hb : (Builtin.Int.intBits a : Int) ≤ 129 := by omega
  calc (Builtin.Int.intBits a : Int) * b ≤ 129 * 100 := Int.mul_le_mul hb h4 h3 (by omega)
    _ ≤ _ := by decide
/-- a pot at place j, at most N takes past its numbers -/
def Pot (j N : Nat) (S : Store) : Prop := ∃ a b c : Int, S[j]? = some (.lst [.int a, .int b, .int c]) ∧ 0 ≤ a ∧ 0 ≤ b ∧ b < 2305843009213693951 ∧ 0 ≤ c ∧ c ≤ N
theorem Pot.mono {j N M : Nat} {S : Store} (h : Pot j N S) (hl : N ≤ M) : Pot j M S := by
  obtain ⟨a, b, c, e, h1, h2, h3, h4, h5⟩ := h
  exact ⟨a, b, c, e, h1, h2, h3, h4, by omega⟩
theorem set_get {S : Store} {j : Nat} {o o' : MO} (h : S[j]? = some o) : (S.set j o')[j]? = some o' := by
  obtain ⟨hl, _⟩ := List.getElem?_eq_some_iff.mp h
  rw [List.getElem?_set_self hl]
/-- the turns of a range -/
def R (k : Int) : List D := MP.intsFrom 0 k.toNat
theorem ints_len : ∀ (n : Nat) (a : Int), (MP.intsFrom a n).length = n
  | 0, _ => rfl
  | n + 1, a => by
    show (MP.intsFrom (a + 1) n).length + 1 = n + 1
    rw [ints_len n]
theorem ints_get : ∀ (n : Nat) (a : Int) (i : Nat) (d : D), (MP.intsFrom a n)[i]? = some d → d = .int (a + i) ∧ i < n
  | 0, _, i, d, h => by simp [asL_ap, fBinL_ap, fLst_ap, fFl_ap, fl_tup, fl_lst, all_mapT, ln_tup, ln_lst, ln_fz, tu_lst, tu_tup, it_tup, it_lst, it_fz, sq_tup, sq_lst, bindT_v, lockF, lockS, wipeF, run_ap, outO_rt, outO_nx, outO_ite, evC, evE, evB, evEs, evPs, evT, evTs, evI, evF, frame0, asP, asQ, mbind_ap, bindO_ok, bindO_ite, ite_ap, mret_ap, mopt_some, lift0_ap, liftO_ok, take_val, peek_val, peek_own, peek_lck, take_own, mval_int, mval_str, mval_bl, mval_non, mval_tup, mval_lst, mval_fz, mresL_v, mvals, cLt, cLe, cGt, cGe, cEqI, cNeI, cEqB, cIs, cIsNot, isNon, tBo, tIn, tNo, tTu, tLi, xT, xL, xF, omap_some, ok0, ok1, ok2, ok3, MP.intsFrom] at h
  | n + 1, a, 0, d, h => by
    have e : some (D.int a) = some d := h
    cases e
    exact ⟨by simp [asL_ap, fBinL_ap, fLst_ap, fFl_ap, fl_tup, fl_lst, all_mapT, ln_tup, ln_lst, ln_fz, tu_lst, tu_tup, it_tup, it_lst, it_fz, sq_tup, sq_lst, bindT_v, lockF, lockS, wipeF, run_ap, outO_rt, outO_nx, outO_ite, evC, evE, evB, evEs, evPs, evT, evTs, evI, evF, frame0, asP, asQ, mbind_ap, bindO_ok, bindO_ite, ite_ap, mret_ap, mopt_some, lift0_ap, liftO_ok, take_val, peek_val, peek_own, peek_lck, take_own, mval_int, mval_str, mval_bl, mval_non, mval_tup, mval_lst, mval_fz, mresL_v, mvals, cLt, cLe, cGt, cGe, cEqI, cNeI, cEqB, cIs, cIsNot, isNon, tBo, tIn, tNo, tTu, tLi, xT, xL, xF, omap_some, ok0, ok1, ok2, ok3], by omega⟩
  | n + 1, a, i + 1, d, h => by
    have h2 : (MP.intsFrom (a + 1) n)[i]? = some d := by simpa [asL_ap, fBinL_ap, fLst_ap, fFl_ap, fl_tup, fl_lst, all_mapT, ln_tup, ln_lst, ln_fz, tu_lst, tu_tup, it_tup, it_lst, it_fz, sq_tup, sq_lst, bindT_v, lockF, lockS, wipeF, run_ap, outO_rt, outO_nx, outO_ite, evC, evE, evB, evEs, evPs, evT, evTs, evI, evF, frame0, asP, asQ, mbind_ap, bindO_ok, bindO_ite, ite_ap, mret_ap, mopt_some, lift0_ap, liftO_ok, take_val, peek_val, peek_own, peek_lck, take_own, mval_int, mval_str, mval_bl, mval_non, mval_tup, mval_lst, mval_fz, mresL_v, mvals, cLt, cLe, cGt, cGe, cEqI, cNeI, cEqB, cIs, cIsNot, isNon, tBo, tIn, tNo, tTu, tLi, xT, xL, xF, omap_some, ok0, ok1, ok2, ok3, MP.intsFrom] using h
    obtain ⟨rfl, hl⟩ := ints_get n (a + 1) i d h2
    exact ⟨by congr 1; omega, by omega⟩
theorem R_len {k : Int} : (R k).length = k.toNat := ints_len _ _
theorem R_ok {k : Int} (h : 0 ≤ k) (h2 : k ≤ 100000) : rngD 0 k = some (R k) := by
  unfold rngD
  rw [if_pos (by simp [asL_ap, fBinL_ap, fLst_ap, fFl_ap, fl_tup, fl_lst, all_mapT, ln_tup, ln_lst, ln_fz, tu_lst, tu_tup, it_tup, it_lst, it_fz, sq_tup, sq_lst, bindT_v, lockF, lockS, wipeF, run_ap, outO_rt, outO_nx, outO_ite, evC, evE, evB, evEs, evPs, evT, evTs, evI, evF, frame0, asP, asQ, mbind_ap, bindO_ok, bindO_ite, ite_ap, mret_ap, mopt_some, lift0_ap, liftO_ok, take_val, peek_val, peek_own, peek_lck, take_own, mval_int, mval_str, mval_bl, mval_non, mval_tup, mval_lst, mval_fz, mresL_v, mvals, cLt, cLe, cGt, cGe, cEqI, cNeI, cEqB, cIs, cIsNot, isNon, tBo, tIn, tNo, tTu, tLi, xT, xL, xF, omap_some, ok0, ok1, ok2, ok3]; omega), R]
  simp [asL_ap, fBinL_ap, fLst_ap, fFl_ap, fl_tup, fl_lst, all_mapT, ln_tup, ln_lst, ln_fz, tu_lst, tu_tup, it_tup, it_lst, it_fz, sq_tup, sq_lst, bindT_v, lockF, lockS, wipeF, run_ap, outO_rt, outO_nx, outO_ite, evC, evE, evB, evEs, evPs, evT, evTs, evI, evF, frame0, asP, asQ, mbind_ap, bindO_ok, bindO_ite, ite_ap, mret_ap, mopt_some, lift0_ap, liftO_ok, take_val, peek_val, peek_own, peek_lck, take_own, mval_int, mval_str, mval_bl, mval_non, mval_tup, mval_lst, mval_fz, mresL_v, mvals, cLt, cLe, cGt, cGe, cEqI, cNeI, cEqB, cIs, cIsNot, isNon, tBo, tIn, tNo, tTu, tLi, xT, xL, xF, omap_some, ok0, ok1, ok2, ok3]
theorem R_get {k : Int} {i : Nat} {d : D} (h : (R k)[i]? = some d) : d = .int i ∧ (i : Int) < k := by
  obtain ⟨rfl, hl⟩ := ints_get _ _ _ _ h
  exact ⟨by congr 1; omega, by omega⟩
theorem iB {b : Bool} : opBl .int [.bl b] = some (.int (if b then 1 else 0)) := rfl
theorem oI {l : List D} {i : Int} : opIdx (.lst l) (.int i) = atD l i := rfl
theorem oF {l : List D} {i : Int} : opIdx (.fz l) (.int i) = atD l i := rfl
theorem aB {i : Int} : opBl .abs [.int i] = some (.int (if i < 0 then -i else i)) := rfl
theorem b_pot_place : True := trivial
def b_pot : C := (.seq (.ret (.new (.cons (.bin .Mult (.var 2) (.bl .int (.cons (.cmp .GtE (.var 2) (.bin .Pow (.cst (.int 10)) (.cst (.int 18)))) .nil))) (.cons (.bin .Mod (.bin .Pow (.bin .Add (.bin .Add (.bin .Mod (.var 2) (.cst (.int 2147483629))) (.bin .Mult (.cst (.int 7919)) (.var 1))) (.cst (.int 1))) (.cst (.int 5))) (.cst (.int 2305843009213693951))) (.cons (.cst (.int 0)) .nil))))) .skip)
theorem b_pot_eq : b__law_pot = (.seq (.set (.v 2) (.cst (.int 0))) (.seq (.ite (.cmp .Lt (.var 1) (.bl .len (.cons (.var 0) .nil))) (.seq (.set (.v 2) (.bin .Mod (.bl .abs (.cons (.idx (.var 0) (.var 1)) .nil)) (.bin .Pow (.bin .Pow (.cst (.int 10)) (.cst (.int 60))) (.cst (.int 10))))) .skip) .skip) b_pot)) := rfl
section
variable {Pg : Pgm} (H : HP Pg)
include H
theorem e_take (n : Nat) (j N : Nat) (m : Int) (S : Store) (hp : Pot j N S) (hN : N ≤ 10000000) (h1 : 1 ≤ m) (h2 : m ≤ 10000000) :
    ∃ v S', (callF Pg (n + 1)).f "_law_take" [.ref j, .int m] [] [] S = .ok (.int v) S' ∧ 0 ≤ v ∧ v < m ∧ Pot j (N + 1) S' := by
  obtain ⟨a, b, c, e, ha, hb, hb2, hc, hc2⟩ := hp
  have q0 := fun (ρ : Fr) => mval_ref (ρ := ρ) e
  have pm : 0 < m := by omega
  have em := fun (x : Int) => bMod (a := x) pm
  have ed := fun (x : Int) => bDiv (a := x) pm (by have := log_le (a := m) (k := 24) (by omega) (by omega); omega)
  rw [show ("_law_take" : Str) = f__law_take.name from rfl, F_eq H.take rfl rfl]
  by_cases h0 : 0 < a
  · refine ⟨a % m, S.set j (.lst [.int (a / m), .int b, .int c]), ?_, Int.emod_nonneg _ (by omega), Int.emod_lt_of_pos _ pm, a / m, b, c, set_get e, Int.ediv_nonneg ha (by omega), hb, hb2, hc, by omega⟩
    have cg := fun (ρ : Fr) => chg_ref (ρ := ρ) (f := putAt (.int 0) (.int (a / m))) e (o' := .lst [.int (a / m), .int b, .int c]) rfl
    simp [asL_ap, fBinL_ap, fLst_ap, fFl_ap, fl_tup, fl_lst, all_mapT, ln_tup, ln_lst, ln_fz, tu_lst, tu_tup, it_tup, it_lst, it_fz, sq_tup, sq_lst, bindT_v, lockF, lockS, wipeF, run_ap, outO_rt, outO_nx, outO_ite, evC, evE, evB, evEs, evPs, evT, evTs, evI, evF, frame0, asP, asQ, mbind_ap, bindO_ok, bindO_ite, ite_ap, mret_ap, mopt_some, lift0_ap, liftO_ok, take_val, peek_val, peek_own, peek_lck, take_own, mval_int, mval_str, mval_bl, mval_non, mval_tup, mval_lst, mval_fz, mresL_v, mvals, cLt, cLe, cGt, cGe, cEqI, cNeI, cEqB, cIs, cIsNot, isNon, tBo, tIn, tNo, tTu, tLi, xT, xL, xF, omap_some, ok0, ok1, ok2, ok3, f__law_take, b__law_take, q0, atD, ixD, h0, em, ed, cg]
  · have a0 : a = 0 := by omega
    subst a0
    have cg := fun (ρ : Fr) => chg_ref (ρ := ρ) (f := putAt (.int 2) (.int (c + 1))) e (o' := .lst [.int 0, .int b, .int (c + 1)]) rfl
    have e2 : (S.set j (.lst [.int 0, .int b, .int (c + 1)]))[j]? = some (.lst [.int 0, .int b, .int (c + 1)]) := set_get e
    have q1 := fun (ρ : Fr) => mval_ref (ρ := ρ) e2
    have m1 : opBin .Mult (.int 104729) (.int (c + 1)) = some (.int (104729 * (c + 1))) := bMul' (by omega) (by omega) (by omega) (by omega)
    have m2 : opBin .Mult (.int 31) (.int (c + 1)) = some (.int (31 * (c + 1))) := bMul' (by omega) (by omega) (by omega) (by omega)
    have p1 := bPow' (a := b + 104729 * (c + 1)) (b := 3) (by omega) (by omega) (by omega) (by omega)
    have d1 := fun (x : Int) => bMod (a := x) (b := 2305843009213693921) (by omega)
    have d2 := fun (x : Int) => bMod (a := x) (b := 65537) (by omega)
    have d3 := fun (x : Int) => bMod (a := x) (b := 2305843009213693907) (by omega)
    have d4 := fun (x : Int) => bDiv (a := x) (b := 1024) (by omega) (by decide)
    generalize hx : (b + 104729 * (c + 1)) ^ 3 % 2305843009213693921 = x
    have x1 : 0 ≤ x := by rw [← hx]; exact Int.emod_nonneg _ (by omega)
    have x2 : x < 2305843009213693921 := by rw [← hx]; exact Int.emod_lt_of_pos _ (by omega)
    have y1 : 0 ≤ b % 65537 := Int.emod_nonneg _ (by omega)
    have y2 : b % 65537 < 65537 := Int.emod_lt_of_pos _ (by omega)
    have p2 := bPow' (a := x + b % 65537 + 31 * (c + 1)) (b := 5) (by omega) (by omega) (by omega) (by omega)
    refine ⟨(x + b % 65537 + 31 * (c + 1)) ^ 5 % 2305843009213693907 / 1024 % m, S.set j (.lst [.int 0, .int b, .int (c + 1)]), ?_, Int.emod_nonneg _ (by omega), Int.emod_lt_of_pos _ pm, 0, b, c + 1, e2, by omega, hb, hb2, by omega, by omega⟩
    simp [asL_ap, fBinL_ap, fLst_ap, fFl_ap, fl_tup, fl_lst, all_mapT, ln_tup, ln_lst, ln_fz, tu_lst, tu_tup, it_tup, it_lst, it_fz, sq_tup, sq_lst, bindT_v, lockF, lockS, wipeF, run_ap, outO_rt, outO_nx, outO_ite, evC, evE, evB, evEs, evPs, evT, evTs, evI, evF, frame0, asP, asQ, mbind_ap, bindO_ok, bindO_ite, ite_ap, mret_ap, mopt_some, lift0_ap, liftO_ok, take_val, peek_val, peek_own, peek_lck, take_own, mval_int, mval_str, mval_bl, mval_non, mval_tup, mval_lst, mval_fz, mresL_v, mvals, cLt, cLe, cGt, cGe, cEqI, cNeI, cEqB, cIs, cIsNot, isNon, tBo, tIn, tNo, tTu, tLi, xT, xL, xF, omap_some, ok0, ok1, ok2, ok3, f__law_take, b__law_take, q0, atD, ixD, cg, q1, m1, m2, bAdd, p1, d1, d2, d3, d4, em, p2, hx] 
theorem e_room (n : Nat) (j N : Nat) (m q : Int) (S : Store) (hp : Pot j N S) (hN : N ≤ 9000000) (h1 : 1 ≤ m) (h2 : m ≤ 1000) (h3 : 1 ≤ q) (h4 : q ≤ 10000000) :
    ∃ v S', (callF Pg (n + 2)).f "_law_room" [.ref j, .int m, .int q] [] [] S = .ok v S' ∧ Beh m v ∧ Pot j (N + 2) S' := by
  rw [show ("_law_room" : Str) = f__law_room.name from rfl, F_eq H.room rfl rfl]
  obtain ⟨v, S1, e1, v1, v2, p1⟩ := e_take H n j N q S hp (by omega) h3 (by omega)
  by_cases h0 : v = 0
  · subst h0
    exact ⟨.non, S1, by simp [asL_ap, fBinL_ap, fLst_ap, fFl_ap, fl_tup, fl_lst, all_mapT, ln_tup, ln_lst, ln_fz, tu_lst, tu_tup, it_tup, it_lst, it_fz, sq_tup, sq_lst, bindT_v, lockF, lockS, wipeF, run_ap, outO_rt, outO_nx, outO_ite, evC, evE, evB, evEs, evPs, evT, evTs, evI, evF, frame0, asP, asQ, mbind_ap, bindO_ok, bindO_ite, ite_ap, mret_ap, mopt_some, lift0_ap, liftO_ok, take_val, peek_val, peek_own, peek_lck, take_own, mval_int, mval_str, mval_bl, mval_non, mval_tup, mval_lst, mval_fz, mresL_v, mvals, cLt, cLe, cGt, cGe, cEqI, cNeI, cEqB, cIs, cIsNot, isNon, tBo, tIn, tNo, tTu, tLi, xT, xL, xF, omap_some, ok0, ok1, ok2, ok3, f__law_room, b__law_room, e1], .inl rfl, p1.mono (by omega)⟩
  · obtain ⟨w, S2, e2, w1, w2, p2⟩ := e_take H n j (N + 1) m S1 p1 (by omega) h1 (by omega)
    exact ⟨.int w, S2, by simp [asL_ap, fBinL_ap, fLst_ap, fFl_ap, fl_tup, fl_lst, all_mapT, ln_tup, ln_lst, ln_fz, tu_lst, tu_tup, it_tup, it_lst, it_fz, sq_tup, sq_lst, bindT_v, lockF, lockS, wipeF, run_ap, outO_rt, outO_nx, outO_ite, evC, evE, evB, evEs, evPs, evT, evTs, evI, evF, frame0, asP, asQ, mbind_ap, bindO_ok, bindO_ite, ite_ap, mret_ap, mopt_some, lift0_ap, liftO_ok, take_val, peek_val, peek_own, peek_lck, take_own, mval_int, mval_str, mval_bl, mval_non, mval_tup, mval_lst, mval_fz, mresL_v, mvals, cLt, cLe, cGt, cGe, cEqI, cNeI, cEqB, cIs, cIsNot, isNon, tBo, tIn, tNo, tTu, tLi, xT, xL, xF, omap_some, ok0, ok1, ok2, ok3, f__law_room, b__law_room, e1, e2, h0], .inr ⟨w, rfl, w1, w2⟩, p2⟩
theorem e_gsaying (n : Nat) (j N : Nat) (s k m q : Int) (S : Store) (hp : Pot j N S) (hN : N ≤ 1000000) (h1 : 1 ≤ s) (h2 : s ≤ 9) (h3 : 1 ≤ k) (h4 : k ≤ 9) (h5 : 1 ≤ m) (h6 : m ≤ 100) (h7 : 1 ≤ q) (h8 : q ≤ 10000000) :
    ∃ v S', (callF Pg (n + 3)).f "_law_saying" [.ref j, .int s, .int k, .int m, .int q] [] [] S = .ok v S' ∧ Saying v ∧ Pot j (N + 20000) S' := by
  rw [show ("_law_saying" : Str) = f__law_saying.name from rfl, F_eq H.saying rfl rfl]
  have rm := R_ok (k := m) (by omega) (by omega)
  have rs := R_ok (k := s) (by omega) (by omega)
  have rk := R_ok (k := k) (by omega) (by omega)
  have key := for_inv (t := .v 6) (b := evC (callF Pg (n + 2)) Pg.sub b__law_saying_2) (l := R m) (ρ := [.val (.ref j), .val (.int s), .val (.int k), .val (.int m), .val (.int q), .own (.lst []), .none, .none, .none]) (S := S)
    (P := fun i ρ S' => ∃ acc a, ρ = [.val (.ref j), .val (.int s), .val (.int k), .val (.int m), .val (.int q), .own (.lst acc), a, .none, .none] ∧ acc.length = i ∧ (∀ r ∈ acc, Row s (Row k (Beh m)) r) ∧ Pot j (N + 200 * i) S') ⟨[], _, rfl, rfl, by simp [asL_ap, fBinL_ap, fLst_ap, fFl_ap, fl_tup, fl_lst, all_mapT, ln_tup, ln_lst, ln_fz, tu_lst, tu_tup, it_tup, it_lst, it_fz, sq_tup, sq_lst, bindT_v, lockF, lockS, wipeF, run_ap, outO_rt, outO_nx, outO_ite, evC, evE, evB, evEs, evPs, evT, evTs, evI, evF, frame0, asP, asQ, mbind_ap, bindO_ok, bindO_ite, ite_ap, mret_ap, mopt_some, lift0_ap, liftO_ok, take_val, peek_val, peek_own, peek_lck, take_own, mval_int, mval_str, mval_bl, mval_non, mval_tup, mval_lst, mval_fz, mresL_v, mvals, cLt, cLe, cGt, cGe, cEqI, cNeI, cEqB, cIs, cIsNot, isNon, tBo, tIn, tNo, tTu, tLi, xT, xL, xF, omap_some, ok0, ok1, ok2, ok3], hp⟩ ?_
  · obtain ⟨ρ', S', e, acc, a, rfl, hl, hr, hp'⟩ := key
    rw [R_len] at hl hp'
    refine ⟨.tup [.int s, .int k, .tup acc], S', ?_, ⟨s, k, acc, rfl, h1, h2, h3, h4, by omega, by omega, fun r hr' => ?_⟩, hp'.mono (by omega)⟩
    · simp [asL_ap, fBinL_ap, fLst_ap, fFl_ap, fl_tup, fl_lst, all_mapT, ln_tup, ln_lst, ln_fz, tu_lst, tu_tup, it_tup, it_lst, it_fz, sq_tup, sq_lst, bindT_v, lockF, lockS, wipeF, run_ap, outO_rt, outO_nx, outO_ite, evC, evE, evB, evEs, evPs, evT, evTs, evI, evF, frame0, asP, asQ, mbind_ap, bindO_ok, bindO_ite, ite_ap, mret_ap, mopt_some, lift0_ap, liftO_ok, take_val, peek_val, peek_own, peek_lck, take_own, mval_int, mval_str, mval_bl, mval_non, mval_tup, mval_lst, mval_fz, mresL_v, mvals, cLt, cLe, cGt, cGe, cEqI, cNeI, cEqB, cIs, cIsNot, isNon, tBo, tIn, tNo, tTu, tLi, xT, xL, xF, omap_some, ok0, ok1, ok2, ok3, f__law_saying, b__law_saying, rm, e, mval_own]
    · have e : ((acc.length : Nat) : Int) = m := by omega
      rw [e]
      exact hr r hr'
  · rintro i d ρ S hd ⟨acc, a, rfl, hl, hr, hp⟩
    obtain ⟨rfl, hi⟩ := R_get hd
    have key := lc_inv (cl := callF Pg (n + 2)) (sub := Pg.sub) (t := .v 8) (own := [8]) (it := .rng1 (.var 1)) (e := .bl .tuple (.cons (.lc c__law_saying_0) .nil)) (ρ := [.val (.ref j), .val (.int s), .val (.int k), .val (.int m), .val (.int q), .own (.lst acc), .val (.int i), .none, .none]) (S := S) (l := R s)
      (fun g S => Pot j (N + 200 * i + 20 * g) S) (fun w x => Row k (Beh m) x) (by simp [asL_ap, fBinL_ap, fLst_ap, fFl_ap, fl_tup, fl_lst, all_mapT, ln_tup, ln_lst, ln_fz, tu_lst, tu_tup, it_tup, it_lst, it_fz, sq_tup, sq_lst, bindT_v, lockF, lockS, wipeF, run_ap, outO_rt, outO_nx, outO_ite, evC, evE, evB, evEs, evPs, evT, evTs, evI, evF, frame0, asP, asQ, mbind_ap, bindO_ok, bindO_ite, ite_ap, mret_ap, mopt_some, lift0_ap, liftO_ok, take_val, peek_val, peek_own, peek_lck, take_own, mval_int, mval_str, mval_bl, mval_non, mval_tup, mval_lst, mval_fz, mresL_v, mvals, cLt, cLe, cGt, cGe, cEqI, cNeI, cEqB, cIs, cIsNot, isNon, tBo, tIn, tNo, tTu, tLi, xT, xL, xF, omap_some, ok0, ok1, ok2, ok3, rs]) hp ?_ (by rw [R_len]; omega)
    · obtain ⟨rs, S2, e2, l2, q2, p2⟩ := key
      rw [R_len] at l2 p2
      refine ⟨[.val (.ref j), .val (.int s), .val (.int k), .val (.int m), .val (.int q), .own (.lst (acc ++ [.tup rs])), .val (.int i), .none, .none], S2, .nx, ?_, .inl rfl, acc ++ [.tup rs], _, rfl, by simp [asL_ap, fBinL_ap, fLst_ap, fFl_ap, fl_tup, fl_lst, all_mapT, ln_tup, ln_lst, ln_fz, tu_lst, tu_tup, it_tup, it_lst, it_fz, sq_tup, sq_lst, bindT_v, lockF, lockS, wipeF, run_ap, outO_rt, outO_nx, outO_ite, evC, evE, evB, evEs, evPs, evT, evTs, evI, evF, frame0, asP, asQ, mbind_ap, bindO_ok, bindO_ite, ite_ap, mret_ap, mopt_some, lift0_ap, liftO_ok, take_val, peek_val, peek_own, peek_lck, take_own, mval_int, mval_str, mval_bl, mval_non, mval_tup, mval_lst, mval_fz, mresL_v, mvals, cLt, cLe, cGt, cGe, cEqI, cNeI, cEqB, cIs, cIsNot, isNon, tBo, tIn, tNo, tTu, tLi, xT, xL, xF, omap_some, ok0, ok1, ok2, ok3, hl], ?_, p2.mono (by omega)⟩
      · have ca := addTo_ok (l := acc) (l' := [D.tup rs]) (by simp [asL_ap, fBinL_ap, fLst_ap, fFl_ap, fl_tup, fl_lst, all_mapT, ln_tup, ln_lst, ln_fz, tu_lst, tu_tup, it_tup, it_lst, it_fz, sq_tup, sq_lst, bindT_v, lockF, lockS, wipeF, run_ap, outO_rt, outO_nx, outO_ite, evC, evE, evB, evEs, evPs, evT, evTs, evI, evF, frame0, asP, asQ, mbind_ap, bindO_ok, bindO_ite, ite_ap, mret_ap, mopt_some, lift0_ap, liftO_ok, take_val, peek_val, peek_own, peek_lck, take_own, mval_int, mval_str, mval_bl, mval_non, mval_tup, mval_lst, mval_fz, mresL_v, mvals, cLt, cLe, cGt, cGe, cEqI, cNeI, cEqB, cIs, cIsNot, isNon, tBo, tIn, tNo, tTu, tLi, xT, xL, xF, omap_some, ok0, ok1, ok2, ok3]; omega)
        have cg := fun (ρ : Fr) (S : Store) (h : ρ[5]? = some (.own (.lst acc))) => chg_own (S := S) h ca
        simp [asL_ap, fBinL_ap, fLst_ap, fFl_ap, fl_tup, fl_lst, all_mapT, ln_tup, ln_lst, ln_fz, tu_lst, tu_tup, it_tup, it_lst, it_fz, sq_tup, sq_lst, bindT_v, lockF, lockS, wipeF, run_ap, outO_rt, outO_nx, outO_ite, evC, evE, evB, evEs, evPs, evT, evTs, evI, evF, frame0, asP, asQ, mbind_ap, bindO_ok, bindO_ite, ite_ap, mret_ap, mopt_some, lift0_ap, liftO_ok, take_val, peek_val, peek_own, peek_lck, take_own, mval_int, mval_str, mval_bl, mval_non, mval_tup, mval_lst, mval_fz, mresL_v, mvals, cLt, cLe, cGt, cGe, cEqI, cNeI, cEqB, cIs, cIsNot, isNon, tBo, tIn, tNo, tTu, tLi, xT, xL, xF, omap_some, ok0, ok1, ok2, ok3, b__law_saying_2, c__law_saying_1, e2, cg, mval_own]
      · intro r hr'
        rcases List.mem_append.mp hr' with hr' | hr'
        · exact hr r hr'
        · rw [List.mem_singleton.mp hr']
          exact ⟨rs, rfl, by omega, fun x hx => by
            obtain ⟨g, hg⟩ := List.getElem?_of_mem hx
            exact q2 g x hg⟩
    · intro g d S hd hp
      obtain ⟨rfl, hg⟩ := R_get hd
      have key := lc_inv (cl := callF Pg (n + 2)) (sub := Pg.sub) (t := .v 7) (own := [7]) (it := .rng1 (.var 2)) (e := .call "_law_room" (.cons (.var 0) (.cons (.var 3) (.cons (.var 4) .nil))) [] .nil) (ρ := [.val (.ref j), .val (.int s), .val (.int k), .val (.int m), .val (.int q), .lck (.lst acc), .val (.int i), .none, .val (.int g)]) (S := S) (l := R k)
        (fun w S => Pot j (N + 200 * i + 20 * g + 2 * w) S) (fun w x => Beh m x) (by simp [asL_ap, fBinL_ap, fLst_ap, fFl_ap, fl_tup, fl_lst, all_mapT, ln_tup, ln_lst, ln_fz, tu_lst, tu_tup, it_tup, it_lst, it_fz, sq_tup, sq_lst, bindT_v, lockF, lockS, wipeF, run_ap, outO_rt, outO_nx, outO_ite, evC, evE, evB, evEs, evPs, evT, evTs, evI, evF, frame0, asP, asQ, mbind_ap, bindO_ok, bindO_ite, ite_ap, mret_ap, mopt_some, lift0_ap, liftO_ok, take_val, peek_val, peek_own, peek_lck, take_own, mval_int, mval_str, mval_bl, mval_non, mval_tup, mval_lst, mval_fz, mresL_v, mvals, cLt, cLe, cGt, cGe, cEqI, cNeI, cEqB, cIs, cIsNot, isNon, tBo, tIn, tNo, tTu, tLi, xT, xL, xF, omap_some, ok0, ok1, ok2, ok3, rk]) hp ?_ (by rw [R_len]; omega)
      · obtain ⟨rs, S2, e2, l2, q2, p2⟩ := key
        rw [R_len] at l2 p2
        exact ⟨.tup rs, [.val (.ref j), .val (.int s), .val (.int k), .val (.int m), .val (.int q), .lck (.lst acc), .val (.int i), .none, .val (.int g)], S2, by simp [asL_ap, fBinL_ap, fLst_ap, fFl_ap, fl_tup, fl_lst, all_mapT, ln_tup, ln_lst, ln_fz, tu_lst, tu_tup, it_tup, it_lst, it_fz, sq_tup, sq_lst, bindT_v, lockF, lockS, wipeF, run_ap, outO_rt, outO_nx, outO_ite, evC, evE, evB, evEs, evPs, evT, evTs, evI, evF, frame0, asP, asQ, mbind_ap, bindO_ok, bindO_ite, ite_ap, mret_ap, mopt_some, lift0_ap, liftO_ok, take_val, peek_val, peek_own, peek_lck, take_own, mval_int, mval_str, mval_bl, mval_non, mval_tup, mval_lst, mval_fz, mresL_v, mvals, cLt, cLe, cGt, cGe, cEqI, cNeI, cEqB, cIs, cIsNot, isNon, tBo, tIn, tNo, tTu, tLi, xT, xL, xF, omap_some, ok0, ok1, ok2, ok3, c__law_saying_0, e2], ⟨rs, rfl, by omega, fun x hx => by
            obtain ⟨g, hg⟩ := List.getElem?_of_mem hx
            exact q2 g x hg⟩, p2.mono (by omega)⟩
      · intro w d S hd hp
        obtain ⟨rfl, hw⟩ := R_get hd
        obtain ⟨x, S2, e2, q2, p2⟩ := e_room H n j _ m q S hp (by omega) h5 (by omega) h7 (by omega)
        exact ⟨x, [.val (.ref j), .val (.int s), .val (.int k), .val (.int m), .val (.int q), .lck (.lst acc), .val (.int i), .val (.int w), .val (.int g)], S2, by simp [asL_ap, fBinL_ap, fLst_ap, fFl_ap, fl_tup, fl_lst, all_mapT, ln_tup, ln_lst, ln_fz, tu_lst, tu_tup, it_tup, it_lst, it_fz, sq_tup, sq_lst, bindT_v, lockF, lockS, wipeF, run_ap, outO_rt, outO_nx, outO_ite, evC, evE, evB, evEs, evPs, evT, evTs, evI, evF, frame0, asP, asQ, mbind_ap, bindO_ok, bindO_ite, ite_ap, mret_ap, mopt_some, lift0_ap, liftO_ok, take_val, peek_val, peek_own, peek_lck, take_own, mval_int, mval_str, mval_bl, mval_non, mval_tup, mval_lst, mval_fz, mresL_v, mvals, cLt, cLe, cGt, cGe, cEqI, cNeI, cEqB, cIs, cIsNot, isNon, tBo, tIn, tNo, tTu, tLi, xT, xL, xF, omap_some, ok0, ok1, ok2, ok3, e2], q2, p2.mono (by omega)⟩
theorem pot_aux (L M T : Int) (p0 : opBin .Pow (.int 10) (.int 60) = some (.int L)) (p1 : opBin .Pow (.int L) (.int 10) = some (.int M)) (p2 : opBin .Pow (.int 10) (.int 18) = some (.int T)) (M0 : 0 < M) (ML : ∀ x : Int, 0 ≤ x → x < M → x.natAbs.log2 ≤ 2048) (n : Nat) (ns : List Int) (k : Nat) (S : Store) (hk : k ≤ 1000) :
    ∃ S', (callF Pg (n + 1)).f "_law_pot" [.fz (ns.map D.int), .int k] [] [] S = .ok (.ref S.length) S' ∧ Pot S.length 0 S' := by
  rw [show ("_law_pot" : Str) = f__law_pot.name from rfl, F_eq H.pot rfl rfl]
  have m1 : opBin .Mult (.int 7919) (.int k) = some (.int (7919 * k)) := bMul' (by omega) (by omega) (by omega) (by omega)
  have md := fun (x : Int) => bMod (a := x) (b := 2147483629) (by omega)
  have md2 := fun (x : Int) => bMod (a := x) (b := 2305843009213693951) (by omega)
  have core : ∀ x : Int, opBin .Pow (.int (x % 2147483629 + 7919 * k + 1)) (.int 5) = some (.int ((x % 2147483629 + 7919 * k + 1) ^ 5)) := fun x => by
    have := Int.emod_nonneg x (b := 2147483629) (by omega)
    have := Int.emod_lt_of_pos x (b := 2147483629) (by omega)
    exact bPow' (by omega) (by omega) (by omega) (by omega)
  have fin : ∀ x a : Int, 0 ≤ a → Pot S.length 0 (S ++ [.lst [.int a, .int ((x % 2147483629 + 7919 * k + 1) ^ 5 % 2305843009213693951), .int 0]]) := fun x a ha =>
    ⟨a, (x % 2147483629 + 7919 * k + 1) ^ 5 % 2305843009213693951, 0, by simp [asL_ap, fBinL_ap, fLst_ap, fFl_ap, fl_tup, fl_lst, all_mapT, ln_tup, ln_lst, ln_fz, tu_lst, tu_tup, it_tup, it_lst, it_fz, sq_tup, sq_lst, bindT_v, lockF, lockS, wipeF, run_ap, outO_rt, outO_nx, outO_ite, evC, evE, evB, evEs, evPs, evT, evTs, evI, evF, frame0, asP, asQ, mbind_ap, bindO_ok, bindO_ite, ite_ap, mret_ap, mopt_some, lift0_ap, liftO_ok, take_val, peek_val, peek_own, peek_lck, take_own, mval_int, mval_str, mval_bl, mval_non, mval_tup, mval_lst, mval_fz, mresL_v, mvals, cLt, cLe, cGt, cGe, cEqI, cNeI, cEqB, cIs, cIsNot, isNon, tBo, tIn, tNo, tTu, tLi, xT, xL, xF, omap_some, ok0, ok1, ok2, ok3], ha, Int.emod_nonneg _ (by omega), Int.emod_lt_of_pos _ (by omega), by omega, by omega⟩
  have mM := fun (x : Int) => bMod (a := x) M0
  have mu : ∀ x : Int, 0 ≤ x → x < M → opBin .Mult (.int x) (.int (if T ≤ x then 1 else 0)) = some (.int (x * (if T ≤ x then 1 else 0))) := fun x h1 h2 => by
    have := ML x h1 h2
    have : (if T ≤ x then (1 : Int) else 0).natAbs.log2 ≤ 1 := by split <;> decide
    exact bMul (by omega)
  have mu2 : ∀ x : Int, 0 ≤ x → 0 ≤ x * (if T ≤ x then 1 else 0) := fun x h => by split <;> omega
  have tl : ∀ (y : D) (x : Int), 0 ≤ x → x < M → ∃ ρ' S', evC (callF Pg n) Pg.sub b_pot [.val y, .val (.int k), .val (.int x)] S = .ok (.rt (.ref S.length)) ρ' S' ∧ Pot S.length 0 S' := fun y x w1 w2 =>
    ⟨[.val y, .val (.int k), .val (.int x)], S ++ [.lst [.int (x * if T ≤ x then 1 else 0), .int ((x % 2147483629 + 7919 * k + 1) ^ 5 % 2305843009213693951), .int 0]], by simp [asL_ap, fBinL_ap, fLst_ap, fFl_ap, fl_tup, fl_lst, all_mapT, ln_tup, ln_lst, ln_fz, tu_lst, tu_tup, it_tup, it_lst, it_fz, sq_tup, sq_lst, bindT_v, lockF, lockS, wipeF, run_ap, outO_rt, outO_nx, outO_ite, evC, evE, evB, evEs, evPs, evT, evTs, evI, evF, frame0, asP, asQ, mbind_ap, bindO_ok, bindO_ite, ite_ap, mret_ap, mopt_some, lift0_ap, liftO_ok, take_val, peek_val, peek_own, peek_lck, take_own, mval_int, mval_str, mval_bl, mval_non, mval_tup, mval_lst, mval_fz, mresL_v, mvals, cLt, cLe, cGt, cGe, cEqI, cNeI, cEqB, cIs, cIsNot, isNon, tBo, tIn, tNo, tTu, tLi, xT, xL, xF, omap_some, ok0, ok1, ok2, ok3, b_pot, p2, mu _ w1 w2, m1, md, md2, core, iB, bAdd], fin x _ (mu2 _ w1)⟩
  by_cases h : k < ns.length
  · have hx : ∃ x, ns[k]? = some x := ⟨ns[k], List.getElem?_eq_getElem h⟩
    obtain ⟨x, hx⟩ := hx
    have at' : atD (ns.map D.int) k = some (.int x) := by
      unfold atD ixD
      simp [asL_ap, fBinL_ap, fLst_ap, fFl_ap, fl_tup, fl_lst, all_mapT, ln_tup, ln_lst, ln_fz, tu_lst, tu_tup, it_tup, it_lst, it_fz, sq_tup, sq_lst, bindT_v, lockF, lockS, wipeF, run_ap, outO_rt, outO_nx, outO_ite, evC, evE, evB, evEs, evPs, evT, evTs, evI, evF, frame0, asP, asQ, mbind_ap, bindO_ok, bindO_ite, ite_ap, mret_ap, mopt_some, lift0_ap, liftO_ok, take_val, peek_val, peek_own, peek_lck, take_own, mval_int, mval_str, mval_bl, mval_non, mval_tup, mval_lst, mval_fz, mresL_v, mvals, cLt, cLe, cGt, cGe, cEqI, cNeI, cEqB, cIs, cIsNot, isNon, tBo, tIn, tNo, tTu, tLi, xT, xL, xF, omap_some, ok0, ok1, ok2, ok3, h, (List.getElem?_eq_some_iff.mp hx).2]
    have w1 := Int.emod_nonneg (if x < 0 then -x else x) (b := M) (by omega)
    have w2 := Int.emod_lt_of_pos (if x < 0 then -x else x) M0
    generalize hw : (if x < 0 then -x else x) = w at *
    have a1 : opBl .abs [.int x] = some (.int w) := by rw [aB, hw]
    obtain ⟨ρ', S', e, p⟩ := tl (.fz (ns.map D.int)) (w % M) w1 w2
    exact ⟨S', by simp [asL_ap, fBinL_ap, fLst_ap, fFl_ap, fl_tup, fl_lst, all_mapT, ln_tup, ln_lst, ln_fz, tu_lst, tu_tup, it_tup, it_lst, it_fz, sq_tup, sq_lst, bindT_v, lockF, lockS, wipeF, run_ap, outO_rt, outO_nx, outO_ite, evC, evE, evB, evEs, evPs, evT, evTs, evI, evF, frame0, asP, asQ, mbind_ap, bindO_ok, bindO_ite, ite_ap, mret_ap, mopt_some, lift0_ap, liftO_ok, take_val, peek_val, peek_own, peek_lck, take_own, mval_int, mval_str, mval_bl, mval_non, mval_tup, mval_lst, mval_fz, mresL_v, mvals, cLt, cLe, cGt, cGe, cEqI, cNeI, cEqB, cIs, cIsNot, isNon, tBo, tIn, tNo, tTu, tLi, xT, xL, xF, omap_some, ok0, ok1, ok2, ok3, f__law_pot, b_pot_eq, h, at', a1, oF, p0, p1, mM, e], p⟩
  · obtain ⟨ρ', S', e, p⟩ := tl (.fz (ns.map D.int)) 0 (by omega) M0
    exact ⟨S', by simp [asL_ap, fBinL_ap, fLst_ap, fFl_ap, fl_tup, fl_lst, all_mapT, ln_tup, ln_lst, ln_fz, tu_lst, tu_tup, it_tup, it_lst, it_fz, sq_tup, sq_lst, bindT_v, lockF, lockS, wipeF, run_ap, outO_rt, outO_nx, outO_ite, evC, evE, evB, evEs, evPs, evT, evTs, evI, evF, frame0, asP, asQ, mbind_ap, bindO_ok, bindO_ite, ite_ap, mret_ap, mopt_some, lift0_ap, liftO_ok, take_val, peek_val, peek_own, peek_lck, take_own, mval_int, mval_str, mval_bl, mval_non, mval_tup, mval_lst, mval_fz, mresL_v, mvals, cLt, cLe, cGt, cGe, cEqI, cNeI, cEqB, cIs, cIsNot, isNon, tBo, tIn, tNo, tTu, tLi, xT, xL, xF, omap_some, ok0, ok1, ok2, ok3, f__law_pot, b_pot_eq, h, e], p⟩
theorem e_pot (n : Nat) (ns : List Int) (k : Nat) (S : Store) (hk : k ≤ 1000) :
    ∃ S', (callF Pg (n + 1)).f "_law_pot" [.fz (ns.map D.int), .int k] [] [] S = .ok (.ref S.length) S' ∧ Pot S.length 0 S' :=
  pot_aux H (10 ^ 60) (10 ^ 600) (10 ^ 18) (by kernel_rfl) (by kernel_rfl) (by kernel_rfl) (by decide +kernel) (fun x h1 h2 => log_le h1 (Int.lt_trans h2 (by decide +kernel))) n ns k S hk
end
end SH

namespace SH
open PySem PySem.Spec MP
structure HO (Pg : Pgm) : Prop where
  same : Find Pg f__law_same
  other : Find Pg f__law_other
mutual
/-- what is compared by _law_same -/
def sq : D → Bool
  | .non | .bl _ | .int _ => true
  | .str _ => true
  | .tup l => sqs l && okLen l.length
  | _ => false
def sqs : List D → Bool
  | [] => true
  | d :: r => sq d && sqs r
end
theorem sqs_mem : ∀ {l : List D}, sqs l = true → ∀ x ∈ l, sq x = true
  | [], _, x, h => by cases h
  | d :: r, hp, x, h => by
    obtain ⟨h1, h2⟩ := Bool.and_eq_true_iff.mp (show (sq d && sqs r) = true from hp)
    rcases List.mem_cons.mp h with h | h
    · rw [h]; exact h1
    · exact sqs_mem h2 x h
theorem sqs_of : ∀ {l : List D}, (∀ x ∈ l, sq x = true) → sqs l = true
  | [], _ => rfl
  | d :: r, h => Bool.and_eq_true_iff.mpr ⟨h d List.mem_cons_self, sqs_of fun x hx => h x (List.mem_cons_of_mem _ hx)⟩
theorem deps_mem : ∀ {l : List D} {x : D}, x ∈ l → dep x ≤ deps l
  | d :: r, x, h => by
    show dep x ≤ max (dep d) (deps r)
    rcases List.mem_cons.mp h with h | h
    · rw [h]; omega
    · have := deps_mem h; omega
theorem deps_le : ∀ {l : List D} {m : Nat}, (∀ x ∈ l, dep x ≤ m) → deps l ≤ m
  | [], m, _ => Nat.zero_le _
  | d :: r, m, h => by
    show max (dep d) (deps r) ≤ m
    have h1 := h d List.mem_cons_self
    have h2 := deps_le (l := r) fun x hx => h x (List.mem_cons_of_mem _ hx)
    omega
theorem zip_mem : ∀ {l : List D} {d : D}, d ∈ zipD l l → ∃ x ∈ l, d = .tup [x, x]
  | [], d, h => by cases h
  | x :: l, d, h => by
    have h : d ∈ D.tup [x, x] :: zipD l l := h
    rcases List.mem_cons.mp h with h | h
    · exact ⟨x, List.mem_cons_self, h⟩
    · obtain ⟨y, hy, e⟩ := zip_mem h
      exact ⟨y, List.mem_cons_of_mem _ hy, e⟩
theorem zip_len : ∀ l : List D, (zipD l l).length = l.length
  | [] => rfl
  | x :: l => congrArg Nat.succ (zip_len l)
theorem zO {l : List D} : zipO (.tup l) (.tup l) = some (zipD l l) := rfl
theorem eqS {x : Str} : opCmp .Eq (.str x) (.str x) = some true := by
  show some (x.cps.toList == x.cps.toList) = _
  rw [beq_self_eq_true]
section
variable {Pg : Pgm} (H : HO Pg)
include H
theorem e_same : ∀ (m n : Nat) (d : D) (S : Store), sq d = true → dep d ≤ m → (callF Pg (n + m + 1)).f "_law_same" [d, d] [] [] S = .ok (.bl true) S
  | m, n, .non, S, _, _ => by
    rw [show ("_law_same" : Str) = f__law_same.name from rfl, F_eq H.same rfl rfl]
    simp [asL_ap, fBinL_ap, fLst_ap, fFl_ap, fl_tup, fl_lst, all_mapT, ln_tup, ln_lst, ln_fz, tu_lst, tu_tup, it_tup, it_lst, it_fz, sq_tup, sq_lst, bindT_v, lockF, lockS, wipeF, run_ap, outO_rt, outO_nx, outO_ite, evC, evE, evB, evEs, evPs, evT, evTs, evI, evF, frame0, asP, asQ, mbind_ap, bindO_ok, bindO_ite, ite_ap, mret_ap, mopt_some, lift0_ap, liftO_ok, take_val, peek_val, peek_own, peek_lck, take_own, mval_int, mval_str, mval_bl, mval_non, mval_tup, mval_lst, mval_fz, mval_dct, mresL_v, mvals, cLt, cLe, cGt, cGe, cEqI, cNeI, cEqB, cIs, cIsNot, isNon, tBo, tIn, tNo, tTu, tLi, xT, xL, xF, omap_some, ok0, ok1, ok2, ok3, f__law_same, b__law_same, isiAny, isiD]
  | m, n, .bl b, S, _, _ => by
    rw [show ("_law_same" : Str) = f__law_same.name from rfl, F_eq H.same rfl rfl]
    simp [asL_ap, fBinL_ap, fLst_ap, fFl_ap, fl_tup, fl_lst, all_mapT, ln_tup, ln_lst, ln_fz, tu_lst, tu_tup, it_tup, it_lst, it_fz, sq_tup, sq_lst, bindT_v, lockF, lockS, wipeF, run_ap, outO_rt, outO_nx, outO_ite, evC, evE, evB, evEs, evPs, evT, evTs, evI, evF, frame0, asP, asQ, mbind_ap, bindO_ok, bindO_ite, ite_ap, mret_ap, mopt_some, lift0_ap, liftO_ok, take_val, peek_val, peek_own, peek_lck, take_own, mval_int, mval_str, mval_bl, mval_non, mval_tup, mval_lst, mval_fz, mval_dct, mresL_v, mvals, cLt, cLe, cGt, cGe, cEqI, cNeI, cEqB, cIs, cIsNot, isNon, tBo, tIn, tNo, tTu, tLi, xT, xL, xF, omap_some, ok0, ok1, ok2, ok3, f__law_same, b__law_same, isiAny, isiD]
  | m, n, .int b, S, _, _ => by
    rw [show ("_law_same" : Str) = f__law_same.name from rfl, F_eq H.same rfl rfl]
    simp [asL_ap, fBinL_ap, fLst_ap, fFl_ap, fl_tup, fl_lst, all_mapT, ln_tup, ln_lst, ln_fz, tu_lst, tu_tup, it_tup, it_lst, it_fz, sq_tup, sq_lst, bindT_v, lockF, lockS, wipeF, run_ap, outO_rt, outO_nx, outO_ite, evC, evE, evB, evEs, evPs, evT, evTs, evI, evF, frame0, asP, asQ, mbind_ap, bindO_ok, bindO_ite, ite_ap, mret_ap, mopt_some, lift0_ap, liftO_ok, take_val, peek_val, peek_own, peek_lck, take_own, mval_int, mval_str, mval_bl, mval_non, mval_tup, mval_lst, mval_fz, mval_dct, mresL_v, mvals, cLt, cLe, cGt, cGe, cEqI, cNeI, cEqB, cIs, cIsNot, isNon, tBo, tIn, tNo, tTu, tLi, xT, xL, xF, omap_some, ok0, ok1, ok2, ok3, f__law_same, b__law_same, isiAny, isiD]
  | m, n, .str b, S, h, _ => by
    rw [show ("_law_same" : Str) = f__law_same.name from rfl, F_eq H.same rfl rfl]
    simp [asL_ap, fBinL_ap, fLst_ap, fFl_ap, fl_tup, fl_lst, all_mapT, ln_tup, ln_lst, ln_fz, tu_lst, tu_tup, it_tup, it_lst, it_fz, sq_tup, sq_lst, bindT_v, lockF, lockS, wipeF, run_ap, outO_rt, outO_nx, outO_ite, evC, evE, evB, evEs, evPs, evT, evTs, evI, evF, frame0, asP, asQ, mbind_ap, bindO_ok, bindO_ite, ite_ap, mret_ap, mopt_some, lift0_ap, liftO_ok, take_val, peek_val, peek_own, peek_lck, take_own, mval_int, mval_str, mval_bl, mval_non, mval_tup, mval_lst, mval_fz, mval_dct, mresL_v, mvals, cLt, cLe, cGt, cGe, cEqI, cNeI, cEqB, cIs, cIsNot, isNon, tBo, tIn, tNo, tTu, tLi, xT, xL, xF, omap_some, ok0, ok1, ok2, ok3, f__law_same, b__law_same, isiAny, isiD, eqS]
  | 0, n, .tup l, S, _, hd => absurd hd (by show ¬ deps l + 1 ≤ 0; omega)
  | m + 1, n, .tup l, S, h, hd => by
    obtain ⟨h1, h2⟩ := Bool.and_eq_true_iff.mp (show (sqs l && okLen l.length) = true from h)
    have hl : l.length ≤ 16777216 := of_decide_eq_true h2
    have hd : deps l + 1 ≤ m + 1 := hd
    rw [show ("_law_same" : Str) = f__law_same.name from rfl, F_eq H.same rfl rfl]
    have key : fLc (evCl (callF Pg (n + (m + 1))) Pg.sub c__law_same_0) [.val (.tup l), .val (.tup l), .none, .none] S = .ok ((zipD l l).map fun _ => .bl true) [.val (.tup l), .val (.tup l), .none, .none] S :=
      lc_map (l := zipD l l) (g := fun _ => .bl true) (by simp [asL_ap, fBinL_ap, fLst_ap, fFl_ap, fl_tup, fl_lst, all_mapT, ln_tup, ln_lst, ln_fz, tu_lst, tu_tup, it_tup, it_lst, it_fz, sq_tup, sq_lst, bindT_v, lockF, lockS, wipeF, run_ap, outO_rt, outO_nx, outO_ite, evC, evE, evB, evEs, evPs, evT, evTs, evI, evF, frame0, asP, asQ, mbind_ap, bindO_ok, bindO_ite, ite_ap, mret_ap, mopt_some, lift0_ap, liftO_ok, take_val, peek_val, peek_own, peek_lck, take_own, mval_int, mval_str, mval_bl, mval_non, mval_tup, mval_lst, mval_fz, mval_dct, mresL_v, mvals, cLt, cLe, cGt, cGe, cEqI, cNeI, cEqB, cIs, cIsNot, isNon, tBo, tIn, tNo, tTu, tLi, xT, xL, xF, omap_some, ok0, ok1, ok2, ok3, zO]) (fun d hdm => by
        obtain ⟨x, hx, rfl⟩ := zip_mem hdm
        refine ⟨[.val (.tup l), .val (.tup l), .val x, .val x], ?_⟩
        have := e_same m n x S (sqs_mem h1 x hx) (by have := deps_mem hx; omega)
        rw [show n + m + 1 = n + (m + 1) by omega] at this
        simp [asL_ap, fBinL_ap, fLst_ap, fFl_ap, fl_tup, fl_lst, all_mapT, ln_tup, ln_lst, ln_fz, tu_lst, tu_tup, it_tup, it_lst, it_fz, sq_tup, sq_lst, bindT_v, lockF, lockS, wipeF, run_ap, outO_rt, outO_nx, outO_ite, evC, evE, evB, evEs, evPs, evT, evTs, evI, evF, frame0, asP, asQ, mbind_ap, bindO_ok, bindO_ite, ite_ap, mret_ap, mopt_some, lift0_ap, liftO_ok, take_val, peek_val, peek_own, peek_lck, take_own, mval_int, mval_str, mval_bl, mval_non, mval_tup, mval_lst, mval_fz, mval_dct, mresL_v, mvals, cLt, cLe, cGt, cGe, cEqI, cNeI, cEqB, cIs, cIsNot, isNon, tBo, tIn, tNo, tTu, tLi, xT, xL, xF, omap_some, ok0, ok1, ok2, ok3, bindT, bindTs, this]) (by rw [zip_len]; exact hl)
    simp [asL_ap, fBinL_ap, fLst_ap, fFl_ap, fl_tup, fl_lst, all_mapT, ln_tup, ln_lst, ln_fz, tu_lst, tu_tup, it_tup, it_lst, it_fz, sq_tup, sq_lst, bindT_v, lockF, lockS, wipeF, run_ap, outO_rt, outO_nx, outO_ite, evC, evE, evB, evEs, evPs, evT, evTs, evI, evF, frame0, asP, asQ, mbind_ap, bindO_ok, bindO_ite, ite_ap, mret_ap, mopt_some, lift0_ap, liftO_ok, take_val, peek_val, peek_own, peek_lck, take_own, mval_int, mval_str, mval_bl, mval_non, mval_tup, mval_lst, mval_fz, mval_dct, mresL_v, mvals, cLt, cLe, cGt, cGe, cEqI, cNeI, cEqB, cIs, cIsNot, isNon, tBo, tIn, tNo, tTu, tLi, xT, xL, xF, omap_some, ok0, ok1, ok2, ok3, f__law_same, b__law_same, isiAny, isiD, key]
  | m, n, .lst _, S, h, _ => by cases h
  | m, n, .dct _ _ _, S, h, _ => by cases h
  | m, n, .fz _, S, h, _ => by cases h
  | m, n, .ref _, S, h, _ => by cases h
  | m, n, .fn _, S, h, _ => by cases h
end
end SH

namespace SH
open PySem PySem.Spec MP
/-! ### things handed in: small numbers, short texts -/
mutual
def okd (k : Nat) : D → Bool
  | .non | .bl _ => true
  | .int i => decide (i.natAbs < 10 ^ 40 + k)
  | .str x => decide (x.length ≤ 3) && x.cps.toList.all fun c => decide (c < 16 ^ 8)
  | .tup l => okds k l
  | .lst l => okds k l
  | .dct false [] [] => true
  | _ => false
def okds (k : Nat) : List D → Bool
  | [] => true
  | d :: r => okd k d && okds k r
end
mutual
/-- how much a thing weighs, written -/
def wt : D → Nat
  | .tup l => wts l + 3
  | .lst l => wts l + 3
  | _ => 60
def wts : List D → Nat
  | [] => 0
  | d :: r => wt d + 2 + wts r
end
theorem okds_mem {k : Nat} : ∀ {l : List D}, okds k l = true → ∀ x ∈ l, okd k x = true
  | [], _, x, h => by cases h
  | d :: r, hp, x, h => by
    obtain ⟨h1, h2⟩ := Bool.and_eq_true_iff.mp (show (okd k d && okds k r) = true from hp)
    rcases List.mem_cons.mp h with h | h
    · rw [h]; exact h1
    · exact okds_mem h2 x h
theorem okds_of {k : Nat} : ∀ {l : List D}, (∀ x ∈ l, okd k x = true) → okds k l = true
  | [], _ => rfl
  | d :: r, h => Bool.and_eq_true_iff.mpr ⟨h d List.mem_cons_self, okds_of fun x hx => h x (List.mem_cons_of_mem _ hx)⟩
mutual
theorem okd_pl {k : Nat} : ∀ d : D, okd k d = true → pl d = true
  | .non, _ => rfl
  | .bl _, _ => rfl
  | .int _, _ => rfl
  | .str _, _ => rfl
  | .tup l, h => okds_pls l h
  | .lst l, h => okds_pls l h
  | .dct false [] [], _ => rfl
  | .dct false (_ :: _) _, h => by cases h
  | .dct false [] (_ :: _), h => by cases h
  | .dct true _ _, h => by cases h
  | .fz _, h => by cases h
  | .ref _, h => by cases h
  | .fn _, h => by cases h
theorem okds_pls {k : Nat} : ∀ l : List D, okds k l = true → pls l = true
  | [], _ => rfl
  | d :: r, h => by
    obtain ⟨h1, h2⟩ := Bool.and_eq_true_iff.mp (show (okd k d && okds k r) = true from h)
    exact Bool.and_eq_true_iff.mpr ⟨okd_pl d h1, okds_pls r h2⟩
end
theorem textFrom_le : ∀ (ts : List Str) (k : Nat) (acc : Str), (textFrom k acc ts).length ≤ acc.length + piled ts
  | [], k, acc => Nat.le_refl _
  | t :: r, k, acc => by
    have h := textFrom_le r (k + 1) (acc ++ (if k > 0 then ", " else "" : String) ++ t)
    have e : (acc ++ (if k > 0 then ", " else "" : String) ++ t).length ≤ acc.length + 2 + t.length := by
      rw [strLen_append, strLen_append]
      split
      · exact Nat.le_refl _
      · show acc.length + 0 + t.length ≤ _
        omega
    rw [piled_cons]
    show (textFrom (k + 1) _ r).length ≤ _
    omega
theorem listText_le (ts : List Str) : (listText ts).length ≤ piled ts + 2 := by
  unfold listText
  rw [strLen_append]
  have h := textFrom_le ts 0 "["
  have e1 : (("[" : String) : Str).length = 1 := rfl
  have e2 : (("]" : String) : Str).length = 1 := rfl
  omega
theorem tupleText_le (ts : List Str) : (tupleText ts).length ≤ piled ts + 3 := by
  unfold tupleText
  rw [strLen_append, strLen_append]
  have e1 : ((if (ts.length == 1) = true then ",)" else ")" : String) : Str).length ≤ 2 := by split <;> decide
  have e2 : (("(" : String) : Str).length = 1 := rfl
  by_cases h : ts = []
  · subst h
    decide
  · have := join_length_add ts h
    omega
mutual
theorem shown_le {k : Nat} (hk : k ≤ 1000) : ∀ d : D, okd k d = true → ∃ p, pyD d = some p ∧ p.shown.length ≤ wt d ∧ p.showable = true ∧ p.depth ≤ dep d + 1
  | .non, _ => ⟨.none, rfl, by decide, rfl, by decide⟩
  | .bl b, _ => ⟨.bool b, rfl, by cases b <;> decide, rfl, by show PyData.depth (.bool b) ≤ 1; simp [PyData.depth]⟩
  | .int i, h => by
    have hi : i.natAbs < 10 ^ 50 := Nat.lt_of_lt_of_le (show i.natAbs < 10 ^ 40 + k from of_decide_eq_true h) (by omega)
    refine ⟨.int i, rfl, ?_, ?_, by simp [PyData.depth]⟩
    · have := int_text_length_le10 (a := i) (k := 50) (by decide) hi
      show (PyData.shown (.int i)).length ≤ 60
      simp only [PyData.shown]
      show (Str.ofString (toString i)).length ≤ 60
      rw [ofString_length]
      omega
    · simp only [PyData.showable, decide_eq_true_eq]
      by_cases h0 : i.natAbs = 0
      · rw [h0]; decide
      · exact (Nat.log2_lt h0).2 (Nat.lt_trans hi (by decide))
  | .str x, h => by
    obtain ⟨h1, h2⟩ := Bool.and_eq_true_iff.mp (show (decide (x.length ≤ 3) && x.cps.toList.all fun c => decide (c < 16 ^ 8)) = true from h)
    refine ⟨.str x, rfl, ?_, by simp [PyData.showable], by simp [PyData.depth]⟩
    have := StrLaws.reprText_len x fun c hc => of_decide_eq_true (List.all_eq_true.mp h2 c hc)
    have := of_decide_eq_true h1
    show (PyData.shown (.str x)).length ≤ 60
    simp only [PyData.shown]
    omega
  | .tup l, h => by
    obtain ⟨ps, e1, e2, e3, e4⟩ := showns_le hk l h
    refine ⟨.tuple ps, by show (pyDs l).map PyData.tuple = _; rw [e1]; rfl, ?_, by simp only [PyData.showable]; exact e3, ?_⟩
    · have := tupleText_le (PyData.shownAll ps)
      simp only [PyData.shown]
      show _ ≤ wts l + 3
      omega
    · simp only [PyData.depth]
      show _ ≤ deps l + 1 + 1
      omega
  | .lst l, h => by
    obtain ⟨ps, e1, e2, e3, e4⟩ := showns_le hk l h
    refine ⟨.list ps, by show (pyDs l).map PyData.list = _; rw [e1]; rfl, ?_, by simp only [PyData.showable]; exact e3, ?_⟩
    · have := listText_le (PyData.shownAll ps)
      simp only [PyData.shown]
      show _ ≤ wts l + 3
      omega
    · simp only [PyData.depth]
      show _ ≤ deps l + 1 + 1
      omega
  | .dct false [] [], _ => ⟨.dict [], rfl, by decide, rfl, by decide⟩
  | .dct false (_ :: _) _, h => by cases h
  | .dct false [] (_ :: _), h => by cases h
  | .dct true _ _, h => by cases h
  | .fz _, h => by cases h
  | .ref _, h => by cases h
  | .fn _, h => by cases h
theorem showns_le {k : Nat} (hk : k ≤ 1000) : ∀ l : List D, okds k l = true → ∃ ps, pyDs l = some ps ∧ piled (PyData.shownAll ps) ≤ wts l ∧ PyData.showableAll ps = true ∧ PyData.depthAll ps ≤ deps l + 1
  | [], _ => ⟨[], rfl, Nat.le_refl _, rfl, by decide⟩
  | d :: r, h => by
    obtain ⟨h1, h2⟩ := Bool.and_eq_true_iff.mp (show (okd k d && okds k r) = true from h)
    obtain ⟨p, a1, a2, a3, a4⟩ := shown_le hk d h1
    obtain ⟨ps, b1, b2, b3, b4⟩ := showns_le hk r h2
    refine ⟨p :: ps, by show (pyD d).bind (fun x => (pyDs r).map (x :: ·)) = _; rw [a1, Option.bind_some, b1]; rfl, ?_, ?_, ?_⟩
    · simp only [PyData.shownAll]
      rw [piled_cons]
      show _ ≤ wt d + 2 + wts r
      omega
    · simp only [PyData.showableAll, a3, b3]; rfl
    · simp only [PyData.depthAll]
      show _ ≤ max (dep d) (deps r) + 1
      omega
end
/-- repr of such a thing -/
theorem repr_ok {k : Nat} (hk : k ≤ 1000) {d : D} (h : okd k d = true) (h1 : wt d ≤ 16777216) (h2 : dep d ≤ 50) : ∃ x, opBl .repr [d] = some (.str x) := by
  obtain ⟨p, e1, e2, e3, e4⟩ := shown_le hk d h
  refine ⟨p.shown, ?_⟩
  have e : reprD d = some p.shown := by
    unfold reprD
    rw [e1, Option.bind_some, e3, show decide (p.depth ≤ 60) = true from decide_eq_true (by omega), show okLen p.shown.length = true from decide_eq_true (by omega)]
    rfl
  have e' : opBl .repr [d] = (reprD d).map .str := by cases d <;> rfl
  rw [e', e]
  rfl
end SH

namespace SH
open PySem PySem.Spec MP
theorem wts_app : ∀ a b : List D, wts (a ++ b) = wts a + wts b
  | [], b => by show wts b = 0 + wts b; omega
  | d :: r, b => by
    show wt d + 2 + wts (r ++ b) = wt d + 2 + wts r + wts b
    rw [wts_app r b]; omega
theorem wts_len : ∀ l : List D, 2 * l.length ≤ wts l
  | [] => Nat.le_refl _
  | d :: r => by
    show 2 * (r.length + 1) ≤ wt d + 2 + wts r
    have := wts_len r
    omega
theorem deps_app : ∀ a b : List D, deps (a ++ b) = max (deps a) (deps b)
  | [], b => by show deps b = max 0 (deps b); omega
  | d :: r, b => by
    show max (dep d) (deps (r ++ b)) = max (max (dep d) (deps r)) (deps b)
    rw [deps_app r b]; omega
theorem okds_app {k : Nat} : ∀ a b : List D, okds k (a ++ b) = (okds k a && okds k b)
  | [], b => rfl
  | d :: r, b => by
    show (okd k d && okds k (r ++ b)) = ((okd k d && okds k r) && okds k b)
    rw [okds_app r b, Bool.and_assoc]
mutual
theorem okd_mono {k k' : Nat} (hk : k ≤ k') : ∀ d : D, okd k d = true → okd k' d = true
  | .non, _ => rfl
  | .bl _, _ => rfl
  | .int i, h => decide_eq_true (by have : i.natAbs < 10 ^ 40 + k := of_decide_eq_true h; omega)
  | .str _, h => h
  | .tup l, h => okds_mono hk l h
  | .lst l, h => okds_mono hk l h
  | .dct false [] [], _ => rfl
  | .dct false (_ :: _) _, h => by cases h
  | .dct false [] (_ :: _), h => by cases h
  | .dct true _ _, h => by cases h
  | .fz _, h => by cases h
  | .ref _, h => by cases h
  | .fn _, h => by cases h
theorem okds_mono {k k' : Nat} (hk : k ≤ k') : ∀ l : List D, okds k l = true → okds k' l = true
  | [], _ => rfl
  | d :: r, h => by
    obtain ⟨h1, h2⟩ := Bool.and_eq_true_iff.mp (show (okd k d && okds k r) = true from h)
    exact Bool.and_eq_true_iff.mpr ⟨okd_mono hk d h1, okds_mono hk r h2⟩
end
theorem cut_to {l : List D} {a : Nat} (h : a ≤ l.length) : cutD l .non (.int (a : Int)) = some (l.take a) := by
  show some ((l.drop 0).take (HT.sIx l.length l.length (some (a : Int)) - 0)) = _
  rw [HT.sIx_nat, List.drop_zero, Nat.sub_zero, Nat.min_eq_left h]
theorem cut_from {l : List D} {a : Nat} (h : a ≤ l.length) : cutD l (.int (a : Int)) .non = some (l.drop a) := by
  show some ((l.drop (HT.sIx l.length 0 (some (a : Int)))).take (l.length - HT.sIx l.length 0 (some (a : Int)))) = _
  rw [HT.sIx_nat, Nat.min_eq_left h, List.take_of_length_le (by simp [asL_ap, fBinL_ap, fLst_ap, fFl_ap, fl_tup, fl_lst, all_mapT, ln_tup, ln_lst, ln_fz, tu_lst, tu_tup, it_tup, it_lst, it_fz, sq_tup, sq_lst, bindT_v, lockF, lockS, wipeF, run_ap, outO_rt, outO_nx, outO_ite, evC, evE, evB, evEs, evPs, evT, evTs, evI, evF, frame0, asP, asQ, asO, mbind_ap, bindO_ok, bindO_ite, ite_ap, mret_ap, mopt_some, lift0_ap, liftO_ok, take_val, peek_val, peek_own, peek_lck, take_own, mval_int, mval_str, mval_bl, mval_non, mval_tup, mval_lst, mval_fz, mval_dct, mresL_v, mvals, cLt, cLe, cGt, cGe, cEqI, cNeI, cEqB, cIs, cIsNot, isNon, tBo, tIn, tNo, tTu, tLi, xT, xL, xF, omap_some, ok0, ok1, ok2, ok3])]
theorem addT {a b : List D} (h : a.length + b.length ≤ 16777216) : opBin .Add (.tup a) (.tup b) = some (.tup (a ++ b)) := by
  show (if okLen (a.length + b.length) then some (D.tup (a ++ b)) else none) = _
  rw [show okLen (a.length + b.length) = true from decide_eq_true h]
  rfl
theorem at_nat {l : List D} {i : Nat} (h : i < l.length) : atD l (i : Int) = some l[i] := by
  unfold atD ixD
  rw [if_pos (by omega), if_pos (by omega), Option.bind_some, Int.toNat_natCast, List.getElem?_eq_getElem h]
theorem neT {l : List D} : opCmp .NotEq (.tup l) (.tup []) = some (!l.isEmpty) := rfl
/-- odd things -/
structure Odd (k : Nat) (x : D) : Prop where
  ok : okd k x = true
  w : wt x ≤ 130
  d : dep x ≤ 1
structure Spoilt (k : Nat) (d v : D) : Prop where
  ok : okd (k + 2) v = true
  w : wt v ≤ 2 * wt d + 200
  d : dep v ≤ dep d + 1
theorem Odd.spoilt {k : Nat} {x d : D} (h : Odd k x) : Spoilt k d x := ⟨okd_mono (by omega) _ h.ok, by have := h.w; omega, by have := h.d; omega⟩
theorem parts {l : List D} {a : Nat} (h : a < l.length) : l = l.take a ++ (l[a] :: l.drop (a + 1)) := by
  rw [← List.drop_eq_getElem_cons h, List.take_append_drop]
theorem three {w : Int} (h : 0 ≤ w) : ∃ y : Int, atD [.int 1, .int (-1), .int 2] (w % 3) = some (.int y) ∧ y.natAbs ≤ 2 := by
  have h1 := Int.emod_nonneg w (b := 3) (by omega)
  have h2 := Int.emod_lt_of_pos w (b := 3) (by omega)
  have h3 : w % 3 = 0 ∨ w % 3 = 1 ∨ w % 3 = 2 := by omega
  rcases h3 with h | h | h <;> rw [h]
  · exact ⟨1, rfl, by decide⟩
  · exact ⟨-1, rfl, by decide⟩
  · exact ⟨2, rfl, by decide⟩
theorem four {w : Int} {a b c d : D} (h : 6 ≤ w) (h2 : w < 10) : ∃ y : D, atD [a, b, c, d] (w - 6) = some y ∧ (y = a ∨ y = b ∨ y = c ∨ y = d) := by
  have h3 : w - 6 = 0 ∨ w - 6 = 1 ∨ w - 6 = 2 ∨ w - 6 = 3 := by omega
  rcases h3 with h | h | h | h <;> rw [h]
  · exact ⟨a, rfl, .inl rfl⟩
  · exact ⟨b, rfl, .inr (.inl rfl)⟩
  · exact ⟨c, rfl, .inr (.inr (.inl rfl))⟩
  · exact ⟨d, rfl, .inr (.inr (.inr rfl))⟩
theorem wts_cons {d : D} {r : List D} : wts (d :: r) = wt d + 2 + wts r := rfl
theorem wt_tup {l : List D} : wt (.tup l) = wts l + 3 := rfl
theorem wt_lst {l : List D} : wt (.lst l) = wts l + 3 := rfl
theorem dep_tup {l : List D} : dep (.tup l) = deps l + 1 := rfl
theorem dep_lst {l : List D} : dep (.lst l) = deps l + 1 := rfl
theorem deps_cons {d : D} {r : List D} : deps (d :: r) = max (dep d) (deps r) := rfl
theorem okds_cons {k : Nat} {d : D} {r : List D} : okds k (d :: r) = (okd k d && okds k r) := rfl
theorem okd_tup {k : Nat} {l : List D} : okd k (.tup l) = okds k l := rfl
theorem okd_lst {k : Nat} {l : List D} : okd k (.lst l) = okds k l := rfl
section
variable {Pg : Pgm} (H : HS Pg) (HL : HL Pg) (HPp : HP Pg) (HOo : HO Pg)
include H HL HPp HOo
theorem e_other0 {odds : List D} {k : Nat} (ho : ∀ x ∈ odds, Odd k x) (h1 : 1 ≤ odds.length) (h2 : odds.length ≤ 1000) (n : Nat) (d : D) (j N : Nat) (S : Store) (hd : okd k d = true) (hT : isT d = false) (hp : Pot j N S) (hN : N + 3 ≤ 1000000) :
    ∃ v S', (callF Pg (n + 2)).f "_law_other" [.ref j, d, .lst odds] [] [] S = .ok v S' ∧ Spoilt k d v ∧ Pot j (N + 3) S' := by
  obtain ⟨way, S1, e1, w1, w2, p1⟩ := e_take HPp n j N 10 S hp (by omega) (by omega) (by omega)
  obtain ⟨o, S2, e2, o1, o2, p2⟩ := e_take HPp n j (N + 1) odds.length S1 p1 (by omega) (by omega) (by omega)
  obtain ⟨o, rfl⟩ : ∃ x : Nat, o = x := ⟨o.toNat, by omega⟩
  have o3 : o < odds.length := by omega
  have ox := ho odds[o] (List.getElem_mem o3)
  have ao := at_nat o3
  generalize odds[o] = odd at ox ao
  rw [show ("_law_other" : Str) = f__law_other.name from rfl, F_eq HOo.other rfl rfl]
  have hpl := okd_pl d hd
  have ew := e_law_whole H HL n d S2 hpl
  have it := isi_t H hpl
  have md := bMod (a := way) (b := 3) (by omega)
  by_cases hI : isI d = true ∧ way < 7
  · obtain ⟨hI, h7⟩ := hI
    obtain ⟨i, rfl⟩ : ∃ i, d = .int i := by cases d <;> first | exact ⟨_, rfl⟩ | cases hI
    obtain ⟨y, ey, hy⟩ := three w1
    have hi : i.natAbs < 10 ^ 40 + k := of_decide_eq_true hd
    refine ⟨.int (i + y), S2, ?_, ⟨decide_eq_true (by omega), by show 60 ≤ _; omega, by show 0 ≤ _; omega⟩, p2.mono (by omega)⟩
    simp [asL_ap, fBinL_ap, fLst_ap, fFl_ap, fl_tup, fl_lst, all_mapT, ln_tup, ln_lst, ln_fz, tu_lst, tu_tup, it_tup, it_lst, it_fz, sq_tup, sq_lst, bindT_v, lockF, lockS, wipeF, run_ap, outO_rt, outO_nx, outO_ite, evC, evE, evB, evEs, evPs, evT, evTs, evI, evF, frame0, asP, asQ, asO, mbind_ap, bindO_ok, bindO_ite, ite_ap, mret_ap, mopt_some, lift0_ap, liftO_ok, take_val, peek_val, peek_own, peek_lck, take_own, mval_int, mval_str, mval_bl, mval_non, mval_tup, mval_lst, mval_fz, mval_dct, mresL_v, mvals, cLt, cLe, cGt, cGe, cEqI, cNeI, cEqB, cIs, cIsNot, isNon, tBo, tIn, tNo, tTu, tLi, xT, xL, xF, omap_some, ok0, ok1, ok2, ok3, f__law_other, b__law_other, e1, e2, ao, it, hT, ew, hI, h7, md, ey, bAdd]
  · refine ⟨odd, S2, ?_, ox.spoilt, p2.mono (by omega)⟩
    cases hI' : isI d with
    | false => simp [asL_ap, fBinL_ap, fLst_ap, fFl_ap, fl_tup, fl_lst, all_mapT, ln_tup, ln_lst, ln_fz, tu_lst, tu_tup, it_tup, it_lst, it_fz, sq_tup, sq_lst, bindT_v, lockF, lockS, wipeF, run_ap, outO_rt, outO_nx, outO_ite, evC, evE, evB, evEs, evPs, evT, evTs, evI, evF, frame0, asP, asQ, asO, mbind_ap, bindO_ok, bindO_ite, ite_ap, mret_ap, mopt_some, lift0_ap, liftO_ok, take_val, peek_val, peek_own, peek_lck, take_own, mval_int, mval_str, mval_bl, mval_non, mval_tup, mval_lst, mval_fz, mval_dct, mresL_v, mvals, cLt, cLe, cGt, cGe, cEqI, cNeI, cEqB, cIs, cIsNot, isNon, tBo, tIn, tNo, tTu, tLi, xT, xL, xF, omap_some, ok0, ok1, ok2, ok3, f__law_other, b__law_other, e1, e2, ao, it, hT, ew, hI', mval_pl H hpl]
    | true =>
      have : ¬ way < 7 := fun h => hI ⟨hI', h⟩
      simp [asL_ap, fBinL_ap, fLst_ap, fFl_ap, fl_tup, fl_lst, all_mapT, ln_tup, ln_lst, ln_fz, tu_lst, tu_tup, it_tup, it_lst, it_fz, sq_tup, sq_lst, bindT_v, lockF, lockS, wipeF, run_ap, outO_rt, outO_nx, outO_ite, evC, evE, evB, evEs, evPs, evT, evTs, evI, evF, frame0, asP, asQ, asO, mbind_ap, bindO_ok, bindO_ite, ite_ap, mret_ap, mopt_some, lift0_ap, liftO_ok, take_val, peek_val, peek_own, peek_lck, take_own, mval_int, mval_str, mval_bl, mval_non, mval_tup, mval_lst, mval_fz, mval_dct, mresL_v, mvals, cLt, cLe, cGt, cGe, cEqI, cNeI, cEqB, cIs, cIsNot, isNon, tBo, tIn, tNo, tTu, tLi, xT, xL, xF, omap_some, ok0, ok1, ok2, ok3, f__law_other, b__law_other, e1, e2, ao, it, hT, ew, hI', this, mval_pl H hpl]
theorem e_other {odds : List D} {k : Nat} (ho : ∀ x ∈ odds, Odd k x) (h1 : 1 ≤ odds.length) (h2 : odds.length ≤ 1000) : ∀ (m n : Nat) (d : D) (j N : Nat) (S : Store), okd k d = true → wt d ≤ 8000000 → dep d ≤ m → Pot j N S → N + 3 * (m + 1) ≤ 1000000 →
    ∃ v S', (callF Pg (n + m + 2)).f "_law_other" [.ref j, d, .lst odds] [] [] S = .ok v S' ∧ Spoilt k d v ∧ Pot j (N + 3 * (m + 1)) S' := by
  intro m
  induction m with
  | zero =>
    intro n d j N S hd hw hdp hp hN
    have hT : isT d = false := by cases d <;> first | rfl | exact absurd (show deps _ + 1 ≤ 0 from hdp) (by omega)
    exact e_other0 H HL HPp HOo ho h1 h2 n d j N S hd hT hp (by omega)
  | succ m ih =>
    intro n d j N S hd hw hdp hp hN
    cases hT : isT d with
    | false =>
      obtain ⟨v, S', e, q, p⟩ := e_other0 H HL HPp HOo ho h1 h2 (n + (m + 1)) d j N S hd hT hp (by omega)
      exact ⟨v, S', e, q, p.mono (by omega)⟩
    | true =>
      obtain ⟨way, S1, e1, w1, w2, p1⟩ := e_take HPp (n + (m + 1)) j N 10 S hp (by omega) (by omega) (by omega)
      obtain ⟨o, S2, e2, o1, o2, p2⟩ := e_take HPp (n + (m + 1)) j (N + 1) odds.length S1 p1 (by omega) (by omega) (by omega)
      obtain ⟨o, rfl⟩ : ∃ x : Nat, o = x := ⟨o.toNat, by omega⟩
      have o3 : o < odds.length := by omega
      have ox := ho odds[o] (List.getElem_mem o3)
      have ao := at_nat o3
      generalize odds[o] = odd at ox ao
      rw [show ("_law_other" : Str) = f__law_other.name from rfl, F_eq HOo.other rfl rfl]
      obtain ⟨l, rfl⟩ : ∃ l, d = .tup l := by cases d <;> first | exact ⟨_, rfl⟩ | cases hT
      rw [wt_tup] at hw
      have hlen := wts_len l
      by_cases hl : l = []
      · subst hl
        refine ⟨odd, S2, ?_, ox.spoilt, p2.mono (by omega)⟩
        have ew : ∀ S, (callF Pg (n + (m + 1) + 1)).f "_law_whole" [.tup []] [] [] S = .ok (.bl false) S := fun S => e_law_whole H HL (n + (m + 1)) (.tup []) S rfl
        simp [asL_ap, fBinL_ap, fLst_ap, fFl_ap, fl_tup, fl_lst, all_mapT, ln_tup, ln_lst, ln_fz, tu_lst, tu_tup, it_tup, it_lst, it_fz, sq_tup, sq_lst, bindT_v, lockF, lockS, wipeF, run_ap, outO_rt, outO_nx, outO_ite, evC, evE, evB, evEs, evPs, evT, evTs, evI, evF, frame0, asP, asQ, asO, mbind_ap, bindO_ok, bindO_ite, ite_ap, mret_ap, mopt_some, lift0_ap, liftO_ok, take_val, peek_val, peek_own, peek_lck, take_own, mval_int, mval_str, mval_bl, mval_non, mval_tup, mval_lst, mval_fz, mval_dct, mresL_v, mvals, cLt, cLe, cGt, cGe, cEqI, cNeI, cEqB, cIs, cIsNot, isNon, tBo, tIn, tNo, tTu, tLi, xT, xL, xF, omap_some, ok0, ok1, ok2, ok3, f__law_other, b__law_other, e1, e2, ao, isiAny, isiD, neT, ew]
      · have hl1 : l.isEmpty = false := by cases l <;> first | rfl | exact absurd rfl hl
        have hl2 : 1 ≤ l.length := by cases l <;> first | exact absurd rfl hl | (show 1 ≤ _ + 1; omega)
        obtain ⟨a, S3, e3, a1, a2, p3⟩ := e_take HPp (n + (m + 1)) j (N + 2) l.length S2 (p2.mono (by omega)) (by omega) (by omega) (by omega)
        obtain ⟨a, rfl⟩ : ∃ x : Nat, a = x := ⟨a.toNat, by omega⟩
        have a3 : a < l.length := by omega
        have aa := at_nat a3
        have pt := parts a3
        have ct := cut_to (l := l) (a := a) (by omega)
        have cf := cut_from (l := l) (a := a) (by omega)
        have ct1 := cut_to (l := l) (a := a + 1) (by omega)
        have cf1 := cut_from (l := l) (a := a + 1) (by omega)
        have ca : ((a + 1 : Nat) : Int) = (a : Int) + 1 := by omega
        rw [ca] at ct1 cf1
        have tk1 : l.take (a + 1) = l.take a ++ [l[a]] := by rw [List.take_succ, List.getElem?_eq_getElem a3]; rfl
        have dr1 : l.drop a = l[a] :: l.drop (a + 1) := List.drop_eq_getElem_cons a3
        rw [tk1] at ct1
        rw [dr1] at cf
        have hk : okds k l = true := hd
        generalize l.take a = p at *
        generalize l[a] = x at *
        generalize l.drop (a + 1) = q at *
        rw [pt, okds_app, okds_cons, Bool.and_eq_true, Bool.and_eq_true] at hk
        obtain ⟨k1, k2, k3⟩ := hk
        have k1' := okds_mono (k' := k + 2) (by omega) _ k1
        have k2' := okd_mono (k' := k + 2) (by omega) _ k2
        have k3' := okds_mono (k' := k + 2) (by omega) _ k3
        have ko' := okd_mono (k' := k + 2) (by omega) _ ox.ok
        have ow := ox.w
        have od := ox.d
        have lw : wts l = wts p + (wt x + 2 + wts q) := by rw [pt, wts_app, wts_cons]
        have ld : deps l = max (deps p) (max (dep x) (deps q)) := by rw [pt, deps_app, deps_cons]
        have lk : okds (k + 2) l = true := by rw [pt, okds_app, okds_cons, k1', k2', k3']; rfl
        rw [dep_tup, ld] at hdp
        have l1 := wts_len p
        have l3 := wts_len q
        have ll : l.length = p.length + (q.length + 1) := by rw [pt]; simp [asL_ap, fBinL_ap, fLst_ap, fFl_ap, fl_tup, fl_lst, all_mapT, ln_tup, ln_lst, ln_fz, tu_lst, tu_tup, it_tup, it_lst, it_fz, sq_tup, sq_lst, bindT_v, lockF, lockS, wipeF, run_ap, outO_rt, outO_nx, outO_ite, evC, evE, evB, evEs, evPs, evT, evTs, evI, evF, frame0, asP, asQ, asO, mbind_ap, bindO_ok, bindO_ite, ite_ap, mret_ap, mopt_some, lift0_ap, liftO_ok, take_val, peek_val, peek_own, peek_lck, take_own, mval_int, mval_str, mval_bl, mval_non, mval_tup, mval_lst, mval_fz, mval_dct, mresL_v, mvals, cLt, cLe, cGt, cGe, cEqI, cNeI, cEqB, cIs, cIsNot, isNon, tBo, tIn, tNo, tTu, tLi, xT, xL, xF, omap_some, ok0, ok1, ok2, ok3]
        by_cases h6 : way < 6
        · obtain ⟨v, S4, e4, q4, p4⟩ := ih n x j _ S3 k2 (by omega) (by omega) p3 (by omega)
          have vw := q4.w
          have vd := q4.d
          rw [show n + m + 2 = n + (m + 1) + 1 by omega] at e4
          have ad1 := addT (a := p) (b := [v]) (by simp [asL_ap, fBinL_ap, fLst_ap, fFl_ap, fl_tup, fl_lst, all_mapT, ln_tup, ln_lst, ln_fz, tu_lst, tu_tup, it_tup, it_lst, it_fz, sq_tup, sq_lst, bindT_v, lockF, lockS, wipeF, run_ap, outO_rt, outO_nx, outO_ite, evC, evE, evB, evEs, evPs, evT, evTs, evI, evF, frame0, asP, asQ, asO, mbind_ap, bindO_ok, bindO_ite, ite_ap, mret_ap, mopt_some, lift0_ap, liftO_ok, take_val, peek_val, peek_own, peek_lck, take_own, mval_int, mval_str, mval_bl, mval_non, mval_tup, mval_lst, mval_fz, mval_dct, mresL_v, mvals, cLt, cLe, cGt, cGe, cEqI, cNeI, cEqB, cIs, cIsNot, isNon, tBo, tIn, tNo, tTu, tLi, xT, xL, xF, omap_some, ok0, ok1, ok2, ok3]; omega)
          have ad2 := addT (a := p ++ [v]) (b := q) (by simp [asL_ap, fBinL_ap, fLst_ap, fFl_ap, fl_tup, fl_lst, all_mapT, ln_tup, ln_lst, ln_fz, tu_lst, tu_tup, it_tup, it_lst, it_fz, sq_tup, sq_lst, bindT_v, lockF, lockS, wipeF, run_ap, outO_rt, outO_nx, outO_ite, evC, evE, evB, evEs, evPs, evT, evTs, evI, evF, frame0, asP, asQ, asO, mbind_ap, bindO_ok, bindO_ite, ite_ap, mret_ap, mopt_some, lift0_ap, liftO_ok, take_val, peek_val, peek_own, peek_lck, take_own, mval_int, mval_str, mval_bl, mval_non, mval_tup, mval_lst, mval_fz, mval_dct, mresL_v, mvals, cLt, cLe, cGt, cGe, cEqI, cNeI, cEqB, cIs, cIsNot, isNon, tBo, tIn, tNo, tTu, tLi, xT, xL, xF, omap_some, ok0, ok1, ok2, ok3]; omega)
          refine ⟨.tup (p ++ [v] ++ q), S4, ?_, ⟨?_, ?_, ?_⟩, p4.mono (by omega)⟩
          · obtain ⟨pv, hpv⟩ : ∃ pv, pv = p ++ [v] := ⟨_, rfl⟩
            obtain ⟨r, hr⟩ : ∃ r, r = pv ++ q := ⟨_, rfl⟩
            rw [← hpv] at ad1 ad2 ⊢
            rw [← hr] at ad2 ⊢
            simp [asL_ap, fBinL_ap, fLst_ap, fFl_ap, fl_tup, fl_lst, all_mapT, ln_tup, ln_lst, ln_fz, tu_lst, tu_tup, it_tup, it_lst, it_fz, sq_tup, sq_lst, bindT_v, lockF, lockS, wipeF, run_ap, outO_rt, outO_nx, outO_ite, evC, evE, evB, evEs, evPs, evT, evTs, evI, evF, frame0, asP, asQ, asO, mbind_ap, bindO_ok, bindO_ite, ite_ap, mret_ap, mopt_some, lift0_ap, liftO_ok, take_val, peek_val, peek_own, peek_lck, take_own, mval_int, mval_str, mval_bl, mval_non, mval_tup, mval_lst, mval_fz, mval_dct, mresL_v, mvals, cLt, cLe, cGt, cGe, cEqI, cNeI, cEqB, cIs, cIsNot, isNon, tBo, tIn, tNo, tTu, tLi, xT, xL, xF, omap_some, ok0, ok1, ok2, ok3, f__law_other, b__law_other, e1, e2, e3, ao, isiAny, isiD, neT, hl1, aa, ct, cf1, e4, h6, ad1, ad2, bAdd]
          · rw [okd_tup, okds_app, okds_app, okds_cons, k1', q4.ok, k3']; rfl
          · rw [wt_tup, wt_tup, wts_app, wts_app, wts_cons, lw]
            show wts p + (wt v + 2 + 0) + wts q + 3 ≤ _
            omega
          · rw [dep_tup, dep_tup, deps_app, deps_app, deps_cons, ld]
            show max (max (deps p) (max (dep v) 0)) (deps q) + 1 ≤ _
            omega
        · have ad1 := addT (a := p) (b := q) (by omega)
          have ad2 := addT (a := p ++ [x]) (b := x :: q) (by simp [asL_ap, fBinL_ap, fLst_ap, fFl_ap, fl_tup, fl_lst, all_mapT, ln_tup, ln_lst, ln_fz, tu_lst, tu_tup, it_tup, it_lst, it_fz, sq_tup, sq_lst, bindT_v, lockF, lockS, wipeF, run_ap, outO_rt, outO_nx, outO_ite, evC, evE, evB, evEs, evPs, evT, evTs, evI, evF, frame0, asP, asQ, asO, mbind_ap, bindO_ok, bindO_ite, ite_ap, mret_ap, mopt_some, lift0_ap, liftO_ok, take_val, peek_val, peek_own, peek_lck, take_own, mval_int, mval_str, mval_bl, mval_non, mval_tup, mval_lst, mval_fz, mval_dct, mresL_v, mvals, cLt, cLe, cGt, cGe, cEqI, cNeI, cEqB, cIs, cIsNot, isNon, tBo, tIn, tNo, tTu, tLi, xT, xL, xF, omap_some, ok0, ok1, ok2, ok3]; omega)
          have ad3 := addT (a := l) (b := [odd]) (by simp [asL_ap, fBinL_ap, fLst_ap, fFl_ap, fl_tup, fl_lst, all_mapT, ln_tup, ln_lst, ln_fz, tu_lst, tu_tup, it_tup, it_lst, it_fz, sq_tup, sq_lst, bindT_v, lockF, lockS, wipeF, run_ap, outO_rt, outO_nx, outO_ite, evC, evE, evB, evEs, evPs, evT, evTs, evI, evF, frame0, asP, asQ, asO, mbind_ap, bindO_ok, bindO_ite, ite_ap, mret_ap, mopt_some, lift0_ap, liftO_ok, take_val, peek_val, peek_own, peek_lck, take_own, mval_int, mval_str, mval_bl, mval_non, mval_tup, mval_lst, mval_fz, mval_dct, mresL_v, mvals, cLt, cLe, cGt, cGe, cEqI, cNeI, cEqB, cIs, cIsNot, isNon, tBo, tIn, tNo, tTu, tLi, xT, xL, xF, omap_some, ok0, ok1, ok2, ok3]; omega)
          obtain ⟨y, ey, hy⟩ := four (a := .tup (p ++ q)) (b := .tup (p ++ [x] ++ x :: q)) (c := .lst l) (d := .tup (l ++ [odd])) (w := way) (by omega) w2
          refine ⟨y, S3, ?_, ?_, p3.mono (by omega)⟩
          · have md := bSub (a := way) (b := 6)
            generalize p ++ q = r1 at *
            generalize p ++ [x] ++ x :: q = r2 at *
            generalize l ++ [odd] = r3 at *
            generalize p ++ [x] = r4 at *
            generalize x :: q = r5 at *
            simp [asL_ap, fBinL_ap, fLst_ap, fFl_ap, fl_tup, fl_lst, all_mapT, ln_tup, ln_lst, ln_fz, tu_lst, tu_tup, it_tup, it_lst, it_fz, sq_tup, sq_lst, bindT_v, lockF, lockS, wipeF, run_ap, outO_rt, outO_nx, outO_ite, evC, evE, evB, evEs, evPs, evT, evTs, evI, evF, frame0, asP, asQ, asO, mbind_ap, bindO_ok, bindO_ite, ite_ap, mret_ap, mopt_some, lift0_ap, liftO_ok, take_val, peek_val, peek_own, peek_lck, take_own, mval_int, mval_str, mval_bl, mval_non, mval_tup, mval_lst, mval_fz, mval_dct, mresL_v, mvals, cLt, cLe, cGt, cGe, cEqI, cNeI, cEqB, cIs, cIsNot, isNon, tBo, tIn, tNo, tTu, tLi, xT, xL, xF, omap_some, ok0, ok1, ok2, ok3, f__law_other, b__law_other, e1, e2, e3, ao, isiAny, isiD, neT, hl1, aa, ct, cf1, ct1, cf, h6, ad1, ad2, ad3, bAdd, ey, md, mval_own, show okLen 4 = true from rfl]
          · rcases hy with rfl | rfl | rfl | rfl
            · refine ⟨?_, ?_, ?_⟩
              · rw [okd_tup, okds_app, k1', k3']; rfl
              · rw [wt_tup, wt_tup, wts_app, lw]; omega
              · rw [dep_tup, dep_tup, deps_app, ld]; omega
            · refine ⟨?_, ?_, ?_⟩
              · rw [okd_tup, okds_app, okds_app, okds_cons, okds_cons, k1', k2', k3']; rfl
              · rw [wt_tup, wt_tup, wts_app, wts_app, wts_cons, wts_cons, lw]
                show wts p + (wt x + 2 + 0) + (wt x + 2 + wts q) + 3 ≤ _
                omega
              · rw [dep_tup, dep_tup, deps_app, deps_app, deps_cons, deps_cons, ld]
                show max (max (deps p) (max (dep x) 0)) (max (dep x) (deps q)) + 1 ≤ _
                omega
            · refine ⟨?_, ?_, ?_⟩
              · rw [okd_lst, lk]
              · rw [wt_lst, wt_tup]; omega
              · rw [dep_lst, dep_tup]; omega
            · refine ⟨?_, ?_, ?_⟩
              · rw [okd_tup, okds_app, okds_cons, lk, ko']; rfl
              · rw [wt_tup, wt_tup, wts_app, wts_cons]
                show wts l + (wt odd + 2 + 0) + 3 ≤ _
                omega
              · rw [dep_tup, dep_tup, deps_app, deps_cons]
                show max (deps l) (max (dep odd) 0) + 1 ≤ _
                omega
end
end SH

namespace SH
open PySem PySem.Spec MP
/-! ### what first_come tells, plainly -/
def addP (th : List D) (x : D) : List D := if isNon x || dhas th x then th else th ++ [x]
def numP (th : List D) (x : D) : D := if isNon x then .non else match th.findIdx? (fun z => deq z x) with
  | some i => .int (i : Nat)
  | none => .non
def rowP (F : D → Int → Int → D) (k : Int) (here : D) (g : Int) : List D := (R k).map fun d => F here g (inI d)
def signsP (F : D → Int → Int → D) (k : Int) (here : D) : List D → List D → List D → List D × List D
  | [], th, rs => (th, rs)
  | g :: r, th, rs => signsP F k here r ((rowP F k here (inI g)).foldl addP th) (rs ++ [.tup ((rowP F k here (inI g)).map (numP ((rowP F k here (inI g)).foldl addP th)))])
def comeP (F : D → Int → Int → D) (s k : Int) : Nat → List D → List D → Option (List D × List D)
  | 0, _, _ => none
  | n + 1, th, tb => if tb.length < th.length then (if 100 < (signsP F k (ge th tb.length) (R s) th []).1.length then none else comeP F s k n (signsP F k (ge th tb.length) (R s) th []).1 (tb ++ [.tup (signsP F k (ge th tb.length) (R s) th []).2])) else some (th, tb)
/-- the same, left as soon as it is too much -/
def signsQ (F : D → Int → Int → D) (k : Int) (here : D) : List D → List D → List D → Option (List D × List D)
  | [], th, rs => some (th, rs)
  | g :: r, th, rs => if 100 < ((rowP F k here (inI g)).foldl addP th).length then none else signsQ F k here r ((rowP F k here (inI g)).foldl addP th) (rs ++ [.tup ((rowP F k here (inI g)).map (numP ((rowP F k here (inI g)).foldl addP th)))])
theorem addP_pre (th : List D) (x : D) : ∃ m, addP th x = th ++ m := by
  unfold addP
  split
  · exact ⟨[], by simp [asL_ap, fBinL_ap, fLst_ap, fFl_ap, fl_tup, fl_lst, all_mapT, ln_tup, ln_lst, ln_fz, tu_lst, tu_tup, it_tup, it_lst, it_fz, sq_tup, sq_lst, bindT_v, lockF, lockS, wipeF, run_ap, outO_rt, outO_nx, outO_ite, evC, evE, evB, evEs, evPs, evT, evTs, evI, evF, frame0, asP, asQ, asO, mbind_ap, bindO_ok, bindO_ite, ite_ap, mret_ap, mopt_some, lift0_ap, liftO_ok, take_val, peek_val, peek_own, peek_lck, take_own, mval_int, mval_str, mval_bl, mval_non, mval_tup, mval_lst, mval_fz, mval_dct, mresL_v, mvals, cLt, cLe, cGt, cGe, cEqI, cNeI, cEqB, cIs, cIsNot, isNon, tBo, tIn, tNo, tTu, tLi, xT, xL, xF, omap_some, ok0, ok1, ok2, ok3]⟩
  · exact ⟨[x], rfl⟩
theorem fold_pre : ∀ (l th : List D), ∃ m, l.foldl addP th = th ++ m
  | [], th => ⟨[], by simp [asL_ap, fBinL_ap, fLst_ap, fFl_ap, fl_tup, fl_lst, all_mapT, ln_tup, ln_lst, ln_fz, tu_lst, tu_tup, it_tup, it_lst, it_fz, sq_tup, sq_lst, bindT_v, lockF, lockS, wipeF, run_ap, outO_rt, outO_nx, outO_ite, evC, evE, evB, evEs, evPs, evT, evTs, evI, evF, frame0, asP, asQ, asO, mbind_ap, bindO_ok, bindO_ite, ite_ap, mret_ap, mopt_some, lift0_ap, liftO_ok, take_val, peek_val, peek_own, peek_lck, take_own, mval_int, mval_str, mval_bl, mval_non, mval_tup, mval_lst, mval_fz, mval_dct, mresL_v, mvals, cLt, cLe, cGt, cGe, cEqI, cNeI, cEqB, cIs, cIsNot, isNon, tBo, tIn, tNo, tTu, tLi, xT, xL, xF, omap_some, ok0, ok1, ok2, ok3]⟩
  | x :: l, th => by
    obtain ⟨m, e⟩ := addP_pre th x
    obtain ⟨m', e'⟩ := fold_pre l (addP th x)
    exact ⟨m ++ m', by rw [List.foldl_cons, e', e, List.append_assoc]⟩
theorem signsP_pre {F : D → Int → Int → D} {k : Int} {here : D} : ∀ (l th rs : List D), ∃ m, (signsP F k here l th rs).1 = th ++ m
  | [], th, rs => ⟨[], by simp [asL_ap, fBinL_ap, fLst_ap, fFl_ap, fl_tup, fl_lst, all_mapT, ln_tup, ln_lst, ln_fz, tu_lst, tu_tup, it_tup, it_lst, it_fz, sq_tup, sq_lst, bindT_v, lockF, lockS, wipeF, run_ap, outO_rt, outO_nx, outO_ite, evC, evE, evB, evEs, evPs, evT, evTs, evI, evF, frame0, asP, asQ, asO, mbind_ap, bindO_ok, bindO_ite, ite_ap, mret_ap, mopt_some, lift0_ap, liftO_ok, take_val, peek_val, peek_own, peek_lck, take_own, mval_int, mval_str, mval_bl, mval_non, mval_tup, mval_lst, mval_fz, mval_dct, mresL_v, mvals, cLt, cLe, cGt, cGe, cEqI, cNeI, cEqB, cIs, cIsNot, isNon, tBo, tIn, tNo, tTu, tLi, xT, xL, xF, omap_some, ok0, ok1, ok2, ok3, signsP]⟩
  | g :: r, th, rs => by
    obtain ⟨m, e⟩ := fold_pre (rowP F k here (inI g)) th
    obtain ⟨m', e'⟩ := signsP_pre r ((rowP F k here (inI g)).foldl addP th) (rs ++ [.tup ((rowP F k here (inI g)).map (numP ((rowP F k here (inI g)).foldl addP th)))])
    exact ⟨m ++ m', by rw [signsP, e', e, List.append_assoc]⟩
theorem signsQ_eq {F : D → Int → Int → D} {k : Int} {here : D} : ∀ (l th rs : List D), th.length ≤ 100 → signsQ F k here l th rs = if 100 < (signsP F k here l th rs).1.length then none else some (signsP F k here l th rs)
  | [], th, rs, h => by rw [signsQ, signsP, if_neg (by simpa [asL_ap, fBinL_ap, fLst_ap, fFl_ap, fl_tup, fl_lst, all_mapT, ln_tup, ln_lst, ln_fz, tu_lst, tu_tup, it_tup, it_lst, it_fz, sq_tup, sq_lst, bindT_v, lockF, lockS, wipeF, run_ap, outO_rt, outO_nx, outO_ite, evC, evE, evB, evEs, evPs, evT, evTs, evI, evF, frame0, asP, asQ, asO, mbind_ap, bindO_ok, bindO_ite, ite_ap, mret_ap, mopt_some, lift0_ap, liftO_ok, take_val, peek_val, peek_own, peek_lck, take_own, mval_int, mval_str, mval_bl, mval_non, mval_tup, mval_lst, mval_fz, mval_dct, mresL_v, mvals, cLt, cLe, cGt, cGe, cEqI, cNeI, cEqB, cIs, cIsNot, isNon, tBo, tIn, tNo, tTu, tLi, xT, xL, xF, omap_some, ok0, ok1, ok2, ok3] using h)]
  | g :: r, th, rs, h => by
    rw [signsQ, signsP]
    by_cases h2 : 100 < ((rowP F k here (inI g)).foldl addP th).length
    · rw [if_pos h2]
      obtain ⟨m, e⟩ := signsP_pre (F := F) (k := k) (here := here) r ((rowP F k here (inI g)).foldl addP th) (rs ++ [.tup ((rowP F k here (inI g)).map (numP ((rowP F k here (inI g)).foldl addP th)))])
      rw [if_pos (by rw [e, List.length_append]; omega)]
    · rw [if_neg h2]
      exact signsQ_eq r _ _ (by omega)
theorem R_mem {k : Int} {d : D} (h : d ∈ R k) : ∃ i : Int, d = .int i ∧ 0 ≤ i ∧ i < k := by
  obtain ⟨i, hi⟩ := List.getElem?_of_mem h
  obtain ⟨e, h2⟩ := R_get hi
  exact ⟨i, e, by omega, h2⟩
/-! ### the numbers' dict -/
def nums (n : Nat) : List D := MP.intsFrom 0 n
theorem ints_app : ∀ (n : Nat) (a : Int), MP.intsFrom a (n + 1) = MP.intsFrom a n ++ [.int (a + n)]
  | 0, a => by simp [asL_ap, fBinL_ap, fLst_ap, fFl_ap, fl_tup, fl_lst, all_mapT, ln_tup, ln_lst, ln_fz, tu_lst, tu_tup, it_tup, it_lst, it_fz, sq_tup, sq_lst, bindT_v, lockF, lockS, wipeF, run_ap, outO_rt, outO_nx, outO_ite, evC, evE, evB, evEs, evPs, evT, evTs, evI, evF, frame0, asP, asQ, asO, mbind_ap, bindO_ok, bindO_ite, ite_ap, mret_ap, mopt_some, lift0_ap, liftO_ok, take_val, peek_val, peek_own, peek_lck, take_own, mval_int, mval_str, mval_bl, mval_non, mval_tup, mval_lst, mval_fz, mval_dct, mresL_v, mvals, cLt, cLe, cGt, cGe, cEqI, cNeI, cEqB, cIs, cIsNot, isNon, tBo, tIn, tNo, tTu, tLi, xT, xL, xF, omap_some, ok0, ok1, ok2, ok3, MP.intsFrom]
  | n + 1, a => by
    show D.int a :: MP.intsFrom (a + 1) (n + 1) = D.int a :: (MP.intsFrom (a + 1) n ++ _)
    rw [ints_app n (a + 1)]
    congr 4
    omega
theorem get_ints : ∀ (ks : List D) (a : Int) (x : D), dgetD ks (MP.intsFrom a ks.length) x = (ks.findIdx? fun z => deq z x).map fun (i : Nat) => .int (a + i)
  | [], a, x => rfl
  | k :: ks, a, x => by
    show (if deq k x then some (D.int a) else dgetD ks (MP.intsFrom (a + 1) ks.length) x) = _
    rw [List.findIdx?_cons]
    cases h : deq k x with
    | true => simp [asL_ap, fBinL_ap, fLst_ap, fFl_ap, fl_tup, fl_lst, all_mapT, ln_tup, ln_lst, ln_fz, tu_lst, tu_tup, it_tup, it_lst, it_fz, sq_tup, sq_lst, bindT_v, lockF, lockS, wipeF, run_ap, outO_rt, outO_nx, outO_ite, evC, evE, evB, evEs, evPs, evT, evTs, evI, evF, frame0, asP, asQ, asO, mbind_ap, bindO_ok, bindO_ite, ite_ap, mret_ap, mopt_some, lift0_ap, liftO_ok, take_val, peek_val, peek_own, peek_lck, take_own, mval_int, mval_str, mval_bl, mval_non, mval_tup, mval_lst, mval_fz, mval_dct, mresL_v, mvals, cLt, cLe, cGt, cGe, cEqI, cNeI, cEqB, cIs, cIsNot, isNon, tBo, tIn, tNo, tTu, tLi, xT, xL, xF, omap_some, ok0, ok1, ok2, ok3]
    | false =>
      rw [get_ints ks (a + 1) x]
      simp only [Bool.false_eq_true, if_false, Option.map_map]
      congr 1
      funext i
      show D.int _ = D.int _
      congr 1
      show a + 1 + (i : Int) = a + ((i + 1 : Nat) : Int)
      omega
/-- a thing that first_come numbers -/
structure Gd (d : D) : Prop where
  key : keyOk true d = true
  eq : deq d d = true
theorem Gd.tup {d : D} (h : Gd d) : ∃ l, d = .tup l := by
  have h := h.key
  cases d with
  | tup l => exact ⟨l, rfl⟩
  | _ => cases h
theorem mval_ownD {i : Nat} {t : Bool} {ks vs : List D} {ρ : Fr} {S : Store} (h : ρ[i]? = some (.own (.dct t ks vs))) : mval (.s i) ρ S = .ok (.dct t ks vs) ρ S := by
  simp only [mval, mbind, mres, mret, mrefd, h, moD]
theorem mval_lckD {i : Nat} {t : Bool} {ks vs : List D} {ρ : Fr} {S : Store} (h : ρ[i]? = some (.lck (.dct t ks vs))) : mval (.s i) ρ S = .ok (.dct t ks vs) ρ S := by
  simp only [mval, mbind, mres, mret, mrefd, h, moD]
theorem notIn {t : Bool} {ks vs : List D} {x : D} (h : keyOk t x = true) : opCmp .NotIn x (.dct t ks vs) = some (!dhas ks x) := by
  have e : opCmp .NotIn x (.dct t ks vs) = if keyOk t x then some (!dhas ks x) else none := by cases x <;> rfl
  rw [e, h]; rfl
theorem isN {x : D} : opCmp .Is x .non = some (isNon x) := by cases x <;> rfl
theorem isNt {x : D} : opCmp .IsNot x .non = some (!isNon x) := by cases x <;> rfl
theorem forM_cons {t : Tg} {b : M Fl} {d : D} {l : List D} {ρ ρ1 : Fr} {S S1 : Store} (h1 : bindO (bindT t d ρ S) (fun _ => b) = .ok .nx ρ1 S1) : MP.forM t b (d :: l) ρ S = MP.forM t b l ρ1 S1 := by
  show mbind (bindT t d) (fun _ => mbind b fun f => match f with
      | .nx => MP.forM t b l
      | .ct => MP.forM t b l
      | .bk => mret .nx
      | .rt d => mret (.rt d)) ρ S = _
  rw [mbind_ap]
  cases h : bindT t d ρ S with
  | ok u ρ' S' =>
    rw [h, bindO_ok] at h1
    rw [bindO_ok, mbind_ap, h1, bindO_ok]
  | exc c ρ' S' => rw [h] at h1; cases h1
  | stk => rw [h] at h1; cases h1
theorem forM_exc {t : Tg} {b : M Fl} {d : D} {l : List D} {ρ ρ1 : Fr} {S S1 : Store} {c : Str} (h1 : bindO (bindT t d ρ S) (fun _ => b) = .exc c ρ1 S1) : MP.forM t b (d :: l) ρ S = .exc c ρ1 S1 := by
  show mbind (bindT t d) (fun _ => mbind b fun f => match f with
      | .nx => MP.forM t b l
      | .ct => MP.forM t b l
      | .bk => mret .nx
      | .rt d => mret (.rt d)) ρ S = _
  rw [mbind_ap]
  cases h : bindT t d ρ S with
  | ok u ρ' S' =>
    rw [h, bindO_ok] at h1
    rw [bindO_ok, mbind_ap, h1]; rfl
  | exc c ρ' S' => rw [h] at h1; exact h1
  | stk => rw [h] at h1; cases h1
theorem putD {ks : List D} {x : D} {v : D} (h : keyOk true x = true) (hl : ks.length < 16777216) (hd : dhas ks x = false) {vs : List D} : MP.putAt x v (.dct true ks vs) = some (.dct true (ks ++ [x]) (vs ++ [v])) := by
  unfold MP.putAt
  simp only [h, hd, decide_eq_true hl]
  rfl
section
variable {cl : Calls} {sub : Str → Str → Option Bool} {F : D → Int → Int → D} {s k : Int} {kk : Nat} {caps : List D} {S : Store}
/-- what a loop over a row does: the new ones are kept -/
theorem row_loop (a0 a1 a2 a3 a6 a7 a8 a9 a10 : Slot) (th : List D) (row : List D) (hr : ∀ x ∈ row, x = .non ∨ Gd x) (hl : th.length + row.length ≤ 1000) (a11 : Slot) :
    ∃ b11, forM (.v 11) (evC cl sub b_first_come_1) row [a0, a1, a2, a3, .own (.lst th), .own (.dct true th (nums th.length)), a6, a7, a8, a9, a10, a11] S
      = .ok .nx [a0, a1, a2, a3, .own (.lst (row.foldl addP th)), .own (.dct true (row.foldl addP th) (nums (row.foldl addP th).length)), a6, a7, a8, a9, a10, b11] S := by
  induction row generalizing th a11 with
  | nil => exact ⟨a11, rfl⟩
  | cons x row ih =>
    have hx := hr x List.mem_cons_self
    have hr' : ∀ y ∈ row, y = .non ∨ Gd y := fun y hy => hr y (List.mem_cons_of_mem _ hy)
    rw [List.length_cons] at hl
    have e : bindO (bindT (.v 11) x [a0, a1, a2, a3, .own (.lst th), .own (.dct true th (nums th.length)), a6, a7, a8, a9, a10, a11] S) (fun _ => evC cl sub b_first_come_1) = .ok .nx [a0, a1, a2, a3, .own (.lst (addP th x)), .own (.dct true (addP th x) (nums (addP th x).length)), a6, a7, a8, a9, a10, .val x] S := by
      rcases hx with rfl | hg
      · simp [asL_ap, fBinL_ap, fLst_ap, fFl_ap, fl_tup, fl_lst, all_mapT, ln_tup, ln_lst, ln_fz, tu_lst, tu_tup, it_tup, it_lst, it_fz, sq_tup, sq_lst, bindT_v, lockF, lockS, wipeF, run_ap, outO_rt, outO_nx, outO_ite, evC, evE, evB, evEs, evPs, evT, evTs, evI, evF, frame0, asP, asQ, asO, mbind_ap, bindO_ok, bindO_ite, ite_ap, mret_ap, mopt_some, lift0_ap, liftO_ok, take_val, peek_val, peek_own, peek_lck, take_own, mval_int, mval_str, mval_bl, mval_non, mval_tup, mval_lst, mval_fz, mval_dct, mresL_v, mvals, cLt, cLe, cGt, cGe, cEqI, cNeI, cEqB, cIs, cIsNot, isNon, tBo, tIn, tNo, tTu, tLi, xT, xL, xF, omap_some, ok0, ok1, ok2, ok3, b_first_come_1, addP]
      · obtain ⟨l, rfl⟩ := hg.tup
        have ni := notIn (ks := th) (vs := nums th.length) hg.key
        have q5 := fun (ρ : Fr) h => mval_ownD (ρ := ρ) (S := S) (i := 5) (t := true) (ks := th) (vs := nums th.length) h
        cases hd : dhas th (.tup l) with
        | true =>
          simp [asL_ap, fBinL_ap, fLst_ap, fFl_ap, fl_tup, fl_lst, all_mapT, ln_tup, ln_lst, ln_fz, tu_lst, tu_tup, it_tup, it_lst, it_fz, sq_tup, sq_lst, bindT_v, lockF, lockS, wipeF, run_ap, outO_rt, outO_nx, outO_ite, evC, evE, evB, evEs, evPs, evT, evTs, evI, evF, frame0, asP, asQ, asO, mbind_ap, bindO_ok, bindO_ite, ite_ap, mret_ap, mopt_some, lift0_ap, liftO_ok, take_val, peek_val, peek_own, peek_lck, take_own, mval_int, mval_str, mval_bl, mval_non, mval_tup, mval_lst, mval_fz, mval_dct, mresL_v, mvals, cLt, cLe, cGt, cGe, cEqI, cNeI, cEqB, cIs, cIsNot, isNon, tBo, tIn, tNo, tTu, tLi, xT, xL, xF, omap_some, ok0, ok1, ok2, ok3, b_first_come_1, addP, hd, ni, q5]
        | false =>
          have pd := putD (x := .tup l) (v := .int th.length) (ks := th) (vs := nums th.length) hg.key (by omega) hd
          have cg := fun (ρ : Fr) h => chg_own (ρ := ρ) (S := S) (i := 5) h pd
          have ca := addTo_ok (l := th) (l' := [D.tup l]) (by simp [asL_ap, fBinL_ap, fLst_ap, fFl_ap, fl_tup, fl_lst, all_mapT, ln_tup, ln_lst, ln_fz, tu_lst, tu_tup, it_tup, it_lst, it_fz, sq_tup, sq_lst, bindT_v, lockF, lockS, wipeF, run_ap, outO_rt, outO_nx, outO_ite, evC, evE, evB, evEs, evPs, evT, evTs, evI, evF, frame0, asP, asQ, asO, mbind_ap, bindO_ok, bindO_ite, ite_ap, mret_ap, mopt_some, lift0_ap, liftO_ok, take_val, peek_val, peek_own, peek_lck, take_own, mval_int, mval_str, mval_bl, mval_non, mval_tup, mval_lst, mval_fz, mval_dct, mresL_v, mvals, cLt, cLe, cGt, cGe, cEqI, cNeI, cEqB, cIs, cIsNot, isNon, tBo, tIn, tNo, tTu, tLi, xT, xL, xF, omap_some, ok0, ok1, ok2, ok3]; omega)
          have cg2 := fun (ρ : Fr) h => chg_own (ρ := ρ) (S := S) (i := 4) h ca
          have en : nums (th.length + 1) = nums th.length ++ [.int th.length] := by
            unfold nums
            rw [ints_app]
            simp [asL_ap, fBinL_ap, fLst_ap, fFl_ap, fl_tup, fl_lst, all_mapT, ln_tup, ln_lst, ln_fz, tu_lst, tu_tup, it_tup, it_lst, it_fz, sq_tup, sq_lst, bindT_v, lockF, lockS, wipeF, run_ap, outO_rt, outO_nx, outO_ite, evC, evE, evB, evEs, evPs, evT, evTs, evI, evF, frame0, asP, asQ, asO, mbind_ap, bindO_ok, bindO_ite, ite_ap, mret_ap, mopt_some, lift0_ap, liftO_ok, take_val, peek_val, peek_own, peek_lck, take_own, mval_int, mval_str, mval_bl, mval_non, mval_tup, mval_lst, mval_fz, mval_dct, mresL_v, mvals, cLt, cLe, cGt, cGe, cEqI, cNeI, cEqB, cIs, cIsNot, isNon, tBo, tIn, tNo, tTu, tLi, xT, xL, xF, omap_some, ok0, ok1, ok2, ok3]
          simp [asL_ap, fBinL_ap, fLst_ap, fFl_ap, fl_tup, fl_lst, all_mapT, ln_tup, ln_lst, ln_fz, tu_lst, tu_tup, it_tup, it_lst, it_fz, sq_tup, sq_lst, bindT_v, lockF, lockS, wipeF, run_ap, outO_rt, outO_nx, outO_ite, evC, evE, evB, evEs, evPs, evT, evTs, evI, evF, frame0, asP, asQ, asO, mbind_ap, bindO_ok, bindO_ite, ite_ap, mret_ap, mopt_some, lift0_ap, liftO_ok, take_val, peek_val, peek_own, peek_lck, take_own, mval_int, mval_str, mval_bl, mval_non, mval_tup, mval_lst, mval_fz, mval_dct, mresL_v, mvals, cLt, cLe, cGt, cGe, cEqI, cNeI, cEqB, cIs, cIsNot, isNon, tBo, tIn, tNo, tTu, tLi, xT, xL, xF, omap_some, ok0, ok1, ok2, ok3, b_first_come_1, addP, hd, ni, q5, mval_own, cg, cg2, en]
    have e' : addP th x = th ∨ addP th x = th ++ [x] := by
      unfold addP
      split
      · exact .inl rfl
      · exact .inr rfl
    have hl' : (addP th x).length + row.length ≤ 1000 := by
      rcases e' with e' | e'
      · rw [e']; omega
      · rw [e', List.length_append]
        show th.length + 1 + row.length ≤ 1000
        omega
    obtain ⟨b11, e2⟩ := ih (addP th x) hr' hl' (.val x)
    refine ⟨b11, ?_⟩
    rw [forM_cons e, List.foldl_cons, ← e2]
theorem dhas_app {a b : List D} {x : D} (h : dhas a x = true) : dhas (a ++ b) x = true := by
  unfold dhas at *
  rw [List.any_append, h]; rfl
theorem addP_has {th : List D} {x : D} (h : Gd x) : dhas (addP th x) x = true := by
  obtain ⟨l, rfl⟩ := h.tup
  unfold addP
  split
  · next h1 => simpa [asL_ap, fBinL_ap, fLst_ap, fFl_ap, fl_tup, fl_lst, all_mapT, ln_tup, ln_lst, ln_fz, tu_lst, tu_tup, it_tup, it_lst, it_fz, sq_tup, sq_lst, bindT_v, lockF, lockS, wipeF, run_ap, outO_rt, outO_nx, outO_ite, evC, evE, evB, evEs, evPs, evT, evTs, evI, evF, frame0, asP, asQ, asO, mbind_ap, bindO_ok, bindO_ite, ite_ap, mret_ap, mopt_some, lift0_ap, liftO_ok, take_val, peek_val, peek_own, peek_lck, take_own, mval_int, mval_str, mval_bl, mval_non, mval_tup, mval_lst, mval_fz, mval_dct, mresL_v, mvals, cLt, cLe, cGt, cGe, cEqI, cNeI, cEqB, cIs, cIsNot, isNon, tBo, tIn, tNo, tTu, tLi, xT, xL, xF, omap_some, ok0, ok1, ok2, ok3] using h1
  · unfold dhas
    rw [List.any_append]
    simp [asL_ap, fBinL_ap, fLst_ap, fFl_ap, fl_tup, fl_lst, all_mapT, ln_tup, ln_lst, ln_fz, tu_lst, tu_tup, it_tup, it_lst, it_fz, sq_tup, sq_lst, bindT_v, lockF, lockS, wipeF, run_ap, outO_rt, outO_nx, outO_ite, evC, evE, evB, evEs, evPs, evT, evTs, evI, evF, frame0, asP, asQ, asO, mbind_ap, bindO_ok, bindO_ite, ite_ap, mret_ap, mopt_some, lift0_ap, liftO_ok, take_val, peek_val, peek_own, peek_lck, take_own, mval_int, mval_str, mval_bl, mval_non, mval_tup, mval_lst, mval_fz, mval_dct, mresL_v, mvals, cLt, cLe, cGt, cGe, cEqI, cNeI, cEqB, cIs, cIsNot, isNon, tBo, tIn, tNo, tTu, tLi, xT, xL, xF, omap_some, ok0, ok1, ok2, ok3, h.eq]
theorem fold_has : ∀ {row : List D} {th : List D} {x : D}, x ∈ row → Gd x → dhas (row.foldl addP th) x = true
  | y :: row, th, x, hx, hg => by
    rw [List.foldl_cons]
    rcases List.mem_cons.mp hx with e | hx
    · subst e
      obtain ⟨m, e⟩ := fold_pre row (addP th x)
      rw [e]
      exact dhas_app (addP_has hg)
    · exact fold_has hx hg
theorem num_ok {th : List D} {x : D} (hg : Gd x) (h : dhas th x = true) : opIdx (.dct true th (nums th.length)) x = some (numP th x) := by
  obtain ⟨l, rfl⟩ := hg.tup
  have e : opIdx (.dct true th (nums th.length)) (.tup l) = if keyOk true (.tup l) then dgetD th (nums th.length) (.tup l) else none := rfl
  rw [e, hg.key]
  unfold nums
  rw [get_ints]
  have hs : (th.findIdx? fun z => deq z (.tup l)).isSome = true := by
    rw [List.findIdx?_isSome]; exact h
  obtain ⟨i, hi⟩ := Option.isSome_iff_exists.mp hs
  unfold numP
  rw [hi]
  simp [asL_ap, fBinL_ap, fLst_ap, fFl_ap, fl_tup, fl_lst, all_mapT, ln_tup, ln_lst, ln_fz, tu_lst, tu_tup, it_tup, it_lst, it_fz, sq_tup, sq_lst, bindT_v, lockF, lockS, wipeF, run_ap, outO_rt, outO_nx, outO_ite, evC, evE, evB, evEs, evPs, evT, evTs, evI, evF, frame0, asP, asQ, asO, mbind_ap, bindO_ok, bindO_ite, ite_ap, mret_ap, mopt_some, lift0_ap, liftO_ok, take_val, peek_val, peek_own, peek_lck, take_own, mval_int, mval_str, mval_bl, mval_non, mval_tup, mval_lst, mval_fz, mval_dct, mresL_v, mvals, cLt, cLe, cGt, cGe, cEqI, cNeI, cEqB, cIs, cIsNot, isNon, tBo, tIn, tNo, tTu, tLi, xT, xL, xF, omap_some, ok0, ok1, ok2, ok3]
theorem fold_le : ∀ {row th : List D}, (row.foldl addP th).length ≤ th.length + row.length
  | [], th => by simp [asL_ap, fBinL_ap, fLst_ap, fFl_ap, fl_tup, fl_lst, all_mapT, ln_tup, ln_lst, ln_fz, tu_lst, tu_tup, it_tup, it_lst, it_fz, sq_tup, sq_lst, bindT_v, lockF, lockS, wipeF, run_ap, outO_rt, outO_nx, outO_ite, evC, evE, evB, evEs, evPs, evT, evTs, evI, evF, frame0, asP, asQ, asO, mbind_ap, bindO_ok, bindO_ite, ite_ap, mret_ap, mopt_some, lift0_ap, liftO_ok, take_val, peek_val, peek_own, peek_lck, take_own, mval_int, mval_str, mval_bl, mval_non, mval_tup, mval_lst, mval_fz, mval_dct, mresL_v, mvals, cLt, cLe, cGt, cGe, cEqI, cNeI, cEqB, cIs, cIsNot, isNon, tBo, tIn, tNo, tTu, tLi, xT, xL, xF, omap_some, ok0, ok1, ok2, ok3]
  | x :: row, th => by
    have h := fold_le (row := row) (th := addP th x)
    have h2 : (addP th x).length ≤ th.length + 1 := by
      unfold addP
      split
      · omega
      · simp [asL_ap, fBinL_ap, fLst_ap, fFl_ap, fl_tup, fl_lst, all_mapT, ln_tup, ln_lst, ln_fz, tu_lst, tu_tup, it_tup, it_lst, it_fz, sq_tup, sq_lst, bindT_v, lockF, lockS, wipeF, run_ap, outO_rt, outO_nx, outO_ite, evC, evE, evB, evEs, evPs, evT, evTs, evI, evF, frame0, asP, asQ, asO, mbind_ap, bindO_ok, bindO_ite, ite_ap, mret_ap, mopt_some, lift0_ap, liftO_ok, take_val, peek_val, peek_own, peek_lck, take_own, mval_int, mval_str, mval_bl, mval_non, mval_tup, mval_lst, mval_fz, mval_dct, mresL_v, mvals, cLt, cLe, cGt, cGe, cEqI, cNeI, cEqB, cIs, cIsNot, isNon, tBo, tIn, tNo, tTu, tLi, xT, xL, xF, omap_some, ok0, ok1, ok2, ok3]
    rw [List.foldl_cons, List.length_cons]
    omega
theorem row_len {here : D} {g : Int} : (rowP F k here g).length = k.toNat := by
  rw [rowP, List.length_map, R_len]
theorem sign_turn (hk : 0 ≤ k) (hk2 : k ≤ 9) {here : D} {g : Int} (hg : Gd here) (hr : ∀ i, 0 ≤ i → i < k → F here g i = .non ∨ Gd (F here g i))
    (hc : ∀ i, 0 ≤ i → i < k → cl.c kk caps [here, .int g, .int i] S = .ok (F here g i) S) {th tb rs : List D} (ht : th[tb.length]? = some here) (hl : th.length ≤ 100) (hrs : rs.length ≤ 100) (a2 a8 a9 a10 a11 : Slot) :
    if 100 < ((rowP F k here g).foldl addP th).length then
      ∃ ρ', bindO (bindT (.v 8) (.int g) [.val (.int s), .val (.int k), a2, .clo kk caps, .own (.lst th), .own (.dct true th (nums th.length)), .own (.lst tb), .own (.lst rs), a8, a9, a10, a11] S) (fun _ => evC cl sub b_first_come_3) = .exc "TooWide" ρ' S
    else ∃ b8 b9 b10 b11, bindO (bindT (.v 8) (.int g) [.val (.int s), .val (.int k), a2, .clo kk caps, .own (.lst th), .own (.dct true th (nums th.length)), .own (.lst tb), .own (.lst rs), a8, a9, a10, a11] S) (fun _ => evC cl sub b_first_come_3)
      = .ok .nx [.val (.int s), .val (.int k), a2, .clo kk caps, .own (.lst ((rowP F k here g).foldl addP th)), .own (.dct true ((rowP F k here g).foldl addP th) (nums ((rowP F k here g).foldl addP th).length)), .own (.lst tb), .own (.lst (rs ++ [.tup ((rowP F k here g).map (numP ((rowP F k here g).foldl addP th)))])), b8, b9, b10, b11] S := by
  have hrow : ∀ x ∈ rowP F k here g, x = .non ∨ Gd x := by
    intro x hx
    obtain ⟨d, hd, rfl⟩ := List.mem_map.mp hx
    obtain ⟨i, rfl, i1, i2⟩ := R_mem hd
    exact hr i i1 i2
  have rk := R_ok (k := k) hk (by omega)
  have at' : atD th (tb.length : Int) = some here := by
    obtain ⟨h1, h2⟩ := List.getElem?_eq_some_iff.mp ht
    rw [at_nat h1, h2]
  have key1 : ∀ a9, fLc (evCl cl sub c_first_come_2) [.val (.int s), .val (.int k), a2, .clo kk caps, .own (.lst th), .own (.dct true th (nums th.length)), .own (.lst tb), .own (.lst rs), .val (.int g), a9, a10, a11] S = .ok (rowP F k here g) [.val (.int s), .val (.int k), a2, .clo kk caps, .own (.lst th), .own (.dct true th (nums th.length)), .own (.lst tb), .own (.lst rs), .val (.int g), a9, a10, a11] S := fun a9 =>
    lc_map (l := R k) (g := fun d => F here g (inI d)) (by simp [asL_ap, fBinL_ap, fLst_ap, fFl_ap, fl_tup, fl_lst, all_mapT, ln_tup, ln_lst, ln_fz, tu_lst, tu_tup, it_tup, it_lst, it_fz, sq_tup, sq_lst, bindT_v, lockF, lockS, wipeF, run_ap, outO_rt, outO_nx, outO_ite, evC, evE, evB, evEs, evPs, evT, evTs, evI, evF, frame0, asP, asQ, asO, mbind_ap, bindO_ok, bindO_ite, ite_ap, mret_ap, mopt_some, lift0_ap, liftO_ok, take_val, peek_val, peek_own, peek_lck, take_own, mval_int, mval_str, mval_bl, mval_non, mval_tup, mval_lst, mval_fz, mval_dct, mresL_v, mvals, cLt, cLe, cGt, cGe, cEqI, cNeI, cEqB, cIs, cIsNot, isNon, tBo, tIn, tNo, tTu, tLi, xT, xL, xF, omap_some, ok0, ok1, ok2, ok3, rk]) (fun d hd => by
      obtain ⟨i, rfl, i1, i2⟩ := R_mem hd
      exact ⟨[.val (.int s), .val (.int k), lockS a2, .clo kk caps, .lck (.lst th), .lck (.dct true th (nums th.length)), .lck (.lst tb), .lck (.lst rs), .val (.int g), lockS a9, .val (.int i), lockS a11], by simp [asL_ap, fBinL_ap, fLst_ap, fFl_ap, fl_tup, fl_lst, all_mapT, ln_tup, ln_lst, ln_fz, tu_lst, tu_tup, it_tup, it_lst, it_fz, sq_tup, sq_lst, bindT_v, lockF, lockS, wipeF, run_ap, outO_rt, outO_nx, outO_ite, evC, evE, evB, evEs, evPs, evT, evTs, evI, evF, frame0, asP, asQ, asO, mbind_ap, bindO_ok, bindO_ite, ite_ap, mret_ap, mopt_some, lift0_ap, liftO_ok, take_val, peek_val, peek_own, peek_lck, take_own, mval_int, mval_str, mval_bl, mval_non, mval_tup, mval_lst, mval_fz, mval_dct, mresL_v, mvals, cLt, cLe, cGt, cGe, cEqI, cNeI, cEqB, cIs, cIsNot, isNon, tBo, tIn, tNo, tTu, tLi, xT, xL, xF, omap_some, ok0, ok1, ok2, ok3, mval_lck, at', hc i i1 i2, inI]⟩) (by rw [R_len]; omega)
  have rl := row_len (F := F) (k := k) (here := here) (g := g)
  have hfl := fold_le (row := rowP F k here g) (th := th)
  have fh := fun (x : D) (h : x ∈ rowP F k here g) (hg : Gd x) => fold_has (th := th) h hg
  obtain ⟨b11, e2⟩ := row_loop (cl := cl) (sub := sub) (S := S) (.val (.int s)) (.val (.int k)) a2 (.clo kk caps) (.own (.lst tb)) (.own (.lst rs)) (.val (.int g)) (.val (.lst (rowP F k here g))) a10 th (rowP F k here g) hrow (by omega) a11
  generalize rowP F k here g = row at *
  generalize row.foldl addP th = th' at *
  have rg : opCmp .Gt (.int (th'.length : Int)) (.int 100) = some (decide (100 < (th'.length : Int))) := rfl
  by_cases h : 100 < th'.length
  · rw [if_pos h]
    have h' : (100 : Int) < th'.length := by omega
    exact ⟨[.val (.int s), .val (.int k), a2, .clo kk caps, .own (.lst th'), .own (.dct true th' (nums th'.length)), .own (.lst tb), .own (.lst rs), .val (.int g), .val (.lst row), a10, b11], by
      simp [asL_ap, fBinL_ap, fLst_ap, fFl_ap, fl_tup, fl_lst, all_mapT, ln_tup, ln_lst, ln_fz, tu_lst, tu_tup, it_tup, it_lst, it_fz, sq_tup, sq_lst, bindT_v, lockF, lockS, wipeF, run_ap, outO_rt, outO_nx, outO_ite, evC, evE, evB, evEs, evPs, evT, evTs, evI, evF, frame0, asP, asQ, asO, mbind_ap, bindO_ok, bindO_ite, ite_ap, mret_ap, mopt_some, lift0_ap, liftO_ok, take_val, peek_val, peek_own, peek_lck, take_own, mval_int, mval_str, mval_bl, mval_non, mval_tup, mval_lst, mval_fz, mval_dct, mresL_v, mvals, cLt, cLe, cGt, cGe, cEqI, cNeI, cEqB, cIs, cIsNot, isNon, tBo, tIn, tNo, tTu, tLi, xT, xL, xF, omap_some, ok0, ok1, ok2, ok3, b_first_come_3, key1, e2, h', mval_own, mexc, bindO]⟩
  · rw [if_neg h]
    have h' : ¬ (100 : Int) < th'.length := by omega
    have key2 : fLc (evCl cl sub c_first_come_0) [.val (.int s), .val (.int k), a2, .clo kk caps, .own (.lst th'), .own (.dct true th' (nums th'.length)), .own (.lst tb), .own (.lst rs), .val (.int g), .val (.lst row), a10, b11] S = .ok (row.map (numP th')) [.val (.int s), .val (.int k), a2, .clo kk caps, .own (.lst th'), .own (.dct true th' (nums th'.length)), .own (.lst tb), .own (.lst rs), .val (.int g), .val (.lst row), a10, b11] S :=
      lc_map (l := row) (g := numP th') (by simp [asL_ap, fBinL_ap, fLst_ap, fFl_ap, fl_tup, fl_lst, all_mapT, ln_tup, ln_lst, ln_fz, tu_lst, tu_tup, it_tup, it_lst, it_fz, sq_tup, sq_lst, bindT_v, lockF, lockS, wipeF, run_ap, outO_rt, outO_nx, outO_ite, evC, evE, evB, evEs, evPs, evT, evTs, evI, evF, frame0, asP, asQ, asO, mbind_ap, bindO_ok, bindO_ite, ite_ap, mret_ap, mopt_some, lift0_ap, liftO_ok, take_val, peek_val, peek_own, peek_lck, take_own, mval_int, mval_str, mval_bl, mval_non, mval_tup, mval_lst, mval_fz, mval_dct, mresL_v, mvals, cLt, cLe, cGt, cGe, cEqI, cNeI, cEqB, cIs, cIsNot, isNon, tBo, tIn, tNo, tTu, tLi, xT, xL, xF, omap_some, ok0, ok1, ok2, ok3]) (fun x hx => by
        refine ⟨[.val (.int s), .val (.int k), lockS a2, .clo kk caps, .lck (.lst th'), .lck (.dct true th' (nums th'.length)), .lck (.lst tb), .lck (.lst rs), .val (.int g), .val (.lst row), lockS a10, .val x], ?_⟩
        rcases hrow x hx with rfl | hx'
        · simp [asL_ap, fBinL_ap, fLst_ap, fFl_ap, fl_tup, fl_lst, all_mapT, ln_tup, ln_lst, ln_fz, tu_lst, tu_tup, it_tup, it_lst, it_fz, sq_tup, sq_lst, bindT_v, lockF, lockS, wipeF, run_ap, outO_rt, outO_nx, outO_ite, evC, evE, evB, evEs, evPs, evT, evTs, evI, evF, frame0, asP, asQ, asO, mbind_ap, bindO_ok, bindO_ite, ite_ap, mret_ap, mopt_some, lift0_ap, liftO_ok, take_val, peek_val, peek_own, peek_lck, take_own, mval_int, mval_str, mval_bl, mval_non, mval_tup, mval_lst, mval_fz, mval_dct, mresL_v, mvals, cLt, cLe, cGt, cGe, cEqI, cNeI, cEqB, cIs, cIsNot, isNon, tBo, tIn, tNo, tTu, tLi, xT, xL, xF, omap_some, ok0, ok1, ok2, ok3, numP]
        · have q5 := fun (ρ : Fr) h => mval_lckD (ρ := ρ) (S := S) (i := 5) (t := true) (ks := th') (vs := nums th'.length) h
          have nk := num_ok hx' (fh x hx hx')
          obtain ⟨l, rfl⟩ := hx'.tup
          simp [asL_ap, fBinL_ap, fLst_ap, fFl_ap, fl_tup, fl_lst, all_mapT, ln_tup, ln_lst, ln_fz, tu_lst, tu_tup, it_tup, it_lst, it_fz, sq_tup, sq_lst, bindT_v, lockF, lockS, wipeF, run_ap, outO_rt, outO_nx, outO_ite, evC, evE, evB, evEs, evPs, evT, evTs, evI, evF, frame0, asP, asQ, asO, mbind_ap, bindO_ok, bindO_ite, ite_ap, mret_ap, mopt_some, lift0_ap, liftO_ok, take_val, peek_val, peek_own, peek_lck, take_own, mval_int, mval_str, mval_bl, mval_non, mval_tup, mval_lst, mval_fz, mval_dct, mresL_v, mvals, cLt, cLe, cGt, cGe, cEqI, cNeI, cEqB, cIs, cIsNot, isNon, tBo, tIn, tNo, tTu, tLi, xT, xL, xF, omap_some, ok0, ok1, ok2, ok3, q5, nk]) (by omega)
    have ca := addTo_ok (l := rs) (l' := [D.tup (row.map (numP th'))]) (by show rs.length + 1 ≤ _; omega)
    have cg := fun (ρ : Fr) h => chg_own (ρ := ρ) (S := S) (i := 7) h ca
    refine ⟨.val (.int g), .val (.lst row), a10, b11, ?_⟩
    simp [asL_ap, fBinL_ap, fLst_ap, fFl_ap, fl_tup, fl_lst, all_mapT, ln_tup, ln_lst, ln_fz, tu_lst, tu_tup, it_tup, it_lst, it_fz, sq_tup, sq_lst, bindT_v, lockF, lockS, wipeF, run_ap, outO_rt, outO_nx, outO_ite, evC, evE, evB, evEs, evPs, evT, evTs, evI, evF, frame0, asP, asQ, asO, mbind_ap, bindO_ok, bindO_ite, ite_ap, mret_ap, mopt_some, lift0_ap, liftO_ok, take_val, peek_val, peek_own, peek_lck, take_own, mval_int, mval_str, mval_bl, mval_non, mval_tup, mval_lst, mval_fz, mval_dct, mresL_v, mvals, cLt, cLe, cGt, cGe, cEqI, cNeI, cEqB, cIs, cIsNot, isNon, tBo, tIn, tNo, tTu, tLi, xT, xL, xF, omap_some, ok0, ok1, ok2, ok3, b_first_come_3, key1, e2, h', key2, mval_own, cg]
end
end SH

namespace SH
open PySem PySem.Spec MP
/-- what a follow tells of a thing -/
structure Fol (cl : Calls) (kk : Nat) (caps : List D) (S : Store) (F : D → Int → Int → D) (s k : Int) (Gp : D → Prop) : Prop where
  gd : ∀ x, Gp x → Gd x
  out : ∀ x g i, Gp x → 0 ≤ g → g < s → 0 ≤ i → i < k → F x g i = .non ∨ Gp (F x g i)
  run : ∀ x g i, Gp x → 0 ≤ g → g < s → 0 ≤ i → i < k → cl.c kk caps [x, .int g, .int i] S = .ok (F x g i) S
theorem fold_all {Gp : D → Prop} : ∀ {row th : List D}, (∀ x ∈ row, x = .non ∨ Gp x) → (∀ x ∈ th, Gp x) → ∀ x ∈ row.foldl addP th, Gp x
  | [], th, _, h, x, hx => h x hx
  | y :: row, th, hr, h, x, hx => by
    refine fold_all (row := row) (th := addP th y) (fun z hz => hr z (List.mem_cons_of_mem _ hz)) ?_ x hx
    intro z hz
    unfold addP at hz
    split at hz
    · exact h z hz
    · next hn =>
      rcases List.mem_append.mp hz with hz | hz
      · exact h z hz
      · rw [List.mem_singleton.mp hz]
        rcases hr y List.mem_cons_self with e | e
        · subst e; exact absurd rfl hn
        · exact e
theorem whl_next {c : M Bool} {b : M Fl} {n : Nat} {ρ ρ1 : Fr} {S S1 : Store} (hc : c ρ S = .ok true ρ S) (hb : b ρ S = .ok .nx ρ1 S1) : whlM c b (n + 1) ρ S = whlM c b n ρ1 S1 := by
  rw [whlM, mbind_ap, hc, bindO_ok]
  simp only [if_true]
  rw [mbind_ap, hb, bindO_ok]
theorem whl_rt {c : M Bool} {b : M Fl} {n : Nat} {d : D} {ρ ρ1 : Fr} {S S1 : Store} (hc : c ρ S = .ok true ρ S) (hb : b ρ S = .ok (.rt d) ρ1 S1) : whlM c b (n + 1) ρ S = .ok (.rt d) ρ1 S1 := by
  rw [whlM, mbind_ap, hc, bindO_ok]
  simp only [if_true]
  rw [mbind_ap, hb, bindO_ok]
  rfl
section
variable {cl : Calls} {sub : Str → Str → Option Bool} {F : D → Int → Int → D} {s k : Int} {kk : Nat} {caps : List D} {S : Store} {Gp : D → Prop} (W : Fol cl kk caps S F s k Gp)
include W
theorem row_all {x : D} {g : Int} (hx : Gp x) (g1 : 0 ≤ g) (g2 : g < s) : ∀ y ∈ rowP F k x g, y = .non ∨ Gp y := by
  intro y hy
  obtain ⟨d, hd, rfl⟩ := List.mem_map.mp hy
  obtain ⟨i, rfl, i1, i2⟩ := R_mem hd
  exact W.out x g i hx g1 g2 i1 i2
theorem sign_loop (hk : 0 ≤ k) (hk2 : k ≤ 9) {here : D} (hh : Gp here) {tb : List D} (a2 : Slot) : ∀ (l : List D), (∀ x ∈ l, ∃ g : Int, x = .int g ∧ 0 ≤ g ∧ g < s) → ∀ (th rs : List D) (a8 a9 a10 a11 : Slot), th[tb.length]? = some here → th.length ≤ 100 → rs.length + l.length ≤ 100 → (∀ x ∈ th, Gp x) →
    (signsQ F k here l th rs = none → ∃ ρ', MP.forM (.v 8) (evC cl sub b_first_come_3) l [.val (.int s), .val (.int k), a2, .clo kk caps, .own (.lst th), .own (.dct true th (nums th.length)), .own (.lst tb), .own (.lst rs), a8, a9, a10, a11] S = .exc "TooWide" ρ' S) ∧
    (∀ q, signsQ F k here l th rs = some q → q.1.length ≤ 100 ∧ (∀ x ∈ q.1, Gp x) ∧ ∃ b8 b9 b10 b11, MP.forM (.v 8) (evC cl sub b_first_come_3) l [.val (.int s), .val (.int k), a2, .clo kk caps, .own (.lst th), .own (.dct true th (nums th.length)), .own (.lst tb), .own (.lst rs), a8, a9, a10, a11] S
      = .ok .nx [.val (.int s), .val (.int k), a2, .clo kk caps, .own (.lst q.1), .own (.dct true q.1 (nums q.1.length)), .own (.lst tb), .own (.lst q.2), b8, b9, b10, b11] S) := by
  intro l
  induction l with
  | nil =>
    intro _ th rs a8 a9 a10 a11 ht hl hrs hg
    refine ⟨fun h => (by rw [signsQ] at h; exact absurd h (by simp [asL_ap, fBinL_ap, fLst_ap, fFl_ap, fl_tup, fl_lst, all_mapT, ln_tup, ln_lst, ln_fz, tu_lst, tu_tup, it_tup, it_lst, it_fz, sq_tup, sq_lst, bindT_v, lockF, lockS, wipeF, run_ap, outO_rt, outO_nx, outO_ite, evC, evE, evB, evEs, evPs, evT, evTs, evI, evF, frame0, asP, asQ, asO, mbind_ap, bindO_ok, bindO_ite, ite_ap, mret_ap, mopt_some, lift0_ap, liftO_ok, take_val, peek_val, peek_own, peek_lck, take_own, mval_int, mval_str, mval_bl, mval_non, mval_tup, mval_lst, mval_fz, mval_dct, mresL_v, mvals, cLt, cLe, cGt, cGe, cEqI, cNeI, cEqB, cIs, cIsNot, isNon, tBo, tIn, tNo, tTu, tLi, xT, xL, xF, omap_some, ok0, ok1, ok2, ok3])), fun q h => ?_⟩
    have h : some (th, rs) = some q := h
    cases h
    exact ⟨hl, hg, a8, a9, a10, a11, rfl⟩
  | cons d l ih =>
    intro hm th rs a8 a9 a10 a11 ht hl hrs hg
    obtain ⟨g, rfl, g1, g2⟩ := hm d List.mem_cons_self
    have hm' : ∀ x ∈ l, ∃ g : Int, x = .int g ∧ 0 ≤ g ∧ g < s := fun x hx => hm x (List.mem_cons_of_mem _ hx)
    have tn := sign_turn (cl := cl) (sub := sub) (F := F) (s := s) (kk := kk) (caps := caps) (S := S) hk hk2 (W.gd _ hh) (fun i i1 i2 => (W.out here g i hh g1 g2 i1 i2).imp id (W.gd _)) (fun i i1 i2 => W.run here g i hh g1 g2 i1 i2) (rs := rs) ht hl (by omega) a2 a8 a9 a10 a11
    have fa := fold_all (row_all W hh g1 g2) hg
    obtain ⟨m, fp⟩ := fold_pre (rowP F k here g) th
    have sq : signsQ F k here (.int g :: l) th rs = if 100 < ((rowP F k here g).foldl addP th).length then none else signsQ F k here l ((rowP F k here g).foldl addP th) (rs ++ [.tup ((rowP F k here g).map (numP ((rowP F k here g).foldl addP th)))]) := rfl
    rw [sq]
    have ht' : ((rowP F k here g).foldl addP th)[tb.length]? = some here := by
      obtain ⟨h1, h2⟩ := List.getElem?_eq_some_iff.mp ht
      rw [fp, List.getElem?_append_left h1, ht]
    by_cases h : 100 < ((rowP F k here g).foldl addP th).length
    · rw [if_pos h] at tn ⊢
      obtain ⟨ρ', e⟩ := tn
      exact ⟨fun _ => ⟨ρ', forM_exc e⟩, fun q hq => by cases hq⟩
    · rw [if_neg h] at tn ⊢
      obtain ⟨b8, b9, b10, b11, e⟩ := tn
      rw [List.length_cons] at hrs
      have := ih hm' ((rowP F k here g).foldl addP th) (rs ++ [.tup ((rowP F k here g).map (numP ((rowP F k here g).foldl addP th)))]) b8 b9 b10 b11 ht' (by omega) (by rw [List.length_append]; show rs.length + 1 + _ ≤ _; omega) fa
      rw [forM_cons e]
      exact this
theorem come_loop (hs : 0 ≤ s) (hs2 : s ≤ 9) (hk : 0 ≤ k) (hk2 : k ≤ 9) (a2 : Slot) : ∀ (n : Nat) (th tb : List D) (a7 a8 a9 a10 a11 : Slot), th.length ≤ 100 → tb.length ≤ th.length → 100 < tb.length + n → (∀ x ∈ th, Gp x) →
    (comeP F s k n th tb = none → ∃ ρ', whlM (evT cl sub (.cmp .Lt (.bl .len (.cons (.var 6) .nil)) (.bl .len (.cons (.var 4) .nil)))) (evC cl sub b_first_come_4) n [.val (.int s), .val (.int k), a2, .clo kk caps, .own (.lst th), .own (.dct true th (nums th.length)), .own (.lst tb), a7, a8, a9, a10, a11] S = .exc "TooWide" ρ' S) ∧
    (∀ q, comeP F s k n th tb = some q → q.1.length ≤ 100 ∧ (∀ x ∈ q.1, Gp x) ∧ ∃ a3 b7 b8 b9 b10 b11, whlM (evT cl sub (.cmp .Lt (.bl .len (.cons (.var 6) .nil)) (.bl .len (.cons (.var 4) .nil)))) (evC cl sub b_first_come_4) n [.val (.int s), .val (.int k), a2, .clo kk caps, .own (.lst th), .own (.dct true th (nums th.length)), .own (.lst tb), a7, a8, a9, a10, a11] S
      = .ok .nx [.val (.int s), .val (.int k), a2, a3, .own (.lst q.1), .own (.dct true q.1 (nums q.1.length)), .own (.lst q.2), b7, b8, b9, b10, b11] S) := by
  intro n
  induction n with
  | zero => intro th tb _ _ _ _ _ h1 h2 h3; omega
  | succ n ih =>
    intro th tb a7 a8 a9 a10 a11 hl htb hn hg
    by_cases h : tb.length < th.length
    · have hh : th[tb.length]? = some (ge th tb.length) := by
        unfold ge
        rw [List.getD_eq_getElem?_getD, List.getElem?_eq_getElem h]; rfl
      have hgh : Gp (ge th tb.length) := hg _ (List.mem_of_getElem? hh)
      have sl := sign_loop (sub := sub) W hk hk2 hgh (tb := tb) a2 (R s) (fun x hx => R_mem hx) th [] a8 a9 a10 a11 hh hl (by rw [R_len]; show 0 + _ ≤ _; omega) hg
      rw [signsQ_eq _ _ _ hl] at sl
      have ce : comeP F s k (n + 1) th tb = if 100 < (signsP F k (ge th tb.length) (R s) th []).1.length then none else comeP F s k n (signsP F k (ge th tb.length) (R s) th []).1 (tb ++ [.tup (signsP F k (ge th tb.length) (R s) th []).2]) := by
        rw [comeP, if_pos h]
      rw [ce]
      have rs := R_ok (k := s) hs (by omega)
      have h' : (tb.length : Int) < th.length := by omega
      obtain ⟨m, sp⟩ := signsP_pre (F := F) (k := k) (here := ge th tb.length) (R s) th []
      generalize signsP F k (ge th tb.length) (R s) th [] = q0 at sl sp ⊢
      by_cases h2 : 100 < q0.1.length
      · rw [if_pos h2] at sl ⊢
        obtain ⟨ρ', e⟩ := sl.1 rfl
        refine ⟨fun _ => ⟨ρ', ?_⟩, fun q hq => (by cases hq)⟩
        simp [asL_ap, fBinL_ap, fLst_ap, fFl_ap, fl_tup, fl_lst, all_mapT, ln_tup, ln_lst, ln_fz, tu_lst, tu_tup, it_tup, it_lst, it_fz, sq_tup, sq_lst, bindT_v, lockF, lockS, wipeF, run_ap, outO_rt, outO_nx, outO_ite, evC, evE, evB, evEs, evPs, evT, evTs, evI, evF, frame0, asP, asQ, asO, mbind_ap, bindO_ok, bindO_ite, ite_ap, mret_ap, mopt_some, lift0_ap, liftO_ok, take_val, peek_val, peek_own, peek_lck, take_own, mval_int, mval_str, mval_bl, mval_non, mval_tup, mval_lst, mval_fz, mval_dct, mresL_v, mvals, cLt, cLe, cGt, cGe, cEqI, cNeI, cEqB, cIs, cIsNot, isNon, tBo, tIn, tNo, tTu, tLi, xT, xL, xF, omap_some, ok0, ok1, ok2, ok3, whlM, h', mval_own, b_first_come_4, rs, e, bindO]
      · rw [if_neg h2] at sl ⊢
        obtain ⟨q1, q2, b8, b9, b10, b11, e⟩ := sl.2 _ rfl
        have ca := addTo_ok (l := tb) (l' := [D.tup q0.2]) (by show tb.length + 1 ≤ _; omega)
        have cg := fun (ρ : Fr) h => chg_own (ρ := ρ) (S := S) (i := 6) h ca
        have it := ih q0.1 (tb ++ [.tup q0.2]) (.own (.lst q0.2)) b8 b9 b10 b11 q1 (by rw [List.length_append, sp, List.length_append]; show tb.length + 1 ≤ th.length + m.length; omega) (by rw [List.length_append]; show _ < tb.length + 1 + n; omega) q2
        have wl := whl_next (c := evT cl sub (.cmp .Lt (.bl .len (.cons (.var 6) .nil)) (.bl .len (.cons (.var 4) .nil)))) (b := evC cl sub b_first_come_4) (n := n) (ρ := [.val (.int s), .val (.int k), a2, .clo kk caps, .own (.lst th), .own (.dct true th (nums th.length)), .own (.lst tb), a7, a8, a9, a10, a11]) (S := S)
          (ρ1 := [.val (.int s), .val (.int k), a2, .clo kk caps, .own (.lst q0.1), .own (.dct true q0.1 (nums q0.1.length)), .own (.lst (tb ++ [.tup q0.2])), .own (.lst q0.2), b8, b9, b10, b11]) (S1 := S) (by simp [asL_ap, fBinL_ap, fLst_ap, fFl_ap, fl_tup, fl_lst, all_mapT, ln_tup, ln_lst, ln_fz, tu_lst, tu_tup, it_tup, it_lst, it_fz, sq_tup, sq_lst, bindT_v, lockF, lockS, wipeF, run_ap, outO_rt, outO_nx, outO_ite, evC, evE, evB, evEs, evPs, evT, evTs, evI, evF, frame0, asP, asQ, asO, mbind_ap, bindO_ok, bindO_ite, ite_ap, mret_ap, mopt_some, lift0_ap, liftO_ok, take_val, peek_val, peek_own, peek_lck, take_own, mval_int, mval_str, mval_bl, mval_non, mval_tup, mval_lst, mval_fz, mval_dct, mresL_v, mvals, cLt, cLe, cGt, cGe, cEqI, cNeI, cEqB, cIs, cIsNot, isNon, tBo, tIn, tNo, tTu, tLi, xT, xL, xF, omap_some, ok0, ok1, ok2, ok3, h', mval_own]) (by simp [asL_ap, fBinL_ap, fLst_ap, fFl_ap, fl_tup, fl_lst, all_mapT, ln_tup, ln_lst, ln_fz, tu_lst, tu_tup, it_tup, it_lst, it_fz, sq_tup, sq_lst, bindT_v, lockF, lockS, wipeF, run_ap, outO_rt, outO_nx, outO_ite, evC, evE, evB, evEs, evPs, evT, evTs, evI, evF, frame0, asP, asQ, asO, mbind_ap, bindO_ok, bindO_ite, ite_ap, mret_ap, mopt_some, lift0_ap, liftO_ok, take_val, peek_val, peek_own, peek_lck, take_own, mval_int, mval_str, mval_bl, mval_non, mval_tup, mval_lst, mval_fz, mval_dct, mresL_v, mvals, cLt, cLe, cGt, cGe, cEqI, cNeI, cEqB, cIs, cIsNot, isNon, tBo, tIn, tNo, tTu, tLi, xT, xL, xF, omap_some, ok0, ok1, ok2, ok3, b_first_come_4, mval_own, rs, e, cg])
        rw [wl]
        exact it
    · have ce : comeP F s k (n + 1) th tb = some (th, tb) := by rw [comeP, if_neg h]
      rw [ce]
      have h' : ¬ (tb.length : Int) < th.length := by omega
      refine ⟨fun h => (by cases h), fun q hq => ?_⟩
      cases hq
      refine ⟨hl, hg, .clo kk caps, a7, a8, a9, a10, a11, ?_⟩
      simp [asL_ap, fBinL_ap, fLst_ap, fFl_ap, fl_tup, fl_lst, all_mapT, ln_tup, ln_lst, ln_fz, tu_lst, tu_tup, it_tup, it_lst, it_fz, sq_tup, sq_lst, bindT_v, lockF, lockS, wipeF, run_ap, outO_rt, outO_nx, outO_ite, evC, evE, evB, evEs, evPs, evT, evTs, evI, evF, frame0, asP, asQ, asO, mbind_ap, bindO_ok, bindO_ite, ite_ap, mret_ap, mopt_some, lift0_ap, liftO_ok, take_val, peek_val, peek_own, peek_lck, take_own, mval_int, mval_str, mval_bl, mval_non, mval_tup, mval_lst, mval_fz, mval_dct, mresL_v, mvals, cLt, cLe, cGt, cGe, cEqI, cNeI, cEqB, cIs, cIsNot, isNon, tBo, tIn, tNo, tTu, tLi, xT, xL, xF, omap_some, ok0, ok1, ok2, ok3, whlM, h', mval_own]
end
end SH

namespace SH
open PySem PySem.Spec MP
theorem FA_eq {Pg : Pgm} {n : Nat} {ds : List Slot} {S : Store} {fn : Fn} (h : Find Pg fn) (hk : fn.kwd = []) (hn : ds.length = fn.npos) : (callF Pg (n + 1)).fa fn.name ds S = runFnA (callF Pg n) Pg.sub fn ds S := by
  show (match Pg.fns.find? (fun f => f.name == fn.name) with
    | some fn => if ds.length == fn.npos && fn.kwd.isEmpty then runFnA (callF Pg n) Pg.sub fn ds S else .stk
    | none => .stk) = _
  rw [h]
  show (if ds.length == fn.npos && fn.kwd.isEmpty then _ else _) = _
  rw [hk, hn]
  simp [asL_ap, fBinL_ap, fLst_ap, fFl_ap, fl_tup, fl_lst, all_mapT, ln_tup, ln_lst, ln_fz, tu_lst, tu_tup, it_tup, it_lst, it_fz, sq_tup, sq_lst, bindT_v, lockF, lockS, wipeF, run_ap, outO_rt, outO_nx, outO_ite, evC, evE, evB, evEs, evPs, evT, evTs, evI, evF, frame0, asP, asQ, asO, mbind_ap, bindO_ok, bindO_ite, ite_ap, mret_ap, mopt_some, lift0_ap, liftO_ok, take_val, peek_val, peek_own, peek_lck, take_own, mval_int, mval_str, mval_bl, mval_non, mval_tup, mval_lst, mval_fz, mval_dct, mresL_v, mvals, cLt, cLe, cGt, cGe, cEqI, cNeI, cEqB, cIs, cIsNot, isNon, tBo, tIn, tNo, tTu, tLi, xT, xL, xF, omap_some, ok0, ok1, ok2, ok3]
theorem runA_ap {cl : Calls} {sub : Str → Str → Option Bool} {fn : Fn} {args : List Slot} {S : Store} : runFnA cl sub fn args S = outO (evC cl sub fn.body (frameA fn args) S) := rfl
theorem outO_exc {c : Str} {ρ : Fr} {S : Store} : outO (.exc c ρ S) = .exc c S := rfl
def dlitO (t : Bool) (l : List D) : Option MO := ((unflat l).bind fun p => dbuild t p.1 p.2 [] []).map fun p => .dct t p.1 p.2
theorem fDlit_ap {t : Bool} {ml : M (List D)} {ρ : Fr} {S : Store} : fDlit t ml ρ S = bindO (ml ρ S) fun l => mopt (dlitO t l) := rfl
def w_first_come : C := .whl 400 (.cmp .Lt (.bl .len (.cons (.var 6) .nil)) (.bl .len (.cons (.var 4) .nil))) b_first_come_4
theorem b_fc_eq : b_first_come = (.seq (.setO 4 (.lst (.cons (.var 2) .nil))) (.seq (.setD 5 (.dlit true (.cons (.var 2) (.cons (.cst (.int 0)) .nil)))) (.seq (.setO 6 (.lst .nil)) (.seq w_first_come (.seq (.ret (.tup (.cons (.bl .tuple (.cons (.var 4) .nil)) (.cons (.bl .tuple (.cons (.var 6) .nil)) .nil)))) .skip))))) := rfl
structure HC (Pg : Pgm) : Prop where
  first_come : Find Pg f_first_come
  come_to : Find Pg f_come_to
  breaks : Find Pg f_breaks_by_some
def comeO (S : Store) : Option (List D × List D) → Out0
  | none => .exc "TooWide" S
  | some q => .ok (.tup [.tup q.1, .tup q.2]) S
section
variable {Pg : Pgm} (H : HC Pg) {F : D → Int → Int → D} {s k : Int} {kk : Nat} {caps : List D} {S : Store} {Gp : D → Prop} {n : Nat}
include H
theorem e_first_come (W : Fol (callF Pg n) kk caps S F s k Gp) (hs : 0 ≤ s) (hs2 : s ≤ 9) (hk : 0 ≤ k) (hk2 : k ≤ 9) {b : List D} (hb : Gp (.tup b)) :
    (callF Pg (n + 1)).fa "first_come" [.val (.int s), .val (.int k), .val (.tup b), .clo kk caps] S = comeO S (comeP F s k 400 [.tup b] []) := by
  rw [show ("first_come" : Str) = f_first_come.name from rfl, FA_eq H.first_come rfl rfl]
  obtain ⟨h1, h2⟩ := come_loop (sub := Pg.sub) W hs hs2 hk hk2 (.val (.tup b)) 400 [.tup b] [] .none .none .none .none .none (by show 1 ≤ 100; omega) (by show 0 ≤ 1; omega) (by show 100 < 0 + 400; omega) (fun x hx => by rw [List.mem_singleton.mp hx]; exact hb)
  have kt := (W.gd _ hb).key
  have dl : nums [D.tup b].length = [.int 0] := rfl
  rw [dl] at h1 h2
  have dm : dlitO true [.tup b, .int 0] = some (.dct true [.tup b] [.int 0]) := by
    simp [asL_ap, fBinL_ap, fLst_ap, fFl_ap, fl_tup, fl_lst, all_mapT, ln_tup, ln_lst, ln_fz, tu_lst, tu_tup, it_tup, it_lst, it_fz, sq_tup, sq_lst, bindT_v, lockF, lockS, wipeF, run_ap, outO_rt, outO_nx, outO_ite, evC, evE, evB, evEs, evPs, evT, evTs, evI, evF, frame0, asP, asQ, asO, mbind_ap, bindO_ok, bindO_ite, ite_ap, mret_ap, mopt_some, lift0_ap, liftO_ok, take_val, peek_val, peek_own, peek_lck, take_own, mval_int, mval_str, mval_bl, mval_non, mval_tup, mval_lst, mval_fz, mval_dct, mresL_v, mvals, cLt, cLe, cGt, cGe, cEqI, cNeI, cEqB, cIs, cIsNot, isNon, tBo, tIn, tNo, tTu, tLi, xT, xL, xF, omap_some, ok0, ok1, ok2, ok3, dlitO, unflat, dbuild, kt, dhas]
  rw [runA_ap, show f_first_come.body = b_first_come from rfl, b_fc_eq]
  cases hq : comeP F s k 400 [.tup b] [] with
  | none =>
    obtain ⟨ρ', e⟩ := h1 hq
    have e : evC (callF Pg n) Pg.sub w_first_come _ S = _ := e
    simp [asL_ap, fBinL_ap, fLst_ap, fFl_ap, fl_tup, fl_lst, all_mapT, ln_tup, ln_lst, ln_fz, tu_lst, tu_tup, it_tup, it_lst, it_fz, sq_tup, sq_lst, bindT_v, lockF, lockS, wipeF, run_ap, outO_rt, outO_nx, outO_ite, evC, evE, evB, evEs, evPs, evT, evTs, evI, evF, frame0, asP, asQ, asO, mbind_ap, bindO_ok, bindO_ite, ite_ap, mret_ap, mopt_some, lift0_ap, liftO_ok, take_val, peek_val, peek_own, peek_lck, take_own, mval_int, mval_str, mval_bl, mval_non, mval_tup, mval_lst, mval_fz, mval_dct, mresL_v, mvals, cLt, cLe, cGt, cGe, cEqI, cNeI, cEqB, cIs, cIsNot, isNon, tBo, tIn, tNo, tTu, tLi, xT, xL, xF, omap_some, ok0, ok1, ok2, ok3, frameA, f_first_come, evM, fDlit_ap, dm, e, bindO_exc, outO_exc, comeO]
  | some q =>
    obtain ⟨q1, q2, a3, b7, b8, b9, b10, b11, e⟩ := h2 q hq
    have e : evC (callF Pg n) Pg.sub w_first_come _ S = _ := e
    simp [asL_ap, fBinL_ap, fLst_ap, fFl_ap, fl_tup, fl_lst, all_mapT, ln_tup, ln_lst, ln_fz, tu_lst, tu_tup, it_tup, it_lst, it_fz, sq_tup, sq_lst, bindT_v, lockF, lockS, wipeF, run_ap, outO_rt, outO_nx, outO_ite, evC, evE, evB, evEs, evPs, evT, evTs, evI, evF, frame0, asP, asQ, asO, mbind_ap, bindO_ok, bindO_ite, ite_ap, mret_ap, mopt_some, lift0_ap, liftO_ok, take_val, peek_val, peek_own, peek_lck, take_own, mval_int, mval_str, mval_bl, mval_non, mval_tup, mval_lst, mval_fz, mval_dct, mresL_v, mvals, cLt, cLe, cGt, cGe, cEqI, cNeI, cEqB, cIs, cIsNot, isNon, tBo, tIn, tNo, tTu, tLi, xT, xL, xF, omap_some, ok0, ok1, ok2, ok3, frameA, f_first_come, evM, fDlit_ap, dm, e, comeO, mval_own]
end
end SH

namespace SH
open PySem PySem.Spec MP
/-! ### a saying's rooms -/
def ent (rooms : List D) (a g i : Nat) : D := ge (itT (ge (itT (ge rooms a)) g)) i
def Rooms (s k : Int) (rooms : List D) : Prop := ∀ r ∈ rooms, Row s (Row k (Beh rooms.length)) r
theorem ge_get {l : List D} {a : Nat} (h : a < l.length) : atD l (a : Int) = some (ge l a) ∧ ge l a ∈ l := by
  have e : ge l a = l[a] := by unfold ge; rw [List.getD_eq_getElem?_getD, List.getElem?_eq_getElem h]; rfl
  exact ⟨by rw [at_nat h, e], by rw [e]; exact List.getElem_mem h⟩
theorem Row.isT {m : Int} {P : D → Prop} {d : D} (h : Row m P d) : d = .tup (itT d) ∧ ((itT d).length : Int) = m ∧ ∀ x ∈ itT d, P x := by
  obtain ⟨l, rfl, h1, h2⟩ := h
  exact ⟨rfl, h1, h2⟩
section
variable {s k : Int} {rooms : List D} (hR : Rooms s k rooms)
include hR
theorem room_at {a : Nat} (ha : a < rooms.length) : atD rooms (a : Int) = some (.tup (itT (ge rooms a))) ∧ ((itT (ge rooms a)).length : Int) = s ∧ ∀ x ∈ itT (ge rooms a), Row k (Beh rooms.length) x := by
  obtain ⟨e, h⟩ := ge_get ha
  obtain ⟨e1, e2, e3⟩ := (hR _ h).isT
  exact ⟨by rw [e]; exact congrArg some e1, e2, e3⟩
theorem row_at {a g : Nat} (ha : a < rooms.length) (hg : (g : Int) < s) : atD (itT (ge rooms a)) (g : Int) = some (.tup (itT (ge (itT (ge rooms a)) g))) ∧ ((itT (ge (itT (ge rooms a)) g)).length : Int) = k ∧ ∀ x ∈ itT (ge (itT (ge rooms a)) g), Beh rooms.length x := by
  obtain ⟨_, e2, e3⟩ := room_at hR ha
  obtain ⟨e, h⟩ := ge_get (l := itT (ge rooms a)) (a := g) (by omega)
  obtain ⟨e4, e5, e6⟩ := (e3 _ h).isT
  exact ⟨by rw [e]; exact congrArg some e4, e5, e6⟩
theorem ent_at {a g i : Nat} (ha : a < rooms.length) (hg : (g : Int) < s) (hi : (i : Int) < k) : atD (itT (ge (itT (ge rooms a)) g)) (i : Int) = some (ent rooms a g i) ∧ Beh rooms.length (ent rooms a g i) := by
  obtain ⟨_, e2, e3⟩ := row_at hR ha hg
  obtain ⟨e, h⟩ := ge_get (l := itT (ge (itT (ge rooms a)) g)) (a := i) (by omega)
  exact ⟨e, e3 _ h⟩
end
/-- whether a deed breaks by some sign -/
def brk (rooms : List D) (a i : Nat) : Bool := (itT (ge rooms a)).any fun row => isNon (ge (itT row) i)
/-- the room come to -/
def atL (rooms : List D) (here : D) (g : Nat) : D := match here with
  | .tup [.int a, .int i] => ent rooms a.toNat g i.toNat
  | _ => .int 0
/-- what the late saying's rooms come to -/
def lagF (rooms : List D) (here : D) (g i : Int) : D := if brk rooms (inI (atL rooms here g.toNat)).toNat i.toNat then .non else .tup [atL rooms here g.toNat, .int i]
/-- a late room -/
def LR (s k : Int) (rooms : List D) (x : D) : Prop := x = .tup [] ∨ ∃ a i : Nat, x = .tup [.int a, .int i] ∧ a < rooms.length ∧ (i : Int) < k ∧ brk rooms a i = false
theorem any_map {f : D → Bool} : ∀ l : List D, opBl .any [.lst (l.map fun x => .bl (f x))] = some (.bl (l.any f)) := fun l => by
  have e : ∀ l : List D, allBl (l.map fun x => .bl (f x)) = some (l.map f) := fun l => by
    induction l with
    | nil => rfl
    | cons x l ih =>
      show (allBl (l.map fun x => .bl (f x))).map (f x :: ·) = _
      rw [ih]
      rfl
  show (allBl (l.map fun x => .bl (f x))).map (fun bs => D.bl (bs.any id)) = _
  rw [e]
  simp [asL_ap, fBinL_ap, fLst_ap, fFl_ap, fl_tup, fl_lst, all_mapT, ln_tup, ln_lst, ln_fz, tu_lst, tu_tup, it_tup, it_lst, it_fz, sq_tup, sq_lst, bindT_v, lockF, lockS, wipeF, run_ap, outO_rt, outO_nx, outO_ite, evC, evE, evB, evEs, evPs, evT, evTs, evI, evF, frame0, asP, asQ, asO, mbind_ap, bindO_ok, bindO_ite, ite_ap, mret_ap, mopt_some, lift0_ap, liftO_ok, take_val, peek_val, peek_own, peek_lck, take_own, mval_int, mval_str, mval_bl, mval_non, mval_tup, mval_lst, mval_fz, mval_dct, mresL_v, mvals, cLt, cLe, cGt, cGe, cEqI, cNeI, cEqB, cIs, cIsNot, isNon, tBo, tIn, tNo, tTu, tLi, xT, xL, xF, omap_some, ok0, ok1, ok2, ok3, List.any_map]
section
variable {s k : Int} {rooms : List D} (hR : Rooms s k rooms) (h1 : 1 ≤ rooms.length)
include hR
theorem brk_ent {a i : Nat} (ha : a < rooms.length) (h : brk rooms a i = false) {g : Nat} (hg : (g : Int) < s) : isNon (ent rooms a g i) = false := by
  obtain ⟨_, e2, e3⟩ := room_at hR ha
  obtain ⟨e, hm⟩ := ge_get (l := itT (ge rooms a)) (a := g) (by omega)
  unfold brk at h
  rw [List.any_eq_false] at h
  have := h _ hm
  unfold ent
  simpa [asL_ap, fBinL_ap, fLst_ap, fFl_ap, fl_tup, fl_lst, all_mapT, ln_tup, ln_lst, ln_fz, tu_lst, tu_tup, it_tup, it_lst, it_fz, sq_tup, sq_lst, bindT_v, lockF, lockS, wipeF, run_ap, outO_rt, outO_nx, outO_ite, evC, evE, evB, evEs, evPs, evT, evTs, evI, evF, frame0, asP, asQ, asO, mbind_ap, bindO_ok, bindO_ite, ite_ap, mret_ap, mopt_some, lift0_ap, liftO_ok, take_val, peek_val, peek_own, peek_lck, take_own, mval_int, mval_str, mval_bl, mval_non, mval_tup, mval_lst, mval_fz, mval_dct, mresL_v, mvals, cLt, cLe, cGt, cGe, cEqI, cNeI, cEqB, cIs, cIsNot, isNon, tBo, tIn, tNo, tTu, tLi, xT, xL, xF, omap_some, ok0, ok1, ok2, ok3] using this
include h1
theorem atL_ok {x : D} (hx : LR s k rooms x) {g : Nat} (hg : (g : Int) < s) : ∃ a : Nat, atL rooms x g = .int a ∧ a < rooms.length := by
  rcases hx with rfl | ⟨a, i, rfl, ha, hi, hb⟩
  · exact ⟨0, rfl, by omega⟩
  · have hn := brk_ent hR ha hb hg
    rcases (ent_at hR ha hg hi).2 with e | ⟨b, e, b1, b2⟩
    · rw [e] at hn; cases hn
    · refine ⟨b.toNat, ?_, by omega⟩
      show ent rooms (a : Int).toNat g (i : Int).toNat = _
      rw [Int.toNat_natCast, Int.toNat_natCast, e]
      congr 1
      omega
theorem lagF_ok {x : D} (hx : LR s k rooms x) {g i : Int} (g1 : 0 ≤ g) (g2 : g < s) (i1 : 0 ≤ i) (i2 : i < k) : lagF rooms x g i = .non ∨ LR s k rooms (lagF rooms x g i) := by
  obtain ⟨a, e, ha⟩ := atL_ok hR h1 hx (g := g.toNat) (by omega)
  unfold lagF
  rw [e]
  show (if brk rooms (a : Int).toNat i.toNat = true then _ else _) = _ ∨ _
  rw [Int.toNat_natCast]
  cases hb : brk rooms a i.toNat with
  | true => exact .inl rfl
  | false => exact .inr (.inr ⟨a, i.toNat, by rw [show ((i.toNat : Nat) : Int) = i by omega, show brk rooms (inI (D.int (a : Int))).toNat i.toNat = false from hb]; rfl, ha, by omega, hb⟩)
end
theorem LR.gd {s k : Int} {rooms : List D} {x : D} (h : LR s k rooms x) : Gd x := by
  rcases h with rfl | ⟨a, i, rfl, _⟩
  · exact ⟨rfl, rfl⟩
  · exact ⟨rfl, by simp [asL_ap, fBinL_ap, fLst_ap, fFl_ap, fl_tup, fl_lst, all_mapT, ln_tup, ln_lst, ln_fz, tu_lst, tu_tup, it_tup, it_lst, it_fz, sq_tup, sq_lst, bindT_v, lockF, lockS, wipeF, run_ap, outO_rt, outO_nx, outO_ite, evC, evE, evB, evEs, evPs, evT, evTs, evI, evF, frame0, asP, asQ, asO, mbind_ap, bindO_ok, bindO_ite, ite_ap, mret_ap, mopt_some, lift0_ap, liftO_ok, take_val, peek_val, peek_own, peek_lck, take_own, mval_int, mval_str, mval_bl, mval_non, mval_tup, mval_lst, mval_fz, mval_dct, mresL_v, mvals, cLt, cLe, cGt, cGe, cEqI, cNeI, cEqB, cIs, cIsNot, isNon, tBo, tIn, tNo, tTu, tLi, xT, xL, xF, omap_some, ok0, ok1, ok2, ok3, deq, deqs]⟩
section
variable {Pg : Pgm} (H : HC Pg) {s k : Int} {rooms : List D} (hR : Rooms s k rooms) (h1 : 1 ≤ rooms.length)
include H hR h1
theorem e_come_to (n : Nat) (S : Store) {x : D} (hx : LR s k rooms x) {g : Nat} (hg : (g : Int) < s) : (callF Pg (n + 1)).f "come_to" [.tup [.int s, .int k, .tup rooms], x, .int g] [] [] S = .ok (atL rooms x g) S := by
  rw [show ("come_to" : Str) = f_come_to.name from rfl, F_eq H.come_to rfl rfl]
  rcases hx with rfl | ⟨a, i, rfl, ha, hi, hb⟩
  · rfl
  · have e1 := (room_at hR ha).1
    have e2 := (row_at hR ha hg).1
    have e3 := (ent_at hR ha hg hi).1
    have e0 : atD [.int s, .int k, .tup rooms] 2 = some (.tup rooms) := rfl
    have ec : opCmp .Eq (.tup [.int (a : Int), .int (i : Int)]) (.tup []) = some false := rfl
    simp [asL_ap, fBinL_ap, fLst_ap, fFl_ap, fl_tup, fl_lst, all_mapT, ln_tup, ln_lst, ln_fz, tu_lst, tu_tup, it_tup, it_lst, it_fz, sq_tup, sq_lst, bindT_v, lockF, lockS, wipeF, run_ap, outO_rt, outO_nx, outO_ite, evC, evE, evB, evEs, evPs, evT, evTs, evI, evF, frame0, asP, asQ, asO, mbind_ap, bindO_ok, bindO_ite, ite_ap, mret_ap, mopt_some, lift0_ap, liftO_ok, take_val, peek_val, peek_own, peek_lck, take_own, mval_int, mval_str, mval_bl, mval_non, mval_tup, mval_lst, mval_fz, mval_dct, mresL_v, mvals, cLt, cLe, cGt, cGe, cEqI, cNeI, cEqB, cIs, cIsNot, isNon, tBo, tIn, tNo, tTu, tLi, xT, xL, xF, omap_some, ok0, ok1, ok2, ok3, f_come_to, b_come_to, ec, bindT, bindTs, e0, e1, e2, e3, atL]
theorem e_breaks (n : Nat) (S : Store) {a i : Nat} (ha : a < rooms.length) (hi : (i : Int) < k) (hs : s ≤ 9) : (callF Pg (n + 1)).f "breaks_by_some" [.tup [.int s, .int k, .tup rooms], .int a, .int i] [] [] S = .ok (.bl (brk rooms a i)) S := by
  rw [show ("breaks_by_some" : Str) = f_breaks_by_some.name from rfl, F_eq H.breaks rfl rfl]
  obtain ⟨e1, e2, e3⟩ := room_at hR ha
  have e0 : atD [.int s, .int k, .tup rooms] 2 = some (.tup rooms) := rfl
  have key : fLc (evCl (callF Pg n) Pg.sub c_breaks_by_some_0) [.val (.tup [.int s, .int k, .tup rooms]), .val (.int a), .val (.int i), .none] S = .ok ((itT (ge rooms a)).map fun row => .bl (isNon (ge (itT row) i))) [.val (.tup [.int s, .int k, .tup rooms]), .val (.int a), .val (.int i), .none] S :=
    lc_map (l := itT (ge rooms a)) (g := fun row => .bl (isNon (ge (itT row) i))) (by simp [asL_ap, fBinL_ap, fLst_ap, fFl_ap, fl_tup, fl_lst, all_mapT, ln_tup, ln_lst, ln_fz, tu_lst, tu_tup, it_tup, it_lst, it_fz, sq_tup, sq_lst, bindT_v, lockF, lockS, wipeF, run_ap, outO_rt, outO_nx, outO_ite, evC, evE, evB, evEs, evPs, evT, evTs, evI, evF, frame0, asP, asQ, asO, mbind_ap, bindO_ok, bindO_ite, ite_ap, mret_ap, mopt_some, lift0_ap, liftO_ok, take_val, peek_val, peek_own, peek_lck, take_own, mval_int, mval_str, mval_bl, mval_non, mval_tup, mval_lst, mval_fz, mval_dct, mresL_v, mvals, cLt, cLe, cGt, cGe, cEqI, cNeI, cEqB, cIs, cIsNot, isNon, tBo, tIn, tNo, tTu, tLi, xT, xL, xF, omap_some, ok0, ok1, ok2, ok3, e0, e1]) (fun d hd => by
      obtain ⟨f1, f2, f3⟩ := (e3 d hd).isT
      obtain ⟨f4, f5⟩ := ge_get (l := itT d) (a := i) (by omega)
      have f6 := f3 _ f5
      refine ⟨[.val (.tup [.int s, .int k, .tup rooms]), .val (.int a), .val (.int i), .val d], ?_⟩
      generalize ge (itT d) i = z at *
      rw [f1]
      rcases f6 with rfl | ⟨j, rfl, _⟩ <;> simp [asL_ap, fBinL_ap, fLst_ap, fFl_ap, fl_tup, fl_lst, all_mapT, ln_tup, ln_lst, ln_fz, tu_lst, tu_tup, it_tup, it_lst, it_fz, sq_tup, sq_lst, bindT_v, lockF, lockS, wipeF, run_ap, outO_rt, outO_nx, outO_ite, evC, evE, evB, evEs, evPs, evT, evTs, evI, evF, frame0, asP, asQ, asO, mbind_ap, bindO_ok, bindO_ite, ite_ap, mret_ap, mopt_some, lift0_ap, liftO_ok, take_val, peek_val, peek_own, peek_lck, take_own, mval_int, mval_str, mval_bl, mval_non, mval_tup, mval_lst, mval_fz, mval_dct, mresL_v, mvals, cLt, cLe, cGt, cGe, cEqI, cNeI, cEqB, cIs, cIsNot, isNon, tBo, tIn, tNo, tTu, tLi, xT, xL, xF, omap_some, ok0, ok1, ok2, ok3, f4]) (by omega)
  have am := any_map (f := fun row => isNon (ge (itT row) i)) (itT (ge rooms a))
  show outO _ = Out0.ok (.bl ((itT (ge rooms a)).any fun row => isNon (ge (itT row) i))) S
  generalize ((itT (ge rooms a)).any fun row => isNon (ge (itT row) i)) = z at *
  generalize ((itT (ge rooms a)).map fun row => D.bl (isNon (ge (itT row) i))) = zs at *
  simp [asL_ap, fBinL_ap, fLst_ap, fFl_ap, fl_tup, fl_lst, all_mapT, ln_tup, ln_lst, ln_fz, tu_lst, tu_tup, it_tup, it_lst, it_fz, sq_tup, sq_lst, bindT_v, lockF, lockS, wipeF, run_ap, outO_rt, outO_nx, outO_ite, evC, evE, evB, evEs, evPs, evT, evTs, evI, evF, frame0, asP, asQ, asO, mbind_ap, bindO_ok, bindO_ite, ite_ap, mret_ap, mopt_some, lift0_ap, liftO_ok, take_val, peek_val, peek_own, peek_lck, take_own, mval_int, mval_str, mval_bl, mval_non, mval_tup, mval_lst, mval_fz, mval_dct, mresL_v, mvals, cLt, cLe, cGt, cGe, cEqI, cNeI, cEqB, cIs, cIsNot, isNon, tBo, tIn, tNo, tTu, tLi, xT, xL, xF, omap_some, ok0, ok1, ok2, ok3, f_breaks_by_some, b_breaks_by_some, key, am]
end
end SH

namespace K75
open PySem PySem.Spec MP
theorem hHC : SH.HC Pg := ⟨rfl, rfl, rfl⟩
theorem hHS : SH.HS Pg := ⟨rfl, rfl, rfl, rfl, rfl, rfl, rfl⟩
theorem hHL : SH.HL Pg := ⟨rfl, rfl⟩
theorem hHP : SH.HP Pg := ⟨rfl, rfl, rfl, rfl⟩
theorem hHO : SH.HO Pg := ⟨rfl, rfl⟩
theorem hlag : SH.Find Pg f_lag := rfl
theorem hllag : SH.Find Pg f__law_lag := rfl
end K75

namespace K75
open PySem PySem.Spec MP SH
def q_lag : E := .calla "first_come" (.v (.var 1) (.v (.var 2) (.v (.tup .nil) (.clo 4 0 [0] .nil))))
theorem b_lag_eq : b_lag = (.seq (.set (.tup (.cons (.v 1) (.cons (.v 2) (.cons (.v 3) .nil)))) (.var 0)) (.seq (.fdef 4 0) (.seq (.set (.tup (.cons (.v 5) (.cons (.v 6) .nil))) q_lag) (.seq (.ret (.tup (.cons (.var 5) (.cons (.tup (.cons (.var 1) (.cons (.var 2) (.cons (.var 6) .nil)))) .nil)))) .skip)))) := rfl
section
variable {s k : Int} {rooms : List D} (hR : Rooms s k rooms) (h1 : 1 ≤ rooms.length) (hs : s ≤ 9)
include hR h1 hs
theorem e_follow (n : Nat) (S : Store) {x : D} (hx : LR s k rooms x) {g i : Int} (g1 : 0 ≤ g) (g2 : g < s) (i1 : 0 ≤ i) (i2 : i < k) :
    (callF Pg (n + 2)).c 0 [.tup [.int s, .int k, .tup rooms]] [x, .int g, .int i] S = .ok (lagF rooms x g i) S := by
  have e0 : (callF Pg (n + 2)).c 0 [.tup [.int s, .int k, .tup rooms]] [x, .int g, .int i] S = runFn (callF Pg (n + 1)) Pg.sub f_lag_follow [x, .int g, .int i, .tup [.int s, .int k, .tup rooms]] S := rfl
  rw [e0]
  obtain ⟨g, rfl⟩ : ∃ m : Nat, g = m := ⟨g.toNat, by omega⟩
  obtain ⟨i, rfl⟩ : ∃ m : Nat, i = m := ⟨i.toNat, by omega⟩
  obtain ⟨a, ea, ha⟩ := atL_ok hR h1 hx g2
  have e1 := e_come_to hHC hR h1 n S hx g2
  have e2 := e_breaks hHC hR h1 n S ha i2 hs
  unfold lagF
  rw [ea] at e1
  rw [Int.toNat_natCast, Int.toNat_natCast, ea, show (inI (D.int (a : Int))).toNat = a from rfl]
  cases hb : brk rooms a i with
  | true => rw [hb] at e2; simp [asL_ap, fBinL_ap, fLst_ap, fFl_ap, fl_tup, fl_lst, all_mapT, ln_tup, ln_lst, ln_fz, tu_lst, tu_tup, it_tup, it_lst, it_fz, sq_tup, sq_lst, bindT_v, lockF, lockS, wipeF, run_ap, outO_rt, outO_nx, outO_ite, evC, evE, evB, evEs, evPs, evT, evTs, evI, evF, frame0, asP, asQ, asO, mbind_ap, bindO_ok, bindO_ite, ite_ap, mret_ap, mopt_some, lift0_ap, liftO_ok, take_val, peek_val, peek_own, peek_lck, take_own, mval_int, mval_str, mval_bl, mval_non, mval_tup, mval_lst, mval_fz, mval_dct, mresL_v, mvals, cLt, cLe, cGt, cGe, cEqI, cNeI, cEqB, cIs, cIsNot, isNon, tBo, tIn, tNo, tTu, tLi, xT, xL, xF, omap_some, ok0, ok1, ok2, ok3, f_lag_follow, b_lag_follow, e1, e2]
  | false => rw [hb] at e2; simp [asL_ap, fBinL_ap, fLst_ap, fFl_ap, fl_tup, fl_lst, all_mapT, ln_tup, ln_lst, ln_fz, tu_lst, tu_tup, it_tup, it_lst, it_fz, sq_tup, sq_lst, bindT_v, lockF, lockS, wipeF, run_ap, outO_rt, outO_nx, outO_ite, evC, evE, evB, evEs, evPs, evT, evTs, evI, evF, frame0, asP, asQ, asO, mbind_ap, bindO_ok, bindO_ite, ite_ap, mret_ap, mopt_some, lift0_ap, liftO_ok, take_val, peek_val, peek_own, peek_lck, take_own, mval_int, mval_str, mval_bl, mval_non, mval_tup, mval_lst, mval_fz, mval_dct, mresL_v, mvals, cLt, cLe, cGt, cGe, cEqI, cNeI, cEqB, cIs, cIsNot, isNon, tBo, tIn, tNo, tTu, tLi, xT, xL, xF, omap_some, ok0, ok1, ok2, ok3, f_lag_follow, b_lag_follow, e1, e2]
theorem fol (n : Nat) (S : Store) : Fol (callF Pg (n + 2)) 0 [.tup [.int s, .int k, .tup rooms]] S (lagF rooms) s k (LR s k rooms) :=
  ⟨fun x h => h.gd, fun x g i hx g1 g2 i1 i2 => lagF_ok hR h1 hx g1 g2 i1 i2, fun x g i hx g1 g2 i1 i2 => e_follow hR h1 hs n S hx g1 g2 i1 i2⟩
/-- what lag tells -/
def lagO (s k : Int) (S : Store) : Option (List D × List D) → Out0
  | none => .exc "TooWide" S
  | some q => .ok (.tup [.tup q.1, .tup [.int s, .int k, .tup q.2]]) S
theorem e_lag (hs0 : 0 ≤ s) (hk0 : 0 ≤ k) (hk : k ≤ 9) (n : Nat) (S : Store) :
    (callF Pg (n + 4)).f "lag" [.tup [.int s, .int k, .tup rooms]] [] [] S = lagO s k S (comeP (lagF rooms) s k 400 [.tup []] []) := by
  have ef := e_first_come (n := n + 2) hHC (fol hR h1 hs n S) hs0 hs hk0 hk (b := []) (.inl rfl)
  rw [show ("lag" : Str) = f_lag.name from rfl, F_eq hlag rfl rfl]
  have ra : evE (callF Pg (n + 3)) Pg.sub q_lag [Slot.val (.tup [.int s, .int k, .tup rooms]), .val (.int s), .val (.int k), .val (.tup rooms), .fdef 0, .none, .none] S = liftO ((callF Pg (n + 2 + 1)).fa "first_come" [.val (.int s), .val (.int k), .val (.tup []), .clo 0 [.tup [.int s, .int k, .tup rooms]]] S) [Slot.val (.tup [.int s, .int k, .tup rooms]), .val (.int s), .val (.int k), .val (.tup rooms), .fdef 0, .none, .none] := rfl
  rw [ef] at ra
  rw [run_ap, show f_lag.body = b_lag from rfl, b_lag_eq]
  cases hq : comeP (lagF rooms) s k 400 [.tup []] [] with
  | none =>
    rw [hq] at ra
    have ra : evE (callF Pg (n + 3)) Pg.sub q_lag _ S = .exc "TooWide" _ S := ra
    simp [asL_ap, fBinL_ap, fLst_ap, fFl_ap, fl_tup, fl_lst, all_mapT, ln_tup, ln_lst, ln_fz, tu_lst, tu_tup, it_tup, it_lst, it_fz, sq_tup, sq_lst, bindT_v, lockF, lockS, wipeF, run_ap, outO_rt, outO_nx, outO_ite, evC, evE, evB, evEs, evPs, evT, evTs, evI, evF, frame0, asP, asQ, asO, mbind_ap, bindO_ok, bindO_ite, ite_ap, mret_ap, mopt_some, lift0_ap, liftO_ok, take_val, peek_val, peek_own, peek_lck, take_own, mval_int, mval_str, mval_bl, mval_non, mval_tup, mval_lst, mval_fz, mval_dct, mresL_v, mvals, cLt, cLe, cGt, cGe, cEqI, cNeI, cEqB, cIs, cIsNot, isNon, tBo, tIn, tNo, tTu, tLi, xT, xL, xF, omap_some, ok0, ok1, ok2, ok3, f_lag, bindT, bindTs, ra, bindO_exc, outO_exc, lagO]
  | some q =>
    rw [hq] at ra
    have ra : evE (callF Pg (n + 3)) Pg.sub q_lag _ S = .ok (.tup [.tup q.1, .tup q.2]) _ S := ra
    simp [asL_ap, fBinL_ap, fLst_ap, fFl_ap, fl_tup, fl_lst, all_mapT, ln_tup, ln_lst, ln_fz, tu_lst, tu_tup, it_tup, it_lst, it_fz, sq_tup, sq_lst, bindT_v, lockF, lockS, wipeF, run_ap, outO_rt, outO_nx, outO_ite, evC, evE, evB, evEs, evPs, evT, evTs, evI, evF, frame0, asP, asQ, asO, mbind_ap, bindO_ok, bindO_ite, ite_ap, mret_ap, mopt_some, lift0_ap, liftO_ok, take_val, peek_val, peek_own, peek_lck, take_own, mval_int, mval_str, mval_bl, mval_non, mval_tup, mval_lst, mval_fz, mval_dct, mresL_v, mvals, cLt, cLe, cGt, cGe, cEqI, cNeI, cEqB, cIs, cIsNot, isNon, tBo, tIn, tNo, tTu, tLi, xT, xL, xF, omap_some, ok0, ok1, ok2, ok3, f_lag, bindT, bindTs, ra, lagO]
end
end K75

namespace SH
open PySem PySem.Spec MP
/-- a row, deed by deed -/
def deedP (f : D → D) : List D → List D → List D → List D × List D
  | [], th, row => (th, row)
  | d :: l, th, row => deedP f l (addP th (f d)) (row ++ [numP (addP th (f d)) (f d)])
theorem num_stable {th m : List D} {x : D} (h : x = .non ∨ dhas th x = true) : numP (th ++ m) x = numP th x := by
  rcases h with rfl | h
  · rfl
  · have hs : (th.findIdx? fun z => deq z x).isSome = true := by rw [List.findIdx?_isSome]; exact h
    obtain ⟨i, hi⟩ := Option.isSome_iff_exists.mp hs
    unfold numP
    rw [List.findIdx?_append, hi]
    rfl
theorem deedP_eq {f : D → D} : ∀ (l th row : List D), (∀ d ∈ l, f d = .non ∨ Gd (f d)) → deedP f l th row = ((l.map f).foldl addP th, row ++ (l.map f).map (numP ((l.map f).foldl addP th)))
  | [], th, row, h => by simp [deedP]
  | d :: l, th, row, h => by
    rw [deedP, deedP_eq l _ _ fun x hx => h x (List.mem_cons_of_mem _ hx), List.map_cons, List.foldl_cons, List.map_cons, List.append_assoc]
    obtain ⟨m, e⟩ := fold_pre (l.map f) (addP th (f d))
    have : numP ((l.map f).foldl addP (addP th (f d))) (f d) = numP (addP th (f d)) (f d) := by
      rw [e]
      exact num_stable ((h d List.mem_cons_self).imp id addP_has)
    rw [this]
    rfl
/-- what a law's lag keeps can be asked of -/
theorem LR.lay {s k : Int} {rooms : List D} {x : D} (h : LR s k rooms x) : lay x = true ∧ dep x ≤ 1 := by
  rcases h with rfl | ⟨a, i, rfl, _⟩
  · exact ⟨rfl, by decide⟩
  · exact ⟨rfl, by show max 0 (max 0 0) + 1 ≤ 1; decide⟩
theorem lays_of : ∀ {l : List D}, (∀ x ∈ l, lay x = true) → lays l = true
  | [], _ => rfl
  | d :: r, h => Bool.and_eq_true_iff.mpr ⟨h d List.mem_cons_self, lays_of fun x hx => h x (List.mem_cons_of_mem _ hx)⟩
theorem shp_lst {l : List D} (h : ∀ x ∈ l, lay x = true ∧ dep x ≤ 10) : shp (.lst l) = true := by
  unfold shp
  rw [Bool.and_eq_true]
  refine ⟨lays_of fun x hx => (h x hx).1, decide_eq_true ?_⟩
  show deps l + 1 ≤ 64
  have := deps_le fun x hx => (h x hx).2
  omega
theorem LR.shp {s k : Int} {rooms : List D} {x : D} (h : LR s k rooms x) : shp x = true := by
  unfold MP.shp
  rw [h.lay.1, decide_eq_true (by have := h.lay.2; omega)]
  rfl
theorem inL {a : D} {l : List D} (h1 : MP.shp a = true) (h2 : MP.shp (.lst l) = true) : opCmp .In a (.lst l) = some (dhas l a) := by
  have e : opCmp .In a (.lst l) = if MP.shp a && MP.shp (.lst l) then some (l.any fun z => deq z a) else none := by cases a <;> rfl
  rw [e, h1, h2]; rfl
theorem notInL {a : D} {l : List D} (h1 : MP.shp a = true) (h2 : MP.shp (.lst l) = true) : opCmp .NotIn a (.lst l) = some (!dhas l a) := by
  have e : opCmp .NotIn a (.lst l) = if MP.shp a && MP.shp (.lst l) then some (!l.any fun z => deq z a) else none := by cases a <;> rfl
  rw [e, h1, h2]; rfl
theorem indexL {x : D} {l : List D} (hg : Gd x) (h1 : MP.shp x = true) (h2 : MP.shp (.lst l) = true) (h : dhas l x = true) : opLm .index (.lst l) [x] = some (numP l x) := by
  have e : opLm .index (.lst l) [x] = if MP.shp x && MP.shp (.lst l) then (l.findIdx? fun z => deq z x).map fun (i : Nat) => .int i else none := rfl
  rw [e, h1, h2]
  have hs : (l.findIdx? fun z => deq z x).isSome = true := by rw [List.findIdx?_isSome]; exact h
  obtain ⟨i, hi⟩ := Option.isSome_iff_exists.mp hs
  obtain ⟨t, rfl⟩ := hg.tup
  unfold numP
  rw [hi]
  rfl
theorem deq_non (z : D) : deq z .non = isNon z := by cases z <;> rfl
theorem ints_has : ∀ (n : Nat) (a : Int) (i : Nat), i < n → D.int (a + i) ∈ MP.intsFrom a n
  | n + 1, a, 0, _ => by
    show _ ∈ D.int a :: _
    rw [show a + ((0 : Nat) : Int) = a by omega]
    exact List.mem_cons_self
  | n + 1, a, i + 1, h => by
    show _ ∈ D.int a :: MP.intsFrom (a + 1) n
    have := ints_has n (a + 1) i (by omega)
    rw [show a + ((i + 1 : Nat) : Int) = a + 1 + (i : Int) by omega]
    exact List.mem_cons_of_mem _ this
theorem R_has {k : Int} {i : Nat} (h : (i : Int) < k) : D.int (i : Int) ∈ R k := by
  have := ints_has k.toNat 0 i (by omega)
  rwa [Int.zero_add] at this
/-- None among what the signs lead to -/
theorem none_in {s k : Int} {rooms : List D} (hR : Rooms s k rooms) (hs : 0 ≤ s) {a i : Nat} (ha : a < rooms.length) (hi : (i : Int) < k) : opCmp .In .non (.lst ((R s).map fun o => ent rooms a (inI o).toNat i)) = some (brk rooms a i) := by
  have hb : ∀ x ∈ (R s).map fun o => ent rooms a (inI o).toNat i, lay x = true ∧ dep x ≤ 10 := by
    intro x hx
    obtain ⟨d, hd, rfl⟩ := List.mem_map.mp hx
    obtain ⟨g, rfl, g1, g2⟩ := R_mem hd
    rcases (ent_at hR ha (g := g.toNat) (by omega) hi).2 with e | ⟨j, e, _⟩
    · show lay (ent rooms a g.toNat i) = true ∧ _
      rw [show ent rooms a (inI (.int g)).toNat i = .non from e, show ent rooms a g.toNat i = .non from e]
      exact ⟨rfl, Nat.zero_le _⟩
    · show lay (ent rooms a g.toNat i) = true ∧ _
      rw [show ent rooms a (inI (.int g)).toNat i = .int j from e, show ent rooms a g.toNat i = .int j from e]
      exact ⟨rfl, Nat.zero_le _⟩
  rw [inL rfl (shp_lst hb)]
  congr 1
  obtain ⟨_, e2, _⟩ := room_at hR ha
  rw [Bool.eq_iff_iff]
  unfold dhas brk
  rw [List.any_eq_true, List.any_eq_true]
  constructor
  · rintro ⟨x, hx, h⟩
    obtain ⟨d, hd, rfl⟩ := List.mem_map.mp hx
    obtain ⟨g, rfl, g1, g2⟩ := R_mem hd
    rw [deq_non] at h
    exact ⟨ge (itT (ge rooms a)) g.toNat, (ge_get (by omega)).2, h⟩
  · rintro ⟨row, hr, h⟩
    obtain ⟨g, hg⟩ := List.getElem?_of_mem hr
    obtain ⟨hl, hg2⟩ := List.getElem?_eq_some_iff.mp hg
    have hm : D.int (g : Int) ∈ R s := R_has (by omega)
    refine ⟨_, List.mem_map.mpr ⟨_, hm, rfl⟩, ?_⟩
    rw [deq_non]
    show isNon (ge (itT (ge (itT (ge rooms a)) (g : Int).toNat)) i) = true
    rw [Int.toNat_natCast]
    have : ge (itT (ge rooms a)) g = row := by unfold ge at *; rw [List.getD_eq_getElem?_getD, hg]; rfl
    rw [this]
    exact h
end SH

namespace K75
open PySem PySem.Spec MP SH
section
variable {s k : Int} {rooms : List D} (hR : Rooms s k rooms) (h1 : 1 ≤ rooms.length) (hs : s ≤ 9)
include hR h1 hs
theorem deed_loop (hs0 : 0 ≤ s) (n : Nat) (S : Store) {a : Nat} (ha : a < rooms.length) (a0 a5 a6 a7 a8 : Slot) : ∀ (l : List D), (∀ d ∈ l, ∃ i : Int, d = .int i ∧ 0 ≤ i ∧ i < k) → ∀ (th row : List D) (a11 : Slot) (a12 : Slot), (∀ x ∈ th, LR s k rooms x) → th.length + l.length ≤ 1000 → row.length + l.length ≤ 1000 →
    (∀ x ∈ (deedP (fun d => if brk rooms a (inI d).toNat then .non else .tup [.int a, d]) l th row).1, LR s k rooms x) ∧
    ∃ b11 b12, MP.forM (.v 11) (evC (callF Pg n) Pg.sub b__law_lag_1) l [a0, .val (.int s), .val (.int k), .val (.tup rooms), .own (.lst th), a5, a6, a7, a8, .val (.int a), .own (.lst row), a11, a12] S
      = .ok .nx [a0, .val (.int s), .val (.int k), .val (.tup rooms), .own (.lst (deedP (fun d => if brk rooms a (inI d).toNat then .non else .tup [.int a, d]) l th row).1), a5, a6, a7, a8, .val (.int a), .own (.lst (deedP (fun d => if brk rooms a (inI d).toNat then .non else .tup [.int a, d]) l th row).2), b11, b12] S := by
  intro l
  induction l with
  | nil => intro _ th row a11 a12 hg _ _; exact ⟨hg, a11, a12, rfl⟩
  | cons d l ih =>
    intro hm th row a11 a12 hg hl hl2
    obtain ⟨i, rfl, i1, i2⟩ := hm d List.mem_cons_self
    have hm' : ∀ x ∈ l, ∃ i : Int, x = .int i ∧ 0 ≤ i ∧ i < k := fun x hx => hm x (List.mem_cons_of_mem _ hx)
    obtain ⟨i, rfl⟩ : ∃ m : Nat, i = m := ⟨i.toNat, by omega⟩
    rw [List.length_cons] at hl hl2
    have rs := R_ok (k := s) hs0 (by omega)
    have ni := none_in hR hs0 ha i2
    have st := fun (ρ : Fr) => (room_at hR ha).1
    have key : fLc (evCl (callF Pg n) Pg.sub c__law_lag_0) [a0, .val (.int s), .val (.int k), .val (.tup rooms), .own (.lst th), a5, a6, a7, a8, .val (.int a), .own (.lst row), .val (.int (i : Int)), a12] S = .ok ((R s).map fun o => ent rooms a (inI o).toNat i) [a0, .val (.int s), .val (.int k), .val (.tup rooms), .own (.lst th), a5, a6, a7, a8, .val (.int a), .own (.lst row), .val (.int (i : Int)), a12] S :=
      lc_map (l := R s) (g := fun o => ent rooms a (inI o).toNat i) (by simp [asL_ap, fBinL_ap, fLst_ap, fFl_ap, fl_tup, fl_lst, all_mapT, ln_tup, ln_lst, ln_fz, tu_lst, tu_tup, it_tup, it_lst, it_fz, sq_tup, sq_lst, bindT_v, lockF, lockS, wipeF, run_ap, outO_rt, outO_nx, outO_ite, evC, evE, evB, evEs, evPs, evT, evTs, evI, evF, frame0, asP, asQ, asO, mbind_ap, bindO_ok, bindO_ite, ite_ap, mret_ap, mopt_some, lift0_ap, liftO_ok, take_val, peek_val, peek_own, peek_lck, take_own, mval_int, mval_str, mval_bl, mval_non, mval_tup, mval_lst, mval_fz, mval_dct, mresL_v, mvals, cLt, cLe, cGt, cGe, cEqI, cNeI, cEqB, cIs, cIsNot, tBo, tIn, tNo, tTu, tLi, xT, xL, xF, omap_some, ok0, ok1, ok2, ok3, rs]) (fun d hd => by
        obtain ⟨g, rfl, g1, g2⟩ := R_mem hd
        obtain ⟨g, rfl⟩ : ∃ m : Nat, g = m := ⟨g.toNat, by omega⟩
        exact ⟨[lockS a0, .val (.int s), .val (.int k), .val (.tup rooms), .lck (.lst th), lockS a5, lockS a6, lockS a7, lockS a8, .val (.int a), .lck (.lst row), .val (.int (i : Int)), .val (.int (g : Int))], by simp [asL_ap, fBinL_ap, fLst_ap, fFl_ap, fl_tup, fl_lst, all_mapT, ln_tup, ln_lst, ln_fz, tu_lst, tu_tup, it_tup, it_lst, it_fz, sq_tup, sq_lst, bindT_v, lockF, lockS, wipeF, run_ap, outO_rt, outO_nx, outO_ite, evC, evE, evB, evEs, evPs, evT, evTs, evI, evF, frame0, asP, asQ, asO, mbind_ap, bindO_ok, bindO_ite, ite_ap, mret_ap, mopt_some, lift0_ap, liftO_ok, take_val, peek_val, peek_own, peek_lck, take_own, mval_int, mval_str, mval_bl, mval_non, mval_tup, mval_lst, mval_fz, mval_dct, mresL_v, mvals, cLt, cLe, cGt, cGe, cEqI, cNeI, cEqB, cIs, cIsNot, tBo, tIn, tNo, tTu, tLi, xT, xL, xF, omap_some, ok0, ok1, ok2, ok3, (room_at hR ha).1, (row_at hR ha g2).1, (ent_at hR ha g2 i2).1, inI]⟩) (by rw [R_len]; omega)
    have sT := shp_lst (l := th) fun x hx => ⟨(hg x hx).lay.1, by have := (hg x hx).lay.2; omega⟩
    have ci : inI (.int (i : Int)) = (i : Int) := rfl
    cases hb : brk rooms a i with
    | true =>
      have e : (if brk rooms a (inI (.int (i : Int))).toNat then D.non else .tup [.int a, .int i]) = .non := by rw [ci, Int.toNat_natCast, hb]; rfl
      rw [deedP, e, show addP th .non = th from rfl, show numP th .non = .non from rfl]
      have ca := addTo_ok (l := row) (l' := [D.non]) (by show row.length + 1 ≤ _; omega)
      have cg := fun (ρ : Fr) h => chg_own (ρ := ρ) (S := S) (i := 10) h ca
      have turn : bindO (bindT (.v 11) (.int (i : Int)) [a0, .val (.int s), .val (.int k), .val (.tup rooms), .own (.lst th), a5, a6, a7, a8, .val (.int a), .own (.lst row), a11, a12] S) (fun _ => evC (callF Pg n) Pg.sub b__law_lag_1) = .ok .nx [a0, .val (.int s), .val (.int k), .val (.tup rooms), .own (.lst th), a5, a6, a7, a8, .val (.int a), .own (.lst (row ++ [.non])), .val (.int (i : Int)), a12] S := by
        rw [hb] at ni
        simp [asL_ap, fBinL_ap, fLst_ap, fFl_ap, fl_tup, fl_lst, all_mapT, ln_tup, ln_lst, ln_fz, tu_lst, tu_tup, it_tup, it_lst, it_fz, sq_tup, sq_lst, bindT_v, lockF, lockS, wipeF, run_ap, outO_rt, outO_nx, outO_ite, evC, evE, evB, evEs, evPs, evT, evTs, evI, evF, frame0, asP, asQ, asO, mbind_ap, bindO_ok, bindO_ite, ite_ap, mret_ap, mopt_some, lift0_ap, liftO_ok, take_val, peek_val, peek_own, peek_lck, take_own, mval_int, mval_str, mval_bl, mval_non, mval_tup, mval_lst, mval_fz, mval_dct, mresL_v, mvals, cLt, cLe, cGt, cGe, cEqI, cNeI, cEqB, cIs, cIsNot, tBo, tIn, tNo, tTu, tLi, xT, xL, xF, omap_some, ok0, ok1, ok2, ok3, b__law_lag_1, key, ni, mval_own, cg]
      rw [forM_cons turn]
      exact ih hm' th (row ++ [.non]) _ _ hg (by omega) (by rw [List.length_append]; show row.length + 1 + _ ≤ _; omega)
    | false =>
      have e : (if brk rooms a (inI (.int (i : Int))).toNat then D.non else .tup [.int a, .int i]) = .tup [.int a, .int i] := by rw [ci, Int.toNat_natCast, hb]; rfl
      rw [deedP, e]
      have hx : LR s k rooms (.tup [.int a, .int i]) := .inr ⟨a, i, rfl, ha, i2, hb⟩
      have hth : ∀ y ∈ addP th (.tup [.int a, .int i]), LR s k rooms y := by
        intro y hy
        unfold addP at hy
        split at hy
        · exact hg y hy
        · rcases List.mem_append.mp hy with hy | hy
          · exact hg y hy
          · rw [List.mem_singleton.mp hy]; exact hx
      have sT' := shp_lst (l := addP th (.tup [.int a, .int i])) fun x hx => ⟨(hth x hx).lay.1, by have := (hth x hx).lay.2; omega⟩
      have ix := indexL hx.gd hx.shp sT' (addP_has hx.gd)
      have nin := notInL hx.shp sT
      have ca := addTo_ok (l := row) (l' := [numP (addP th (.tup [.int a, .int i])) (.tup [.int a, .int i])]) (by show row.length + 1 ≤ _; omega)
      have cg := fun (ρ : Fr) h => chg_own (ρ := ρ) (S := S) (i := 10) h ca
      have turn : bindO (bindT (.v 11) (.int (i : Int)) [a0, .val (.int s), .val (.int k), .val (.tup rooms), .own (.lst th), a5, a6, a7, a8, .val (.int a), .own (.lst row), a11, a12] S) (fun _ => evC (callF Pg n) Pg.sub b__law_lag_1) = .ok .nx [a0, .val (.int s), .val (.int k), .val (.tup rooms), .own (.lst (addP th (.tup [.int a, .int i]))), a5, a6, a7, a8, .val (.int a), .own (.lst (row ++ [numP (addP th (.tup [.int a, .int i])) (.tup [.int a, .int i])])), .val (.int (i : Int)), a12] S := by
        rw [hb] at ni
        cases hd : dhas th (.tup [.int a, .int i]) with
        | true =>
          have ea : addP th (.tup [.int a, .int i]) = th := by unfold addP; rw [hd, Bool.or_true]; rfl
          rw [ea] at ix ca ⊢
          have cg := fun (ρ : Fr) h => chg_own (ρ := ρ) (S := S) (i := 10) h ca
          rw [hd] at nin
          simp [asL_ap, fBinL_ap, fLst_ap, fFl_ap, fl_tup, fl_lst, all_mapT, ln_tup, ln_lst, ln_fz, tu_lst, tu_tup, it_tup, it_lst, it_fz, sq_tup, sq_lst, bindT_v, lockF, lockS, wipeF, run_ap, outO_rt, outO_nx, outO_ite, evC, evE, evB, evEs, evPs, evT, evTs, evI, evF, frame0, asP, asQ, asO, mbind_ap, bindO_ok, bindO_ite, ite_ap, mret_ap, mopt_some, lift0_ap, liftO_ok, take_val, peek_val, peek_own, peek_lck, take_own, mval_int, mval_str, mval_bl, mval_non, mval_tup, mval_lst, mval_fz, mval_dct, mresL_v, mvals, cLt, cLe, cGt, cGe, cEqI, cNeI, cEqB, cIs, cIsNot, tBo, tIn, tNo, tTu, tLi, xT, xL, xF, omap_some, ok0, ok1, ok2, ok3, b__law_lag_1, key, ni, mval_own, nin, ix, cg]
        | false =>
          have ea : addP th (.tup [.int a, .int i]) = th ++ [.tup [.int a, .int i]] := by unfold addP; rw [hd]; rfl
          have ct := addTo_ok (l := th) (l' := [D.tup [.int a, .int i]]) (by show th.length + 1 ≤ _; omega)
          rw [← ea] at ct
          have cgt := fun (ρ : Fr) h => chg_own (ρ := ρ) (S := S) (i := 4) h ct
          rw [hd] at nin
          generalize addP th (.tup [.int a, .int i]) = th' at *
          simp [asL_ap, fBinL_ap, fLst_ap, fFl_ap, fl_tup, fl_lst, all_mapT, ln_tup, ln_lst, ln_fz, tu_lst, tu_tup, it_tup, it_lst, it_fz, sq_tup, sq_lst, bindT_v, lockF, lockS, wipeF, run_ap, outO_rt, outO_nx, outO_ite, evC, evE, evB, evEs, evPs, evT, evTs, evI, evF, frame0, asP, asQ, asO, mbind_ap, bindO_ok, bindO_ite, ite_ap, mret_ap, mopt_some, lift0_ap, liftO_ok, take_val, peek_val, peek_own, peek_lck, take_own, mval_int, mval_str, mval_bl, mval_non, mval_tup, mval_lst, mval_fz, mval_dct, mresL_v, mvals, cLt, cLe, cGt, cGe, cEqI, cNeI, cEqB, cIs, cIsNot, tBo, tIn, tNo, tTu, tLi, xT, xL, xF, omap_some, ok0, ok1, ok2, ok3, b__law_lag_1, key, ni, mval_own, nin, ix, cg, cgt]
      have hl3 : (addP th (.tup [.int (a : Int), .int (i : Int)])).length ≤ th.length + 1 := by
        unfold addP
        split
        · omega
        · simp [asL_ap, fBinL_ap, fLst_ap, fFl_ap, fl_tup, fl_lst, all_mapT, ln_tup, ln_lst, ln_fz, tu_lst, tu_tup, it_tup, it_lst, it_fz, sq_tup, sq_lst, bindT_v, lockF, lockS, wipeF, run_ap, outO_rt, outO_nx, outO_ite, evC, evE, evB, evEs, evPs, evT, evTs, evI, evF, frame0, asP, asQ, asO, mbind_ap, bindO_ok, bindO_ite, ite_ap, mret_ap, mopt_some, lift0_ap, liftO_ok, take_val, peek_val, peek_own, peek_lck, take_own, mval_int, mval_str, mval_bl, mval_non, mval_tup, mval_lst, mval_fz, mval_dct, mresL_v, mvals, cLt, cLe, cGt, cGe, cEqI, cNeI, cEqB, cIs, cIsNot, tBo, tIn, tNo, tTu, tLi, xT, xL, xF, omap_some, ok0, ok1, ok2, ok3]
      rw [forM_cons turn]
      exact ih hm' _ _ _ _ hth (by omega) (by rw [List.length_append]; show row.length + 1 + _ ≤ _; omega)
end
end K75

namespace K75
open PySem PySem.Spec MP SH
def x_at : E := .ite (.cmp .Eq (.var 6) (.tup .nil)) (.cst (.int 0)) (.idx (.idx (.idx (.var 3) (.idx (.var 6) (.cst (.int 0)))) (.var 8)) (.idx (.var 6) (.cst (.int 1))))
theorem lag2_eq : b__law_lag_2 = (.seq (.set (.v 9) x_at) (.seq (.setO 10 (.lst .nil)) (.seq (.for_ (.v 11) (.rng1 (.var 2)) b__law_lag_1) (.seq (.app (.var 7) (.bl .tuple (.cons (.var 10) .nil))) .skip)))) := rfl
section
variable {s k : Int} {rooms : List D} (hR : Rooms s k rooms) (h1 : 1 ≤ rooms.length) (hs : s ≤ 9)
include hR h1 hs
theorem x_at_ok (n : Nat) (S : Store) {x : D} (hx : LR s k rooms x) {g : Nat} (hg : (g : Int) < s) (a0 a1 a2 a4 a5 a7 a9 a10 a11 a12 : Slot) :
    evE (callF Pg n) Pg.sub x_at [a0, a1, a2, .val (.tup rooms), a4, a5, .val x, a7, .val (.int (g : Int)), a9, a10, a11, a12] S = .ok (atL rooms x g) [a0, a1, a2, .val (.tup rooms), a4, a5, .val x, a7, .val (.int (g : Int)), a9, a10, a11, a12] S := by
  rcases hx with rfl | ⟨a, i, rfl, ha, hi, hb⟩
  · rfl
  · have e1 := (room_at hR ha).1
    have e2 := (row_at hR ha hg).1
    have e3 := (ent_at hR ha hg hi).1
    have ec : opCmp .Eq (.tup [.int (a : Int), .int (i : Int)]) (.tup []) = some false := rfl
    have f0 : atD [.int (a : Int), .int (i : Int)] 0 = some (.int (a : Int)) := rfl
    have f1 : atD [.int (a : Int), .int (i : Int)] 1 = some (.int (i : Int)) := rfl
    simp [asL_ap, fBinL_ap, fLst_ap, fFl_ap, fl_tup, fl_lst, all_mapT, ln_tup, ln_lst, ln_fz, tu_lst, tu_tup, it_tup, it_lst, it_fz, sq_tup, sq_lst, bindT_v, lockF, lockS, wipeF, run_ap, outO_rt, outO_nx, outO_ite, evC, evE, evB, evEs, evPs, evT, evTs, evI, evF, frame0, asP, asQ, asO, mbind_ap, bindO_ok, bindO_ite, ite_ap, mret_ap, mopt_some, lift0_ap, liftO_ok, take_val, peek_val, peek_own, peek_lck, take_own, mval_int, mval_str, mval_bl, mval_non, mval_tup, mval_lst, mval_fz, mval_dct, mresL_v, mvals, cLt, cLe, cGt, cGe, cEqI, cNeI, cEqB, cIs, cIsNot, tBo, tIn, tNo, tTu, tLi, xT, xL, xF, omap_some, ok0, ok1, ok2, ok3, x_at, ec, e1, e2, e3, f0, f1, atL]
theorem lsign_loop (hs0 : 0 ≤ s) (hk0 : 0 ≤ k) (hk : k ≤ 9) (n : Nat) (S : Store) {here : D} (hh : LR s k rooms here) (a0 a5 : Slot) : ∀ (l : List D), (∀ x ∈ l, ∃ g : Int, x = .int g ∧ 0 ≤ g ∧ g < s) → ∀ (th rs : List D) (a8 a9 a10 a11 a12 : Slot), (∀ x ∈ th, LR s k rooms x) → th.length + 9 * l.length ≤ 500 → rs.length + l.length ≤ 100 →
    (∀ x ∈ (signsP (lagF rooms) k here l th rs).1, LR s k rooms x) ∧ ∃ b8 b9 b10 b11 b12, MP.forM (.v 8) (evC (callF Pg n) Pg.sub b__law_lag_2) l [a0, .val (.int s), .val (.int k), .val (.tup rooms), .own (.lst th), a5, .val here, .own (.lst rs), a8, a9, a10, a11, a12] S
      = .ok .nx [a0, .val (.int s), .val (.int k), .val (.tup rooms), .own (.lst (signsP (lagF rooms) k here l th rs).1), a5, .val here, .own (.lst (signsP (lagF rooms) k here l th rs).2), b8, b9, b10, b11, b12] S := by
  intro l
  induction l with
  | nil => intro _ th rs a8 a9 a10 a11 a12 hg _ _; exact ⟨hg, a8, a9, a10, a11, a12, rfl⟩
  | cons d l ih =>
    intro hm th rs a8 a9 a10 a11 a12 hg hl hrs
    obtain ⟨g, rfl, g1, g2⟩ := hm d List.mem_cons_self
    have hm' : ∀ x ∈ l, ∃ g : Int, x = .int g ∧ 0 ≤ g ∧ g < s := fun x hx => hm x (List.mem_cons_of_mem _ hx)
    obtain ⟨g, rfl⟩ : ∃ m : Nat, g = m := ⟨g.toNat, by omega⟩
    rw [List.length_cons] at hl hrs
    obtain ⟨a, ea, ha⟩ := atL_ok hR h1 hh g2
    have ex := fun a9 a10 a11 a12 => x_at_ok hR h1 hs n S hh g2 a0 (.val (.int s)) (.val (.int k)) (.own (.lst th)) a5 (.own (.lst rs)) a9 a10 a11 a12
    rw [ea] at ex
    have rk := R_ok (k := k) hk0 (by omega)
    have dl := deed_loop hR h1 hs hs0 n S ha a0 a5 (.val here) (.own (.lst rs)) (.val (.int (g : Int))) (R k) (fun x hx => R_mem hx) th [] a11 a12 hg (by rw [R_len]; omega) (by rw [R_len]; show 0 + _ ≤ _; omega)
    have de : deedP (fun d => if brk rooms a (inI d).toNat then .non else .tup [.int a, d]) (R k) th [] = ((rowP (lagF rooms) k here g).foldl addP th, (rowP (lagF rooms) k here g).map (numP ((rowP (lagF rooms) k here g).foldl addP th))) := by
      have hf : ∀ d ∈ R k, (if brk rooms a (inI d).toNat then D.non else .tup [.int a, d]) = lagF rooms here g (inI d) := by
        intro d hd
        obtain ⟨i, rfl, i1, i2⟩ := R_mem hd
        unfold lagF
        rw [Int.toNat_natCast, ea]
        rfl
      have em : (R k).map (fun d => if brk rooms a (inI d).toNat then D.non else .tup [.int a, d]) = rowP (lagF rooms) k here g := List.map_congr_left hf
      rw [deedP_eq, em]
      · rfl
      · intro d hd
        rw [hf d hd]
        obtain ⟨i, rfl, i1, i2⟩ := R_mem hd
        exact (lagF_ok hR h1 hh g1 g2 i1 i2).imp id LR.gd
    rw [de] at dl
    have sp : signsP (lagF rooms) k here (.int (g : Int) :: l) th rs = signsP (lagF rooms) k here l ((rowP (lagF rooms) k here g).foldl addP th) (rs ++ [.tup ((rowP (lagF rooms) k here g).map (numP ((rowP (lagF rooms) k here g).foldl addP th)))]) := rfl
    rw [sp]
    have fl := fold_le (row := rowP (lagF rooms) k here g) (th := th)
    rw [row_len] at fl
    generalize (rowP (lagF rooms) k here g).map (numP ((rowP (lagF rooms) k here g).foldl addP th)) = row at *
    generalize (rowP (lagF rooms) k here g).foldl addP th = th' at *
    obtain ⟨hg', b11, b12, e⟩ := dl
    have e : MP.forM (.v 11) (evC (callF Pg n) Pg.sub b__law_lag_1) (R k) [a0, .val (.int s), .val (.int k), .val (.tup rooms), .own (.lst th), a5, .val here, .own (.lst rs), .val (.int (g : Int)), .val (.int (a : Int)), .own (.lst []), a11, a12] S = .ok .nx [a0, .val (.int s), .val (.int k), .val (.tup rooms), .own (.lst th'), a5, .val here, .own (.lst rs), .val (.int (g : Int)), .val (.int (a : Int)), .own (.lst row), b11, b12] S := e
    have ca := addTo_ok (l := rs) (l' := [D.tup row]) (by show rs.length + 1 ≤ _; omega)
    have cg := fun (ρ : Fr) h => chg_own (ρ := ρ) (S := S) (i := 7) h ca
    have turn : bindO (bindT (.v 8) (.int (g : Int)) [a0, .val (.int s), .val (.int k), .val (.tup rooms), .own (.lst th), a5, .val here, .own (.lst rs), a8, a9, a10, a11, a12] S) (fun _ => evC (callF Pg n) Pg.sub b__law_lag_2) = .ok .nx [a0, .val (.int s), .val (.int k), .val (.tup rooms), .own (.lst th'), a5, .val here, .own (.lst (rs ++ [.tup row])), .val (.int (g : Int)), .val (.int (a : Int)), .own (.lst row), b11, b12] S := by
      rw [lag2_eq]
      simp [asL_ap, fBinL_ap, fLst_ap, fFl_ap, fl_tup, fl_lst, all_mapT, ln_tup, ln_lst, ln_fz, tu_lst, tu_tup, it_tup, it_lst, it_fz, sq_tup, sq_lst, bindT_v, lockF, lockS, wipeF, run_ap, outO_rt, outO_nx, outO_ite, evC, evE, evB, evEs, evPs, evT, evTs, evI, evF, frame0, asP, asQ, asO, mbind_ap, bindO_ok, bindO_ite, ite_ap, mret_ap, mopt_some, lift0_ap, liftO_ok, take_val, peek_val, peek_own, peek_lck, take_own, mval_int, mval_str, mval_bl, mval_non, mval_tup, mval_lst, mval_fz, mval_dct, mresL_v, mvals, cLt, cLe, cGt, cGe, cEqI, cNeI, cEqB, cIs, cIsNot, tBo, tIn, tNo, tTu, tLi, xT, xL, xF, omap_some, ok0, ok1, ok2, ok3, ex, rk, e, mval_own, cg]
    rw [forM_cons turn]
    exact ih hm' th' _ _ _ _ _ _ hg' (by omega) (by rw [List.length_append]; show rs.length + 1 + _ ≤ _; omega)
end
end K75

namespace K75
open PySem PySem.Spec MP SH
def t_lag : T := .cmp .Lt (.bl .len (.cons (.var 5) .nil)) (.bl .len (.cons (.var 4) .nil))
def w_lag : C := .whl 400 t_lag b__law_lag_3
theorem llag_eq : b__law_lag = (.seq (.set (.tup (.cons (.v 1) (.cons (.v 2) (.cons (.v 3) .nil)))) (.var 0)) (.seq (.setO 4 (.lst (.cons (.tup .nil) .nil))) (.seq (.setO 5 (.lst .nil)) (.seq w_lag (.seq (.ret (.tup (.cons (.bl .tuple (.cons (.var 4) .nil)) (.cons (.tup (.cons (.var 1) (.cons (.var 2) (.cons (.bl .tuple (.cons (.var 5) .nil)) .nil)))) .nil)))) .skip))))) := rfl
section
variable {s k : Int} {rooms : List D} (hR : Rooms s k rooms) (h1 : 1 ≤ rooms.length) (hs : s ≤ 9)
include hR h1 hs
theorem llag_loop (hs0 : 0 ≤ s) (hk0 : 0 ≤ k) (hk : k ≤ 9) (m : Nat) (S : Store) (a0 : Slot) : ∀ (n : Nat) (th tb : List D) (a6 a7 a8 a9 a10 a11 a12 : Slot), th.length ≤ 100 → tb.length ≤ th.length → 100 < tb.length + n → (∀ x ∈ th, LR s k rooms x) →
    (comeP (lagF rooms) s k n th tb = none → ∃ ρ', whlM (evT (callF Pg m) Pg.sub t_lag) (evC (callF Pg m) Pg.sub b__law_lag_3) n [a0, .val (.int s), .val (.int k), .val (.tup rooms), .own (.lst th), .own (.lst tb), a6, a7, a8, a9, a10, a11, a12] S = .ok (.rt .non) ρ' S) ∧
    (∀ q, comeP (lagF rooms) s k n th tb = some q → q.1.length ≤ 100 ∧ (∀ x ∈ q.1, LR s k rooms x) ∧ ∃ b6 b7 b8 b9 b10 b11 b12, whlM (evT (callF Pg m) Pg.sub t_lag) (evC (callF Pg m) Pg.sub b__law_lag_3) n [a0, .val (.int s), .val (.int k), .val (.tup rooms), .own (.lst th), .own (.lst tb), a6, a7, a8, a9, a10, a11, a12] S
      = .ok .nx [a0, .val (.int s), .val (.int k), .val (.tup rooms), .own (.lst q.1), .own (.lst q.2), b6, b7, b8, b9, b10, b11, b12] S) := by
  intro n
  induction n with
  | zero => intro th tb _ _ _ _ _ _ _ h1 h2 h3; omega
  | succ n ih =>
    intro th tb a6 a7 a8 a9 a10 a11 a12 hl htb hn hg
    by_cases h : tb.length < th.length
    · obtain ⟨hat, hmem⟩ := ge_get h
      have hgh := hg _ hmem
      obtain ⟨ln, en⟩ := hgh.gd.tup
      obtain ⟨hg', b8, b9, b10, b11, b12, e⟩ := lsign_loop hR h1 hs hs0 hk0 hk m S hgh a0 (.own (.lst tb)) (R s) (fun x hx => R_mem hx) th [] a8 a9 a10 a11 a12 hg (by rw [R_len]; omega) (by rw [R_len]; show 0 + _ ≤ _; omega)
      have ce : comeP (lagF rooms) s k (n + 1) th tb = if 100 < (signsP (lagF rooms) k (ge th tb.length) (R s) th []).1.length then none else comeP (lagF rooms) s k n (signsP (lagF rooms) k (ge th tb.length) (R s) th []).1 (tb ++ [.tup (signsP (lagF rooms) k (ge th tb.length) (R s) th []).2]) := by
        rw [comeP, if_pos h]
      rw [ce]
      have rs := R_ok (k := s) hs0 (by omega)
      have h' : (tb.length : Int) < th.length := by omega
      obtain ⟨mm, sp⟩ := signsP_pre (F := lagF rooms) (k := k) (here := ge th tb.length) (R s) th []
      generalize signsP (lagF rooms) k (ge th tb.length) (R s) th [] = q0 at *
      generalize ge th tb.length = here at *
      have hc : evT (callF Pg m) Pg.sub t_lag [a0, .val (.int s), .val (.int k), .val (.tup rooms), .own (.lst th), .own (.lst tb), a6, a7, a8, a9, a10, a11, a12] S = .ok true [a0, .val (.int s), .val (.int k), .val (.tup rooms), .own (.lst th), .own (.lst tb), a6, a7, a8, a9, a10, a11, a12] S := by
        simp [asL_ap, fBinL_ap, fLst_ap, fFl_ap, fl_tup, fl_lst, all_mapT, ln_tup, ln_lst, ln_fz, tu_lst, tu_tup, it_tup, it_lst, it_fz, sq_tup, sq_lst, bindT_v, lockF, lockS, wipeF, run_ap, outO_rt, outO_nx, outO_ite, evC, evE, evB, evEs, evPs, evT, evTs, evI, evF, frame0, asP, asQ, asO, mbind_ap, bindO_ok, bindO_ite, ite_ap, mret_ap, mopt_some, lift0_ap, liftO_ok, take_val, peek_val, peek_own, peek_lck, take_own, mval_int, mval_str, mval_bl, mval_non, mval_tup, mval_lst, mval_fz, mval_dct, mresL_v, mvals, cLt, cLe, cGt, cGe, cEqI, cNeI, cEqB, cIs, cIsNot, tBo, tIn, tNo, tTu, tLi, xT, xL, xF, omap_some, ok0, ok1, ok2, ok3, t_lag, h', mval_own]
      have ca := addTo_ok (l := tb) (l' := [D.tup q0.2]) (by show tb.length + 1 ≤ _; omega)
      have cg := fun (ρ : Fr) h => chg_own (ρ := ρ) (S := S) (i := 5) h ca
      by_cases h2 : 100 < q0.1.length
      · rw [if_pos h2]
        have h2' : (100 : Int) < q0.1.length := by omega
        have hb : evC (callF Pg m) Pg.sub b__law_lag_3 [a0, .val (.int s), .val (.int k), .val (.tup rooms), .own (.lst th), .own (.lst tb), a6, a7, a8, a9, a10, a11, a12] S = .ok (.rt .non) [a0, .val (.int s), .val (.int k), .val (.tup rooms), .own (.lst q0.1), .own (.lst (tb ++ [.tup q0.2])), .val here, .own (.lst q0.2), b8, b9, b10, b11, b12] S := by
          simp [asL_ap, fBinL_ap, fLst_ap, fFl_ap, fl_tup, fl_lst, all_mapT, ln_tup, ln_lst, ln_fz, tu_lst, tu_tup, it_tup, it_lst, it_fz, sq_tup, sq_lst, bindT_v, lockF, lockS, wipeF, run_ap, outO_rt, outO_nx, outO_ite, evC, evE, evB, evEs, evPs, evT, evTs, evI, evF, frame0, asP, asQ, asO, mbind_ap, bindO_ok, bindO_ite, ite_ap, mret_ap, mopt_some, lift0_ap, liftO_ok, take_val, peek_val, peek_own, peek_lck, take_own, mval_int, mval_str, mval_bl, mval_non, mval_tup, mval_lst, mval_fz, mval_dct, mresL_v, mvals, cLt, cLe, cGt, cGe, cEqI, cNeI, cEqB, cIs, cIsNot, tBo, tIn, tNo, tTu, tLi, xT, xL, xF, omap_some, ok0, ok1, ok2, ok3, b__law_lag_3, hat, rs, e, mval_own, cg, h2']
        exact ⟨fun _ => ⟨_, whl_rt hc hb⟩, fun q hq => (by cases hq)⟩
      · rw [if_neg h2]
        have h2' : ¬ (100 : Int) < q0.1.length := by omega
        have hb : evC (callF Pg m) Pg.sub b__law_lag_3 [a0, .val (.int s), .val (.int k), .val (.tup rooms), .own (.lst th), .own (.lst tb), a6, a7, a8, a9, a10, a11, a12] S = .ok .nx [a0, .val (.int s), .val (.int k), .val (.tup rooms), .own (.lst q0.1), .own (.lst (tb ++ [.tup q0.2])), .val here, .own (.lst q0.2), b8, b9, b10, b11, b12] S := by
          simp [asL_ap, fBinL_ap, fLst_ap, fFl_ap, fl_tup, fl_lst, all_mapT, ln_tup, ln_lst, ln_fz, tu_lst, tu_tup, it_tup, it_lst, it_fz, sq_tup, sq_lst, bindT_v, lockF, lockS, wipeF, run_ap, outO_rt, outO_nx, outO_ite, evC, evE, evB, evEs, evPs, evT, evTs, evI, evF, frame0, asP, asQ, asO, mbind_ap, bindO_ok, bindO_ite, ite_ap, mret_ap, mopt_some, lift0_ap, liftO_ok, take_val, peek_val, peek_own, peek_lck, take_own, mval_int, mval_str, mval_bl, mval_non, mval_tup, mval_lst, mval_fz, mval_dct, mresL_v, mvals, cLt, cLe, cGt, cGe, cEqI, cNeI, cEqB, cIs, cIsNot, tBo, tIn, tNo, tTu, tLi, xT, xL, xF, omap_some, ok0, ok1, ok2, ok3, b__law_lag_3, hat, rs, e, mval_own, cg, h2']
        rw [whl_next hc hb]
        exact ih q0.1 (tb ++ [.tup q0.2]) _ _ _ _ _ _ _ (by omega) (by rw [List.length_append, sp, List.length_append]; show tb.length + 1 ≤ th.length + mm.length; omega) (by rw [List.length_append]; show _ < tb.length + 1 + n; omega) hg'
    · have ce : comeP (lagF rooms) s k (n + 1) th tb = some (th, tb) := by rw [comeP, if_neg h]
      rw [ce]
      have h' : ¬ (tb.length : Int) < th.length := by omega
      refine ⟨fun h => (by cases h), fun q hq => ?_⟩
      cases hq
      refine ⟨hl, hg, a6, a7, a8, a9, a10, a11, a12, ?_⟩
      rw [whlM]
      simp [asL_ap, fBinL_ap, fLst_ap, fFl_ap, fl_tup, fl_lst, all_mapT, ln_tup, ln_lst, ln_fz, tu_lst, tu_tup, it_tup, it_lst, it_fz, sq_tup, sq_lst, bindT_v, lockF, lockS, wipeF, run_ap, outO_rt, outO_nx, outO_ite, evC, evE, evB, evEs, evPs, evT, evTs, evI, evF, frame0, asP, asQ, asO, mbind_ap, bindO_ok, bindO_ite, ite_ap, mret_ap, mopt_some, lift0_ap, liftO_ok, take_val, peek_val, peek_own, peek_lck, take_own, mval_int, mval_str, mval_bl, mval_non, mval_tup, mval_lst, mval_fz, mval_dct, mresL_v, mvals, cLt, cLe, cGt, cGe, cEqI, cNeI, cEqB, cIs, cIsNot, tBo, tIn, tNo, tTu, tLi, xT, xL, xF, omap_some, ok0, ok1, ok2, ok3, t_lag, h', mval_own]
/-- what the law's own lag tells -/
def lagD (s k : Int) : Option (List D × List D) → D
  | none => .non
  | some q => .tup [.tup q.1, .tup [.int s, .int k, .tup q.2]]
theorem e_llag (hs0 : 0 ≤ s) (hk0 : 0 ≤ k) (hk : k ≤ 9) (m : Nat) (S : Store) :
    (callF Pg (m + 1)).f "_law_lag" [.tup [.int s, .int k, .tup rooms]] [] [] S = .ok (lagD s k (comeP (lagF rooms) s k 400 [.tup []] [])) S := by
  obtain ⟨l1, l2⟩ := llag_loop hR h1 hs hs0 hk0 hk m S (.val (.tup [.int s, .int k, .tup rooms])) 400 [.tup []] [] .none .none .none .none .none .none .none (by show 1 ≤ 100; omega) (by show 0 ≤ 1; omega) (by show 100 < 0 + 400; omega) (fun x hx => by rw [List.mem_singleton.mp hx]; exact .inl rfl)
  rw [show ("_law_lag" : Str) = f__law_lag.name from rfl, F_eq hllag rfl rfl, run_ap, show f__law_lag.body = b__law_lag from rfl, llag_eq]
  cases hq : comeP (lagF rooms) s k 400 [.tup []] [] with
  | none =>
    obtain ⟨ρ', e⟩ := l1 hq
    have e : evC (callF Pg m) Pg.sub w_lag _ S = _ := e
    simp [asL_ap, fBinL_ap, fLst_ap, fFl_ap, fl_tup, fl_lst, all_mapT, ln_tup, ln_lst, ln_fz, tu_lst, tu_tup, it_tup, it_lst, it_fz, sq_tup, sq_lst, bindT_v, lockF, lockS, wipeF, run_ap, outO_rt, outO_nx, outO_ite, evC, evE, evB, evEs, evPs, evT, evTs, evI, evF, frame0, asP, asQ, asO, mbind_ap, bindO_ok, bindO_ite, ite_ap, mret_ap, mopt_some, lift0_ap, liftO_ok, take_val, peek_val, peek_own, peek_lck, take_own, mval_int, mval_str, mval_bl, mval_non, mval_tup, mval_lst, mval_fz, mval_dct, mresL_v, mvals, cLt, cLe, cGt, cGe, cEqI, cNeI, cEqB, cIs, cIsNot, tBo, tIn, tNo, tTu, tLi, xT, xL, xF, omap_some, ok0, ok1, ok2, ok3, f__law_lag, bindT, bindTs, e, lagD]
  | some q =>
    obtain ⟨q1, q2, b6, b7, b8, b9, b10, b11, b12, e⟩ := l2 q hq
    have e : evC (callF Pg m) Pg.sub w_lag _ S = _ := e
    simp [asL_ap, fBinL_ap, fLst_ap, fFl_ap, fl_tup, fl_lst, all_mapT, ln_tup, ln_lst, ln_fz, tu_lst, tu_tup, it_tup, it_lst, it_fz, sq_tup, sq_lst, bindT_v, lockF, lockS, wipeF, run_ap, outO_rt, outO_nx, outO_ite, evC, evE, evB, evEs, evPs, evT, evTs, evI, evF, frame0, asP, asQ, asO, mbind_ap, bindO_ok, bindO_ite, ite_ap, mret_ap, mopt_some, lift0_ap, liftO_ok, take_val, peek_val, peek_own, peek_lck, take_own, mval_int, mval_str, mval_bl, mval_non, mval_tup, mval_lst, mval_fz, mval_dct, mresL_v, mvals, cLt, cLe, cGt, cGe, cEqI, cNeI, cEqB, cIs, cIsNot, tBo, tIn, tNo, tTu, tLi, xT, xL, xF, omap_some, ok0, ok1, ok2, ok3, f__law_lag, bindT, bindTs, e, lagD, mval_own]
end
end K75

namespace SH
open PySem PySem.Spec MP
theorem cntB_int {d : D} (h : cntB d = true) : ∃ i : Int, d = .int i ∧ 1 ≤ i ∧ i ≤ 9 := by
  cases d with
  | int i =>
    have h : (true && decide (1 ≤ i) && decide (i ≤ 9)) = true := h
    simp at h
    exact ⟨i, rfl, h.1, h.2⟩
  | _ => simp [cntB, isI] at h
theorem isT_tup' {d : D} (h : isT d = true) : ∃ l, d = .tup l := by
  cases d <;> first | exact ⟨_, rfl⟩ | cases h
theorem behB_prop {m : Int} {d : D} (h : behB m d = true) : Beh m d := by
  cases d with
  | non => exact .inl rfl
  | int i =>
    have h : (false || (true && decide (0 ≤ i) && decide (i < m))) = true := h
    simp at h
    exact .inr ⟨i, rfl, h.1, h.2⟩
  | _ => simp [behB, isNon, belB, isI] at h
theorem rowB_prop {m : Int} {d : D} (h : rowB m d = true) : ∃ l, d = .tup l ∧ (l.length : Int) = m := by
  unfold rowB at h
  rw [Bool.and_eq_true] at h
  obtain ⟨l, rfl⟩ := isT_tup' h.1
  exact ⟨l, rfl, by simpa [itT] using h.2⟩
theorem sayB_prop {d : D} (h : sayB d = true) : Saying d := by
  unfold sayB at h
  simp only [Bool.and_eq_true] at h
  obtain ⟨⟨⟨⟨⟨⟨h1, h2⟩, h3⟩, h4⟩, h5⟩, h6⟩, h7⟩ := h
  obtain ⟨l, rfl, hl⟩ := rowB_prop h1
  match l, hl with
  | [a, b, c], _ =>
    obtain ⟨s, rfl, s1, s2⟩ := cntB_int (show cntB a = true from h2)
    obtain ⟨k, rfl, k1, k2⟩ := cntB_int (show cntB b = true from h3)
    obtain ⟨rooms, rfl⟩ := isT_tup' (show isT c = true from h4)
    have h5 : (1 : Int) ≤ rooms.length := of_decide_eq_true h5
    have h6 : (rooms.length : Int) ≤ 100 := of_decide_eq_true h6
    refine ⟨s, k, rooms, rfl, s1, s2, k1, k2, by omega, by omega, ?_⟩
    intro r hr
    have hq : roomB s k rooms.length r = true := List.all_eq_true.mp h7 r hr
    unfold roomB at hq
    rw [Bool.and_eq_true] at hq
    obtain ⟨lr, rfl, hlr⟩ := rowB_prop hq.1
    refine ⟨lr, rfl, hlr, fun x hx => ?_⟩
    have hx' : rowsB k rooms.length x = true := List.all_eq_true.mp hq.2 x hx
    unfold rowsB at hx'
    rw [Bool.and_eq_true] at hx'
    obtain ⟨lx, rfl, hlx⟩ := rowB_prop hx'.1
    exact ⟨lx, rfl, hlx, fun y hy => behB_prop (List.all_eq_true.mp hx'.2 y hy)⟩
end SH

namespace K75
open PySem PySem.Spec MP SH
theorem hlate : SH.Find Pg f_late := rfl
theorem hrlate : SH.Find Pg f_rooms_late := rfl
theorem hasked : SH.Find Pg f__law_asked := rfl
theorem hright : SH.Find Pg f__law_right := rfl
theorem hword : SH.Find Pg f__law_word := rfl
theorem hany : SH.Find Pg f__law_any := rfl
/-- what is due of a thing that is a saying -/
def dueD (d : D) : D := match d with
  | .tup [.int s, .int k, .tup rooms] => lagD s k (comeP (lagF rooms) s k 400 [.tup []] [])
  | _ => .non
/-- what a door tells (0: late, 1: rooms_late) -/
def doorO (d : D) (i : Int) (S : Store) : Out0 := if sayB d then (match dueD d with
  | .tup l => .ok (ge l i.toNat) S
  | _ => .exc "TooWide" S) else .exc "NoSaying" S
theorem e_late (n : Nat) (d : D) (S : Store) (h : pl d = true) : (callF Pg (n + 6)).f "late" [d] [] [] S = doorO d 1 S := by
  have en := e_need_saying hHS n d S h
  rw [show ("late" : Str) = f_late.name from rfl, F_eq hlate rfl rfl]
  cases hs : sayB d with
  | false =>
    rw [hs] at en
    have en : (callF Pg (n + 5)).f "need_saying" [d] [] [] S = .exc "NoSaying" S := en
    simp [asL_ap, fBinL_ap, fLst_ap, fFl_ap, fl_tup, fl_lst, all_mapT, ln_tup, ln_lst, ln_fz, tu_lst, tu_tup, it_tup, it_lst, it_fz, sq_tup, sq_lst, bindT_v, lockF, lockS, wipeF, run_ap, outO_rt, outO_nx, outO_ite, evC, evE, evB, evEs, evPs, evT, evTs, evI, evF, frame0, asP, asQ, asO, mbind_ap, bindO_ok, bindO_ite, ite_ap, mret_ap, mopt_some, lift0_ap, liftO_ok, take_val, peek_val, peek_own, peek_lck, take_own, mval_int, mval_str, mval_bl, mval_non, mval_tup, mval_lst, mval_fz, mval_dct, mresL_v, mvals, cLt, cLe, cGt, cGe, cEqI, cNeI, cEqB, cIs, cIsNot, tBo, tIn, tNo, tTu, tLi, xT, xL, xF, omap_some, ok0, ok1, ok2, ok3, f_late, b_late, en, doorO, hs, liftO, bindO_exc, outO_exc]
  | true =>
    rw [hs] at en
    have en : (callF Pg (n + 5)).f "need_saying" [d] [] [] S = .ok .non S := en
    obtain ⟨s, k, rooms, rfl, s1, s2, k1, k2, r1, r2, hR⟩ := sayB_prop hs
    have el := e_lag hR r1 s2 (by omega) (by omega) k2 (n + 1) S
    unfold doorO
    rw [hs]
    show _ = (match lagD s k (comeP (lagF rooms) s k 400 [.tup []] []) with
      | .tup l => Out0.ok (ge l (1 : Int).toNat) S
      | _ => .exc "TooWide" S)
    cases hq : comeP (lagF rooms) s k 400 [.tup []] [] with
    | none =>
      rw [hq] at el
      simp [asL_ap, fBinL_ap, fLst_ap, fFl_ap, fl_tup, fl_lst, all_mapT, ln_tup, ln_lst, ln_fz, tu_lst, tu_tup, it_tup, it_lst, it_fz, sq_tup, sq_lst, bindT_v, lockF, lockS, wipeF, run_ap, outO_rt, outO_nx, outO_ite, evC, evE, evB, evEs, evPs, evT, evTs, evI, evF, frame0, asP, asQ, asO, mbind_ap, bindO_ok, bindO_ite, ite_ap, mret_ap, mopt_some, lift0_ap, liftO_ok, take_val, peek_val, peek_own, peek_lck, take_own, mval_int, mval_str, mval_bl, mval_non, mval_tup, mval_lst, mval_fz, mval_dct, mresL_v, mvals, cLt, cLe, cGt, cGe, cEqI, cNeI, cEqB, cIs, cIsNot, tBo, tIn, tNo, tTu, tLi, xT, xL, xF, omap_some, ok0, ok1, ok2, ok3, f_late, b_late, en, el, lagO, lagD, liftO, bindO_exc, outO_exc]
    | some q =>
      rw [hq] at el
      have e1 : ∀ a b : D, atD [a, b] 1 = some b := fun a b => rfl
      have e2 : ∀ a b : D, ge [a, b] 1 = b := fun a b => rfl
      simp [asL_ap, fBinL_ap, fLst_ap, fFl_ap, fl_tup, fl_lst, all_mapT, ln_tup, ln_lst, ln_fz, tu_lst, tu_tup, it_tup, it_lst, it_fz, sq_tup, sq_lst, bindT_v, lockF, lockS, wipeF, run_ap, outO_rt, outO_nx, outO_ite, evC, evE, evB, evEs, evPs, evT, evTs, evI, evF, frame0, asP, asQ, asO, mbind_ap, bindO_ok, bindO_ite, ite_ap, mret_ap, mopt_some, lift0_ap, liftO_ok, take_val, peek_val, peek_own, peek_lck, take_own, mval_int, mval_str, mval_bl, mval_non, mval_tup, mval_lst, mval_fz, mval_dct, mresL_v, mvals, cLt, cLe, cGt, cGe, cEqI, cNeI, cEqB, cIs, cIsNot, tBo, tIn, tNo, tTu, tLi, xT, xL, xF, omap_some, ok0, ok1, ok2, ok3, f_late, b_late, en, el, lagO, lagD, e1, e2]
theorem e_rooms_late (n : Nat) (d : D) (S : Store) (h : pl d = true) : (callF Pg (n + 6)).f "rooms_late" [d] [] [] S = doorO d 0 S := by
  have en := e_need_saying hHS n d S h
  rw [show ("rooms_late" : Str) = f_rooms_late.name from rfl, F_eq hrlate rfl rfl]
  cases hs : sayB d with
  | false =>
    rw [hs] at en
    have en : (callF Pg (n + 5)).f "need_saying" [d] [] [] S = .exc "NoSaying" S := en
    simp [asL_ap, fBinL_ap, fLst_ap, fFl_ap, fl_tup, fl_lst, all_mapT, ln_tup, ln_lst, ln_fz, tu_lst, tu_tup, it_tup, it_lst, it_fz, sq_tup, sq_lst, bindT_v, lockF, lockS, wipeF, run_ap, outO_rt, outO_nx, outO_ite, evC, evE, evB, evEs, evPs, evT, evTs, evI, evF, frame0, asP, asQ, asO, mbind_ap, bindO_ok, bindO_ite, ite_ap, mret_ap, mopt_some, lift0_ap, liftO_ok, take_val, peek_val, peek_own, peek_lck, take_own, mval_int, mval_str, mval_bl, mval_non, mval_tup, mval_lst, mval_fz, mval_dct, mresL_v, mvals, cLt, cLe, cGt, cGe, cEqI, cNeI, cEqB, cIs, cIsNot, tBo, tIn, tNo, tTu, tLi, xT, xL, xF, omap_some, ok0, ok1, ok2, ok3, f_rooms_late, b_rooms_late, en, doorO, hs, liftO, bindO_exc, outO_exc]
  | true =>
    rw [hs] at en
    have en : (callF Pg (n + 5)).f "need_saying" [d] [] [] S = .ok .non S := en
    obtain ⟨s, k, rooms, rfl, s1, s2, k1, k2, r1, r2, hR⟩ := sayB_prop hs
    have el := e_lag hR r1 s2 (by omega) (by omega) k2 (n + 1) S
    unfold doorO
    rw [hs]
    show _ = (match lagD s k (comeP (lagF rooms) s k 400 [.tup []] []) with
      | .tup l => Out0.ok (ge l (0 : Int).toNat) S
      | _ => .exc "TooWide" S)
    cases hq : comeP (lagF rooms) s k 400 [.tup []] [] with
    | none =>
      rw [hq] at el
      simp [asL_ap, fBinL_ap, fLst_ap, fFl_ap, fl_tup, fl_lst, all_mapT, ln_tup, ln_lst, ln_fz, tu_lst, tu_tup, it_tup, it_lst, it_fz, sq_tup, sq_lst, bindT_v, lockF, lockS, wipeF, run_ap, outO_rt, outO_nx, outO_ite, evC, evE, evB, evEs, evPs, evT, evTs, evI, evF, frame0, asP, asQ, asO, mbind_ap, bindO_ok, bindO_ite, ite_ap, mret_ap, mopt_some, lift0_ap, liftO_ok, take_val, peek_val, peek_own, peek_lck, take_own, mval_int, mval_str, mval_bl, mval_non, mval_tup, mval_lst, mval_fz, mval_dct, mresL_v, mvals, cLt, cLe, cGt, cGe, cEqI, cNeI, cEqB, cIs, cIsNot, tBo, tIn, tNo, tTu, tLi, xT, xL, xF, omap_some, ok0, ok1, ok2, ok3, f_rooms_late, b_rooms_late, en, el, lagO, lagD, liftO, bindO_exc, outO_exc]
    | some q =>
      rw [hq] at el
      have e1 : ∀ a b : D, atD [a, b] 0 = some a := fun a b => rfl
      have e2 : ∀ a b : D, ge [a, b] 0 = a := fun a b => rfl
      simp [asL_ap, fBinL_ap, fLst_ap, fFl_ap, fl_tup, fl_lst, all_mapT, ln_tup, ln_lst, ln_fz, tu_lst, tu_tup, it_tup, it_lst, it_fz, sq_tup, sq_lst, bindT_v, lockF, lockS, wipeF, run_ap, outO_rt, outO_nx, outO_ite, evC, evE, evB, evEs, evPs, evT, evTs, evI, evF, frame0, asP, asQ, asO, mbind_ap, bindO_ok, bindO_ite, ite_ap, mret_ap, mopt_some, lift0_ap, liftO_ok, take_val, peek_val, peek_own, peek_lck, take_own, mval_int, mval_str, mval_bl, mval_non, mval_tup, mval_lst, mval_fz, mval_dct, mresL_v, mvals, cLt, cLe, cGt, cGe, cEqI, cNeI, cEqB, cIs, cIsNot, tBo, tIn, tNo, tTu, tLi, xT, xL, xF, omap_some, ok0, ok1, ok2, ok3, f_rooms_late, b_rooms_late, en, el, lagO, lagD, e1, e2]
/-- the hot word -/
theorem e_word_saying (n : Nat) (S : Store) : (callF Pg (n + 1)).fa "_law_word" [.exn "NoSaying"] S = .ok (.str "saying") S := by
  rw [show ("_law_word" : Str) = f__law_word.name from rfl, FA_eq hword rfl rfl]
  rfl
theorem e_word_wide (n : Nat) (S : Store) : (callF Pg (n + 1)).fa "_law_word" [.exn "TooWide"] S = .ok (.str "wide") S := by
  rw [show ("_law_word" : Str) = f__law_word.name from rfl, FA_eq hword rfl rfl]
  rfl
end K75

namespace K75
open PySem PySem.Spec MP SH
/-- the word, and what is told -/
def wordD (d : D) : Str := if sayB d then (match dueD d with
  | .tup _ => ""
  | _ => "wide") else "saying"
def toldD (d : D) (i : Int) : D := if sayB d then (match dueD d with
  | .tup l => ge l i.toNat
  | _ => .non) else .non
theorem door_turn (n : Nat) (d : D) (S : Store) (h : pl d = true) {w : Int} (hw : w = 0 ∨ w = 1) : evC (callF Pg (n + 6)) Pg.sub b__law_asked_0 [.val (.int w), .val d, .val .non, .val (.str ""), .none] S = (match doorO d (1 - w) S with
    | .ok v S => .ok .nx [.val (.int w), .val d, .val v, .val (.str ""), .none] S
    | .exc c S => .exc c [.val (.int w), .val d, .val .non, .val (.str ""), .none] S
    | .stk => .stk) := by
  have e0 := e_late n d S h
  have e1 := e_rooms_late n d S h
  rcases hw with rfl | rfl
  · rw [show (1 : Int) - 0 = 1 from rfl]
    cases hd : doorO d 1 S with
    | ok v S' => rw [hd] at e0; simp [asL_ap, fBinL_ap, fLst_ap, fFl_ap, fl_tup, fl_lst, all_mapT, ln_tup, ln_lst, ln_fz, tu_lst, tu_tup, it_tup, it_lst, it_fz, sq_tup, sq_lst, bindT_v, lockF, lockS, wipeF, run_ap, outO_rt, outO_nx, outO_ite, evC, evE, evB, evEs, evPs, evT, evTs, evI, evF, frame0, asP, asQ, asO, mbind_ap, bindO_ok, bindO_ite, ite_ap, mret_ap, mopt_some, lift0_ap, liftO_ok, take_val, peek_val, peek_own, peek_lck, take_own, mval_int, mval_str, mval_bl, mval_non, mval_tup, mval_lst, mval_fz, mval_dct, mresL_v, mvals, cLt, cLe, cGt, cGe, cEqI, cNeI, cEqB, cIs, cIsNot, tBo, tIn, tNo, tTu, tLi, xT, xL, xF, omap_some, ok0, ok1, ok2, ok3, b__law_asked_0, e0]
    | exc v S' => rw [hd] at e0; simp [asL_ap, fBinL_ap, fLst_ap, fFl_ap, fl_tup, fl_lst, all_mapT, ln_tup, ln_lst, ln_fz, tu_lst, tu_tup, it_tup, it_lst, it_fz, sq_tup, sq_lst, bindT_v, lockF, lockS, wipeF, run_ap, outO_rt, outO_nx, outO_ite, evC, evE, evB, evEs, evPs, evT, evTs, evI, evF, frame0, asP, asQ, asO, mbind_ap, bindO_ok, bindO_ite, ite_ap, mret_ap, mopt_some, lift0_ap, liftO_ok, take_val, peek_val, peek_own, peek_lck, take_own, mval_int, mval_str, mval_bl, mval_non, mval_tup, mval_lst, mval_fz, mval_dct, mresL_v, mvals, cLt, cLe, cGt, cGe, cEqI, cNeI, cEqB, cIs, cIsNot, tBo, tIn, tNo, tTu, tLi, xT, xL, xF, omap_some, ok0, ok1, ok2, ok3, b__law_asked_0, e0, liftO, bindO_exc]
    | stk => rw [hd] at e0; simp [asL_ap, fBinL_ap, fLst_ap, fFl_ap, fl_tup, fl_lst, all_mapT, ln_tup, ln_lst, ln_fz, tu_lst, tu_tup, it_tup, it_lst, it_fz, sq_tup, sq_lst, bindT_v, lockF, lockS, wipeF, run_ap, outO_rt, outO_nx, outO_ite, evC, evE, evB, evEs, evPs, evT, evTs, evI, evF, frame0, asP, asQ, asO, mbind_ap, bindO_ok, bindO_ite, ite_ap, mret_ap, mopt_some, lift0_ap, liftO_ok, take_val, peek_val, peek_own, peek_lck, take_own, mval_int, mval_str, mval_bl, mval_non, mval_tup, mval_lst, mval_fz, mval_dct, mresL_v, mvals, cLt, cLe, cGt, cGe, cEqI, cNeI, cEqB, cIs, cIsNot, tBo, tIn, tNo, tTu, tLi, xT, xL, xF, omap_some, ok0, ok1, ok2, ok3, b__law_asked_0, e0, liftO, bindO]
  · rw [show (1 : Int) - 1 = 0 from rfl]
    cases hd : doorO d 0 S with
    | ok v S' => rw [hd] at e1; simp [asL_ap, fBinL_ap, fLst_ap, fFl_ap, fl_tup, fl_lst, all_mapT, ln_tup, ln_lst, ln_fz, tu_lst, tu_tup, it_tup, it_lst, it_fz, sq_tup, sq_lst, bindT_v, lockF, lockS, wipeF, run_ap, outO_rt, outO_nx, outO_ite, evC, evE, evB, evEs, evPs, evT, evTs, evI, evF, frame0, asP, asQ, asO, mbind_ap, bindO_ok, bindO_ite, ite_ap, mret_ap, mopt_some, lift0_ap, liftO_ok, take_val, peek_val, peek_own, peek_lck, take_own, mval_int, mval_str, mval_bl, mval_non, mval_tup, mval_lst, mval_fz, mval_dct, mresL_v, mvals, cLt, cLe, cGt, cGe, cEqI, cNeI, cEqB, cIs, cIsNot, tBo, tIn, tNo, tTu, tLi, xT, xL, xF, omap_some, ok0, ok1, ok2, ok3, b__law_asked_0, e1]
    | exc v S' => rw [hd] at e1; simp [asL_ap, fBinL_ap, fLst_ap, fFl_ap, fl_tup, fl_lst, all_mapT, ln_tup, ln_lst, ln_fz, tu_lst, tu_tup, it_tup, it_lst, it_fz, sq_tup, sq_lst, bindT_v, lockF, lockS, wipeF, run_ap, outO_rt, outO_nx, outO_ite, evC, evE, evB, evEs, evPs, evT, evTs, evI, evF, frame0, asP, asQ, asO, mbind_ap, bindO_ok, bindO_ite, ite_ap, mret_ap, mopt_some, lift0_ap, liftO_ok, take_val, peek_val, peek_own, peek_lck, take_own, mval_int, mval_str, mval_bl, mval_non, mval_tup, mval_lst, mval_fz, mval_dct, mresL_v, mvals, cLt, cLe, cGt, cGe, cEqI, cNeI, cEqB, cIs, cIsNot, tBo, tIn, tNo, tTu, tLi, xT, xL, xF, omap_some, ok0, ok1, ok2, ok3, b__law_asked_0, e1, liftO, bindO_exc]
    | stk => rw [hd] at e1; simp [asL_ap, fBinL_ap, fLst_ap, fFl_ap, fl_tup, fl_lst, all_mapT, ln_tup, ln_lst, ln_fz, tu_lst, tu_tup, it_tup, it_lst, it_fz, sq_tup, sq_lst, bindT_v, lockF, lockS, wipeF, run_ap, outO_rt, outO_nx, outO_ite, evC, evE, evB, evEs, evPs, evT, evTs, evI, evF, frame0, asP, asQ, asO, mbind_ap, bindO_ok, bindO_ite, ite_ap, mret_ap, mopt_some, lift0_ap, liftO_ok, take_val, peek_val, peek_own, peek_lck, take_own, mval_int, mval_str, mval_bl, mval_non, mval_tup, mval_lst, mval_fz, mval_dct, mresL_v, mvals, cLt, cLe, cGt, cGe, cEqI, cNeI, cEqB, cIs, cIsNot, tBo, tIn, tNo, tTu, tLi, xT, xL, xF, omap_some, ok0, ok1, ok2, ok3, b__law_asked_0, e1, liftO, bindO]
def y_asked : C := .tryc b__law_asked_0 "WardError" (some 4) h__law_asked_1
theorem asked_eq : b__law_asked = (.seq (.set (.v 2) (.cst .non)) (.seq (.set (.v 3) (.cst (.str ""))) (.seq y_asked (.seq (.ret (.tup (.cons (.var 3) (.cons (.var 2) .nil)))) .skip)))) := rfl
theorem sub1 : Pg.sub "NoSaying" "WardError" = some true := rfl
theorem sub2 : Pg.sub "TooWide" "WardError" = some true := rfl
def q_word : E := .calla "_law_word" (.exn 4 .nil)
theorem handler_eq : h__law_asked_1 = .seq (.set (.v 3) q_word) .skip := rfl
theorem e_handler (n : Nat) (S : Store) {c w : Str} (hw : (callF Pg n).fa "_law_word" [.exn c] S = .ok (.str w) S) (a b e : Slot) (x : Str) : evC (callF Pg n) Pg.sub h__law_asked_1 (mexn (some 4) c [a, b, e, .val (.str x), .none]) S = .ok .nx [a, b, e, .val (.str w), .exn c] S := by
  have ea : evE (callF Pg n) Pg.sub q_word [a, b, e, .val (.str x), .exn c] S = liftO ((callF Pg n).fa "_law_word" [.exn c] S) [a, b, e, .val (.str x), .exn c] := rfl
  rw [hw] at ea
  rw [handler_eq, show mexn (some 4) c [a, b, e, .val (.str x), .none] = [a, b, e, .val (.str x), .exn c] from rfl]
  simp [asL_ap, fBinL_ap, fLst_ap, fFl_ap, fl_tup, fl_lst, all_mapT, ln_tup, ln_lst, ln_fz, tu_lst, tu_tup, it_tup, it_lst, it_fz, sq_tup, sq_lst, bindT_v, lockF, lockS, wipeF, run_ap, outO_rt, outO_nx, outO_ite, evC, evE, evB, evEs, evPs, evT, evTs, evI, evF, frame0, asP, asQ, asO, mbind_ap, bindO_ok, bindO_ite, ite_ap, mret_ap, mopt_some, lift0_ap, liftO_ok, take_val, peek_val, peek_own, peek_lck, take_own, mval_int, mval_str, mval_bl, mval_non, mval_tup, mval_lst, mval_fz, mval_dct, mresL_v, mvals, cLt, cLe, cGt, cGe, cEqI, cNeI, cEqB, cIs, cIsNot, tBo, tIn, tNo, tTu, tLi, xT, xL, xF, omap_some, ok0, ok1, ok2, ok3, ea]
theorem e_asked (n : Nat) (d : D) (S : Store) (h : pl d = true) {w : Int} (hw : w = 0 ∨ w = 1) : (callF Pg (n + 7)).f "_law_asked" [.int w, d] [] [] S = .ok (.tup [.str (wordD d), toldD d (1 - w)]) S := by
  have dt := door_turn n d S h hw
  rw [show ("_law_asked" : Str) = f__law_asked.name from rfl, F_eq hasked rfl rfl, run_ap, show f__law_asked.body = b__law_asked from rfl, asked_eq]
  have ws := e_word_saying (n + 5) S
  have ww := e_word_wide (n + 5) S
  have ht : evC (callF Pg (n + 6)) Pg.sub y_asked [.val (.int w), .val d, .val .non, .val (.str ""), .none] S = .ok .nx [.val (.int w), .val d, .val (toldD d (1 - w)), .val (.str (wordD d)), .none] S := by
    have e0 : evC (callF Pg (n + 6)) Pg.sub y_asked [.val (.int w), .val d, .val .non, .val (.str ""), .none] S = (match evC (callF Pg (n + 6)) Pg.sub b__law_asked_0 [.val (.int w), .val d, .val .non, .val (.str ""), .none] S with
      | .exc c ρ S => (match Pg.sub c "WardError" with
        | some true => (match evC (callF Pg (n + 6)) Pg.sub h__law_asked_1 (mexn (some 4) c ρ) S with
          | .ok f ρ S => .ok f (mclr (some 4) ρ) S
          | _ => .stk)
        | some false => .exc c ρ S
        | none => .stk)
      | r => r) := rfl
    rw [e0, dt]
    unfold doorO toldD wordD
    cases hs : sayB d with
    | false =>
      have eh := e_handler (n + 6) S ws (.val (.int w)) (.val d) (.val .non) ""
      show (match evC (callF Pg (n + 6)) Pg.sub h__law_asked_1 (mexn (some 4) "NoSaying" [.val (.int w), .val d, .val .non, .val (.str ""), .none]) S with
          | .ok f ρ S => Out.ok f (mclr (some 4) ρ) S
          | _ => .stk) = _
      rw [eh]
      rfl
    | true =>
      have tw : (match evC (callF Pg (n + 6)) Pg.sub h__law_asked_1 (mexn (some 4) "TooWide" [.val (.int w), .val d, .val .non, .val (.str ""), .none]) S with
          | .ok f ρ S => Out.ok f (mclr (some 4) ρ) S
          | _ => .stk) = .ok .nx [.val (.int w), .val d, .val .non, .val (.str "wide"), .none] S := by
        rw [e_handler (n + 6) S ww (.val (.int w)) (.val d) (.val .non) ""]
        rfl
      cases hq : dueD d with
      | tup l => rfl
      | _ => exact tw
  simp [asL_ap, fBinL_ap, fLst_ap, fFl_ap, fl_tup, fl_lst, all_mapT, ln_tup, ln_lst, ln_fz, tu_lst, tu_tup, it_tup, it_lst, it_fz, sq_tup, sq_lst, bindT_v, lockF, lockS, wipeF, run_ap, outO_rt, outO_nx, outO_ite, evC, evE, evB, evEs, evPs, evT, evTs, evI, evF, frame0, asP, asQ, asO, mbind_ap, bindO_ok, bindO_ite, ite_ap, mret_ap, mopt_some, lift0_ap, liftO_ok, take_val, peek_val, peek_own, peek_lck, take_own, mval_int, mval_str, mval_bl, mval_non, mval_tup, mval_lst, mval_fz, mval_dct, mresL_v, mvals, cLt, cLe, cGt, cGe, cEqI, cNeI, cEqB, cIs, cIsNot, tBo, tIn, tNo, tTu, tLi, xT, xL, xF, omap_some, ok0, ok1, ok2, ok3, f__law_asked, ht]
end K75

namespace SH
open PySem PySem.Spec MP
def Sqn (m : Nat) (x : D) : Prop := sq x = true ∧ dep x ≤ m
theorem Sqn.tup {m : Nat} {l : List D} (h : ∀ x ∈ l, Sqn m x) (hl : l.length ≤ 10000) : Sqn (m + 1) (.tup l) := by
  refine ⟨?_, ?_⟩
  · show (sqs l && okLen l.length) = true
    rw [sqs_of fun x hx => (h x hx).1, show okLen l.length = true from decide_eq_true (by omega)]
    rfl
  · have := deps_le fun x hx => (h x hx).2
    show deps l + 1 ≤ m + 1
    omega
theorem Sqn.mono {m n : Nat} {x : D} (h : Sqn m x) (hl : m ≤ n) : Sqn n x := ⟨h.1, Nat.le_trans h.2 hl⟩
theorem numP_sq {th : List D} {x : D} : Sqn 0 (numP th x) := by
  unfold numP
  split
  · exact ⟨rfl, Nat.zero_le _⟩
  · split <;> exact ⟨rfl, Nat.zero_le _⟩
theorem signsP_sq {F : D → Int → Int → D} {k : Int} (hk : k ≤ 9) {here : D} : ∀ (l th rs : List D), (∀ x ∈ rs, Sqn 1 x) → (∀ x ∈ (signsP F k here l th rs).2, Sqn 1 x) ∧ (signsP F k here l th rs).2.length = rs.length + l.length
  | [], th, rs, h => ⟨h, rfl⟩
  | g :: r, th, rs, h => by
    rw [signsP]
    obtain ⟨h1, h2⟩ := signsP_sq (F := F) hk (here := here) r ((rowP F k here (inI g)).foldl addP th) (rs ++ [.tup ((rowP F k here (inI g)).map (numP ((rowP F k here (inI g)).foldl addP th)))]) (fun x hx => by
      rcases List.mem_append.mp hx with hx | hx
      · exact h x hx
      · rw [List.mem_singleton.mp hx]
        refine Sqn.tup (fun y hy => ?_) ?_
        · obtain ⟨z, _, rfl⟩ := List.mem_map.mp hy
          exact numP_sq
        · rw [List.length_map, row_len]; omega)
    refine ⟨h1, ?_⟩
    rw [h2, List.length_append]
    show rs.length + 1 + r.length = rs.length + (r.length + 1)
    omega
theorem comeP_sq {F : D → Int → Int → D} {s k : Int} (hs : s ≤ 9) (hk : k ≤ 9) : ∀ (n : Nat) (th tb : List D) (q : List D × List D), (∀ x ∈ tb, Sqn 2 x) → comeP F s k n th tb = some q → (∀ x ∈ q.2, Sqn 2 x) ∧ q.2.length ≤ tb.length + n
  | 0, th, tb, q, h, hq => by cases hq
  | n + 1, th, tb, q, h, hq => by
    rw [comeP] at hq
    by_cases h1 : tb.length < th.length
    · rw [if_pos h1] at hq
      by_cases h2 : 100 < (signsP F k (ge th tb.length) (R s) th []).1.length
      · rw [if_pos h2] at hq; cases hq
      · rw [if_neg h2] at hq
        obtain ⟨a1, a2⟩ := signsP_sq (F := F) hk (here := ge th tb.length) (R s) th [] (fun x hx => by cases hx)
        obtain ⟨b1, b2⟩ := comeP_sq hs hk n _ _ q (fun x hx => by
          rcases List.mem_append.mp hx with hx | hx
          · exact h x hx
          · rw [List.mem_singleton.mp hx]
            exact Sqn.tup a1 (by rw [a2, R_len]; show 0 + _ ≤ _; omega)) hq
        refine ⟨b1, ?_⟩
        rw [List.length_append] at b2
        have b2 : q.2.length ≤ tb.length + 1 + n := b2
        omega
    · rw [if_neg h1] at hq
      cases hq
      exact ⟨h, by show tb.length ≤ _; omega⟩
theorem LR.sq {s k : Int} {rooms : List D} {x : D} (h : LR s k rooms x) : Sqn 1 x := by
  rcases h with rfl | ⟨a, i, rfl, _⟩
  · exact ⟨rfl, by decide⟩
  · exact ⟨rfl, by show max 0 (max 0 0) + 1 ≤ 1; decide⟩
end SH

namespace K75
open PySem PySem.Spec MP SH
/-- what is due -/
def duO (d : D) : D := if sayB d then dueD d else .non
theorem due_shape {d : D} : duO d = .non ∧ (∀ i, toldD d i = .non) ∨ ∃ a b, duO d = .tup [a, b] ∧ toldD d 1 = b ∧ toldD d 0 = a ∧ Sqn 4 a ∧ Sqn 4 b := by
  unfold duO toldD
  cases hs : sayB d with
  | false => exact .inl ⟨rfl, fun _ => rfl⟩
  | true =>
    obtain ⟨s, k, rooms, rfl, s1, s2, k1, k2, r1, r2, hR⟩ := sayB_prop hs
    have hR : Rooms s k rooms := hR
    have e : dueD (.tup [.int s, .int k, .tup rooms]) = lagD s k (comeP (lagF rooms) s k 400 [.tup []] []) := rfl
    rw [e]
    cases hq : comeP (lagF rooms) s k 400 [.tup []] [] with
    | none => exact .inl ⟨rfl, fun _ => rfl⟩
    | some q =>
      obtain ⟨_, l2⟩ := llag_loop hR r1 s2 (by omega) (by omega) k2 0 [] (.none) 400 [.tup []] [] .none .none .none .none .none .none .none (by show 1 ≤ 100; omega) (by show 0 ≤ 1; omega) (by show 100 < 0 + 400; omega) (fun x hx => by rw [List.mem_singleton.mp hx]; exact .inl rfl)
      obtain ⟨q1, q2, _⟩ := l2 q hq
      obtain ⟨c1, c2⟩ := comeP_sq s2 k2 400 _ _ q (fun x hx => by cases hx) hq
      refine .inr ⟨.tup q.1, .tup [.int s, .int k, .tup q.2], rfl, rfl, rfl, ?_, ?_⟩
      · exact (Sqn.tup (fun x hx => (q2 x hx).sq) (by omega)).mono (by omega)
      · refine Sqn.tup (m := 3) (fun x hx => ?_) (by show 3 ≤ 10000; omega)
        have ht : Sqn 3 (.tup q.2) := Sqn.tup c1 (by have : q.2.length ≤ 0 + 400 := c2; omega)
        simp only [List.mem_cons, List.not_mem_nil, or_false] at hx
        rcases hx with rfl | rfl | rfl
        · exact ⟨rfl, Nat.zero_le _⟩
        · exact ⟨rfl, Nat.zero_le _⟩
        · exact ht
end K75

namespace K75
open PySem PySem.Spec MP SH
theorem told_sq (d : D) {w : Int} (hw : w = 0 ∨ w = 1) : Sqn 5 (.tup [.str (wordD d), toldD d (1 - w)]) := by
  refine Sqn.tup (m := 4) (fun x hx => ?_) (by show 2 ≤ 10000; omega)
  simp only [List.mem_cons, List.not_mem_nil, or_false] at hx
  rcases hx with rfl | rfl
  · exact ⟨rfl, Nat.zero_le _⟩
  · rcases due_shape (d := d) with ⟨_, h⟩ | ⟨a, b, _, hb, ha, sa, sb⟩
    · rw [h]; exact ⟨rfl, Nat.zero_le _⟩
    · rcases hw with rfl | rfl
      · rw [show (1 : Int) - 0 = 1 from rfl, hb]; exact sb
      · rw [show (1 : Int) - 1 = 0 from rfl, ha]; exact sa
theorem right_turn (n : Nat) (d : D) (S : Store) (h : pl d = true) {w : Int} (hw : w = 0 ∨ w = 1) (x : Str) (a4 a5 : Slot) :
    bindO (bindT (.v 4) (.int w) [.val d, .val (duO d), .val (.str (wordD d)), .val (.str x), a4, a5] S) (fun _ => evC (callF Pg (n + 7)) Pg.sub b__law_right_0) = .ok .nx [.val d, .val (duO d), .val (.str (wordD d)), .val (.str x), .val (.int w), .val (toldD d (1 - w))] S := by
  have ea := e_asked n d S h hw
  obtain ⟨q1, q2⟩ := told_sq d hw
  have es := e_same hHO 5 (n + 1) _ S q1 q2
  rcases due_shape (d := d) with ⟨e, ht⟩ | ⟨a, b, e, hb, ha, sa, sb⟩
  · rw [ht] at ea es ⊢
    rw [e]
    simp [asL_ap, fBinL_ap, fLst_ap, fFl_ap, fl_tup, fl_lst, all_mapT, ln_tup, ln_lst, ln_fz, tu_lst, tu_tup, it_tup, it_lst, it_fz, sq_tup, sq_lst, bindT_v, lockF, lockS, wipeF, run_ap, outO_rt, outO_nx, outO_ite, evC, evE, evB, evEs, evPs, evT, evTs, evI, evF, frame0, asP, asQ, asO, mbind_ap, bindO_ok, bindO_ite, ite_ap, mret_ap, mopt_some, lift0_ap, liftO_ok, take_val, peek_val, peek_own, peek_lck, take_own, mval_int, mval_str, mval_bl, mval_non, mval_tup, mval_lst, mval_fz, mval_dct, mresL_v, mvals, cLt, cLe, cGt, cGe, cEqI, cNeI, cEqB, cIs, cIsNot, tBo, tIn, tNo, tTu, tLi, xT, xL, xF, omap_some, ok0, ok1, ok2, ok3, b__law_right_0, isNon, ea, es]
  · rw [e]
    have f0 : atD [a, b] 0 = some a := rfl
    have f1 : atD [a, b] 1 = some b := rfl
    rcases hw with rfl | rfl
    · rw [show (1 : Int) - 0 = 1 from rfl, hb] at ea es ⊢
      have hm : bSub (a := 1) (b := 0) = bSub (a := 1) (b := 0) := rfl
      simp [asL_ap, fBinL_ap, fLst_ap, fFl_ap, fl_tup, fl_lst, all_mapT, ln_tup, ln_lst, ln_fz, tu_lst, tu_tup, it_tup, it_lst, it_fz, sq_tup, sq_lst, bindT_v, lockF, lockS, wipeF, run_ap, outO_rt, outO_nx, outO_ite, evC, evE, evB, evEs, evPs, evT, evTs, evI, evF, frame0, asP, asQ, asO, mbind_ap, bindO_ok, bindO_ite, ite_ap, mret_ap, mopt_some, lift0_ap, liftO_ok, take_val, peek_val, peek_own, peek_lck, take_own, mval_int, mval_str, mval_bl, mval_non, mval_tup, mval_lst, mval_fz, mval_dct, mresL_v, mvals, cLt, cLe, cGt, cGe, cEqI, cNeI, cEqB, cIs, cIsNot, tBo, tIn, tNo, tTu, tLi, xT, xL, xF, omap_some, ok0, ok1, ok2, ok3, b__law_right_0, isNon, ea, es, f0, f1, bSub]
    · rw [show (1 : Int) - 1 = 0 from rfl, ha] at ea es ⊢
      simp [asL_ap, fBinL_ap, fLst_ap, fFl_ap, fl_tup, fl_lst, all_mapT, ln_tup, ln_lst, ln_fz, tu_lst, tu_tup, it_tup, it_lst, it_fz, sq_tup, sq_lst, bindT_v, lockF, lockS, wipeF, run_ap, outO_rt, outO_nx, outO_ite, evC, evE, evB, evEs, evPs, evT, evTs, evI, evF, frame0, asP, asQ, asO, mbind_ap, bindO_ok, bindO_ite, ite_ap, mret_ap, mopt_some, lift0_ap, liftO_ok, take_val, peek_val, peek_own, peek_lck, take_own, mval_int, mval_str, mval_bl, mval_non, mval_tup, mval_lst, mval_fz, mval_dct, mresL_v, mvals, cLt, cLe, cGt, cGe, cEqI, cNeI, cEqB, cIs, cIsNot, tBo, tIn, tNo, tTu, tLi, xT, xL, xF, omap_some, ok0, ok1, ok2, ok3, b__law_right_0, isNon, ea, es, f0, f1, bSub]
theorem e_right (n : Nat) (d : D) (S : Store) {kk : Nat} (hkk : kk ≤ 1000) (ho : okd kk d = true) (hw : wt d ≤ 16777216) (hd : dep d ≤ 50) : (callF Pg (n + 8)).f "_law_right" [d] [] [] S = .ok (.bl true) S := by
  have h := okd_pl d ho
  obtain ⟨x, ex⟩ := repr_ok hkk ho hw hd
  have es := e_law_is_saying hHS hHL (n + 5) d S h
  have t0 := right_turn n d S h (.inl rfl) x .none .none
  have t1 := right_turn n d S h (.inr rfl) x (.val (.int 0)) (.val (toldD d (1 - 0)))
  rw [show ("_law_right" : Str) = f__law_right.name from rfl, F_eq hright rfl rfl]
  have lp : MP.forM (.v 4) (evC (callF Pg (n + 7)) Pg.sub b__law_right_0) [.int 0, .int 1] [.val d, .val (duO d), .val (.str (wordD d)), .val (.str x), .none, .none] S = .ok .nx [.val d, .val (duO d), .val (.str (wordD d)), .val (.str x), .val (.int 1), .val (toldD d (1 - 1))] S := by
    rw [forM_cons t0, forM_cons t1]
    rfl
  have rg : rngD 0 2 = some [.int 0, .int 1] := rfl
  have mv := fun (ρ : Fr) => mval_pl hHS (ρ := ρ) (S := S) h
  cases hs : sayB d with
  | false =>
    have e1 : duO d = .non := by unfold duO; rw [hs]; rfl
    have e2 : wordD d = "saying" := by unfold wordD; rw [hs]; rfl
    rw [e1, e2] at lp
    simp [asL_ap, fBinL_ap, fLst_ap, fFl_ap, fl_tup, fl_lst, all_mapT, ln_tup, ln_lst, ln_fz, tu_lst, tu_tup, it_tup, it_lst, it_fz, sq_tup, sq_lst, bindT_v, lockF, lockS, wipeF, run_ap, outO_rt, outO_nx, outO_ite, evC, evE, evB, evEs, evPs, evT, evTs, evI, evF, frame0, asP, asQ, asO, mbind_ap, bindO_ok, bindO_ite, ite_ap, mret_ap, mopt_some, lift0_ap, liftO_ok, take_val, peek_val, peek_own, peek_lck, take_own, mval_int, mval_str, mval_bl, mval_non, mval_tup, mval_lst, mval_fz, mval_dct, mresL_v, mvals, cLt, cLe, cGt, cGe, cEqI, cNeI, cEqB, cIs, cIsNot, tBo, tIn, tNo, tTu, tLi, xT, xL, xF, omap_some, ok0, ok1, ok2, ok3, f__law_right, b__law_right, es, hs, mv, ex, rg, lp, eqS]
  | true =>
    obtain ⟨s, k, rooms, rfl, s1, s2, k1, k2, r1, r2, hR⟩ := sayB_prop hs
    have el := e_llag hR r1 s2 (by omega) (by omega) k2 (n + 6) S
    have e1 : duO (.tup [.int s, .int k, .tup rooms]) = lagD s k (comeP (lagF rooms) s k 400 [.tup []] []) := by unfold duO; rw [hs]; rfl
    rw [← e1] at el
    have f0 : atD [D.str "", D.str "wide"] 0 = some (.str "") := rfl
    have f1 : atD [D.str "", D.str "wide"] 1 = some (.str "wide") := rfl
    have e2 : wordD (.tup [.int s, .int k, .tup rooms]) = if isNon (duO (.tup [.int s, .int k, .tup rooms])) then "wide" else "" := by
      rw [e1]
      unfold wordD
      rw [hs]
      show (match lagD s k (comeP (lagF rooms) s k 400 [.tup []] []) with
        | .tup _ => ("" : Str)
        | _ => "wide") = _
      cases comeP (lagF rooms) s k 400 [.tup []] [] <;> rfl
    generalize D.tup [.int s, .int k, .tup rooms] = d at *
    cases hn : isNon (duO d) with
    | true =>
      rw [hn] at e2
      have e2 : wordD d = "wide" := e2
      have e3 : duO d = .non := by cases hh : duO d <;> rw [hh] at hn <;> first | rfl | cases hn
      rw [e2, e3] at lp
      rw [e3] at el
      simp [asL_ap, fBinL_ap, fLst_ap, fFl_ap, fl_tup, fl_lst, all_mapT, ln_tup, ln_lst, ln_fz, tu_lst, tu_tup, it_tup, it_lst, it_fz, sq_tup, sq_lst, bindT_v, lockF, lockS, wipeF, run_ap, outO_rt, outO_nx, outO_ite, evC, evE, evB, evEs, evPs, evT, evTs, evI, evF, frame0, asP, asQ, asO, mbind_ap, bindO_ok, bindO_ite, ite_ap, mret_ap, mopt_some, lift0_ap, liftO_ok, take_val, peek_val, peek_own, peek_lck, take_own, mval_int, mval_str, mval_bl, mval_non, mval_tup, mval_lst, mval_fz, mval_dct, mresL_v, mvals, cLt, cLe, cGt, cGe, cEqI, cNeI, cEqB, cIs, cIsNot, tBo, tIn, tNo, tTu, tLi, xT, xL, xF, omap_some, ok0, ok1, ok2, ok3, f__law_right, b__law_right, es, hs, el, mv, ex, rg, lp, eqS, isNon, iB, f1]
    | false =>
      rw [hn] at e2
      have e2 : wordD d = "" := e2
      obtain ⟨l, e3⟩ : ∃ l, duO d = .tup l := by
        rcases due_shape (d := d) with ⟨e, _⟩ | ⟨a, b, e, _⟩
        · rw [e] at hn; cases hn
        · exact ⟨_, e⟩
      rw [e2, e3] at lp
      rw [e3] at el
      simp [asL_ap, fBinL_ap, fLst_ap, fFl_ap, fl_tup, fl_lst, all_mapT, ln_tup, ln_lst, ln_fz, tu_lst, tu_tup, it_tup, it_lst, it_fz, sq_tup, sq_lst, bindT_v, lockF, lockS, wipeF, run_ap, outO_rt, outO_nx, outO_ite, evC, evE, evB, evEs, evPs, evT, evTs, evI, evF, frame0, asP, asQ, asO, mbind_ap, bindO_ok, bindO_ite, ite_ap, mret_ap, mopt_some, lift0_ap, liftO_ok, take_val, peek_val, peek_own, peek_lck, take_own, mval_int, mval_str, mval_bl, mval_non, mval_tup, mval_lst, mval_fz, mval_dct, mresL_v, mvals, cLt, cLe, cGt, cGe, cEqI, cNeI, cEqB, cIs, cIsNot, tBo, tIn, tNo, tTu, tLi, xT, xL, xF, omap_some, ok0, ok1, ok2, ok3, f__law_right, b__law_right, es, hs, el, mv, ex, rg, lp, eqS, isNon, iB, f0]
end K75

namespace K75
open PySem PySem.Spec MP SH
theorem e_any (n : Nat) (j N : Nat) (k : Int) (S : Store) (hp : Pot j N S) (hN : N ≤ 900000) :
    ∃ v S', (callF Pg (n + 4)).f "_law_any" [.ref j, .int k] [] [] S = .ok v S' ∧ Saying v ∧ Pot j (N + 20010) S' := by
  rw [show ("_law_any" : Str) = f__law_any.name from rfl, F_eq hany rfl rfl]
  obtain ⟨w, S1, e1, w1, w2, p1⟩ := e_take hHP (n + 2) j N 5 S hp (by omega) (by omega) (by omega)
  have m1 : opBin .Mult (.int 5) (.int (if (0 : Int) < k then 1 else 0)) = some (.int (5 * (if (0 : Int) < k then 1 else 0))) := bMul' (by omega) (by omega) (by split <;> omega) (by split <;> omega)
  have p6 : opBin .Pow (.int 10) (.int 6) = some (.int 1000000) := bPow' (by omega) (by omega) (by omega) (by omega)
  by_cases c0 : w + 5 * (if (0 : Int) < k then 1 else 0) = 0
  · obtain ⟨a, S2, e2, a1, a2, p2⟩ := e_take hHP (n + 2) j (N + 1) 2 S1 p1 (by omega) (by omega) (by omega)
    obtain ⟨b, S3, e3, b1, b2, p3⟩ := e_take hHP (n + 2) j (N + 2) 2 S2 p2 (by omega) (by omega) (by omega)
    obtain ⟨c, S4, e4, c1, c2, p4⟩ := e_take hHP (n + 2) j (N + 3) 31 S3 p3 (by omega) (by omega) (by omega)
    obtain ⟨v, S5, e5, hv, p5⟩ := e_gsaying hHP n j (N + 4) (1 + a) (2 + b) (30 + c) 1000000 S4 p4 (by omega) (by omega) (by omega) (by omega) (by omega) (by omega) (by omega) (by omega) (by omega)
    refine ⟨v, S5, ?_, hv, p5.mono (by omega)⟩
    simp [asL_ap, fBinL_ap, fLst_ap, fFl_ap, fl_tup, fl_lst, all_mapT, ln_tup, ln_lst, ln_fz, tu_lst, tu_tup, it_tup, it_lst, it_fz, sq_tup, sq_lst, bindT_v, lockF, lockS, wipeF, run_ap, outO_rt, outO_nx, outO_ite, evC, evE, evB, evEs, evPs, evT, evTs, evI, evF, frame0, asP, asQ, asO, mbind_ap, bindO_ok, bindO_ite, ite_ap, mret_ap, mopt_some, lift0_ap, liftO_ok, take_val, peek_val, peek_own, peek_lck, take_own, mval_int, mval_str, mval_bl, mval_non, mval_tup, mval_lst, mval_fz, mval_dct, mresL_v, mvals, cLt, cLe, cGt, cGe, cEqI, cNeI, cEqB, cIs, cIsNot, tBo, tIn, tNo, tTu, tLi, xT, xL, xF, omap_some, ok0, ok1, ok2, ok3, f__law_any, b__law_any, e1, iB, m1, bAdd, c0, e2, e3, e4, p6, e5]
  · by_cases c1' : w + 5 * (if (0 : Int) < k then 1 else 0) = 1
    · obtain ⟨a, S2, e2, a1, a2, p2⟩ := e_take hHP (n + 2) j (N + 1) 6 S1 p1 (by omega) (by omega) (by omega)
      obtain ⟨b, S3, e3, b1, b2, p3⟩ := e_take hHP (n + 2) j (N + 2) 6 S2 p2 (by omega) (by omega) (by omega)
      obtain ⟨c, S4, e4, c1, c2, p4⟩ := e_take hHP (n + 2) j (N + 3) 3 S3 p3 (by omega) (by omega) (by omega)
      obtain ⟨v, S5, e5, hv, p5⟩ := e_gsaying hHP n j (N + 4) (9 - a) (9 - b) (1 + c) 60 S4 p4 (by omega) (by omega) (by omega) (by omega) (by omega) (by omega) (by omega) (by omega) (by omega)
      refine ⟨v, S5, ?_, hv, p5.mono (by omega)⟩
      simp [asL_ap, fBinL_ap, fLst_ap, fFl_ap, fl_tup, fl_lst, all_mapT, ln_tup, ln_lst, ln_fz, tu_lst, tu_tup, it_tup, it_lst, it_fz, sq_tup, sq_lst, bindT_v, lockF, lockS, wipeF, run_ap, outO_rt, outO_nx, outO_ite, evC, evE, evB, evEs, evPs, evT, evTs, evI, evF, frame0, asP, asQ, asO, mbind_ap, bindO_ok, bindO_ite, ite_ap, mret_ap, mopt_some, lift0_ap, liftO_ok, take_val, peek_val, peek_own, peek_lck, take_own, mval_int, mval_str, mval_bl, mval_non, mval_tup, mval_lst, mval_fz, mval_dct, mresL_v, mvals, cLt, cLe, cGt, cGe, cEqI, cNeI, cEqB, cIs, cIsNot, tBo, tIn, tNo, tTu, tLi, xT, xL, xF, omap_some, ok0, ok1, ok2, ok3, f__law_any, b__law_any, e1, iB, m1, bAdd, bSub, c1', e2, e3, e4, p6, e5]
    · obtain ⟨z, ez, z1, z2⟩ : ∃ z : Int, atD [.int 6, .int 4] (if (5 : Int) < k then 1 else 0) = some (.int z) ∧ 1 ≤ z ∧ z ≤ 6 := by
        split
        · exact ⟨4, rfl, by omega, by omega⟩
        · exact ⟨6, rfl, by omega, by omega⟩
      obtain ⟨a, S2, e2, a1, a2, p2⟩ := e_take hHP (n + 2) j (N + 1) z S1 p1 (by omega) (by omega) (by omega)
      obtain ⟨b, S3, e3, b1, b2, p3⟩ := e_take hHP (n + 2) j (N + 2) 3 S2 p2 (by omega) (by omega) (by omega)
      obtain ⟨c, S4, e4, c1, c2, p4⟩ := e_take hHP (n + 2) j (N + 3) 4 S3 p3 (by omega) (by omega) (by omega)
      obtain ⟨y, S5, e5, y1, y2, p5⟩ := e_take hHP (n + 2) j (N + 4) 3 S4 p4 (by omega) (by omega) (by omega)
      obtain ⟨r, er, r1, r2⟩ : ∃ r : Int, atD [.int 3, .int 9, .int 40] y = some (.int r) ∧ 1 ≤ r ∧ r ≤ 40 := by
        have : y = 0 ∨ y = 1 ∨ y = 2 := by omega
        rcases this with rfl | rfl | rfl
        · exact ⟨3, rfl, by omega, by omega⟩
        · exact ⟨9, rfl, by omega, by omega⟩
        · exact ⟨40, rfl, by omega, by omega⟩
      obtain ⟨v, S6, e6, hv, p6'⟩ := e_gsaying hHP n j (N + 5) (1 + b) (1 + c) (1 + a) r S5 p5 (by omega) (by omega) (by omega) (by omega) (by omega) (by omega) (by omega) (by omega) (by omega)
      refine ⟨v, S6, ?_, hv, p6'.mono (by omega)⟩
      simp [asL_ap, fBinL_ap, fLst_ap, fFl_ap, fl_tup, fl_lst, all_mapT, ln_tup, ln_lst, ln_fz, tu_lst, tu_tup, it_tup, it_lst, it_fz, sq_tup, sq_lst, bindT_v, lockF, lockS, wipeF, run_ap, outO_rt, outO_nx, outO_ite, evC, evE, evB, evEs, evPs, evT, evTs, evI, evF, frame0, asP, asQ, asO, mbind_ap, bindO_ok, bindO_ite, ite_ap, mret_ap, mopt_some, lift0_ap, liftO_ok, take_val, peek_val, peek_own, peek_lck, take_own, mval_int, mval_str, mval_bl, mval_non, mval_tup, mval_lst, mval_fz, mval_dct, mresL_v, mvals, cLt, cLe, cGt, cGe, cEqI, cNeI, cEqB, cIs, cIsNot, tBo, tIn, tNo, tTu, tLi, xT, xL, xF, omap_some, ok0, ok1, ok2, ok3, f__law_any, b__law_any, e1, iB, m1, bAdd, c0, c1', ez, e2, e3, e4, e5, er, e6]
end K75

namespace K75
open PySem PySem.Spec MP SH
/-- the odd things -/
def odds : List D := [.non, .bl true, .bl false, .int (-1), .int 0, .int 1, .int 9, .int 10, .int (10 ^ 39), .str "", .str "0", .tup [], .tup [.int 0], .lst [], .lst [.int 0, .int 0], .dct false [] []]
theorem odds_odd : ∀ x ∈ odds, Odd 0 x := by
  intro x hx
  simp only [odds, List.mem_cons, List.not_mem_nil, or_false] at hx
  rcases hx with rfl | rfl | rfl | rfl | rfl | rfl | rfl | rfl | rfl | rfl | rfl | rfl | rfl | rfl | rfl | rfl <;> exact ⟨by decide, by decide, by decide⟩
theorem rows_ok {m : Nat} (hm : m ≤ 100) {k : Int} {d : D} (h : Row k (Beh m) d) : okd 0 d = true ∧ dep d ≤ 1 ∧ ∃ l, d = .tup l ∧ (l.length : Int) = k ∧ wts l = 62 * l.length := by
  obtain ⟨l, rfl, hl, hx⟩ := h
  have hw : ∀ l : List D, (∀ x ∈ l, Beh m x) → wts l = 62 * l.length := by
    intro l
    induction l with
    | nil => intro _; rfl
    | cons x l ih =>
      intro h
      have e := ih fun y hy => h y (List.mem_cons_of_mem _ hy)
      have : wt x = 60 := by
        rcases h x List.mem_cons_self with rfl | ⟨i, rfl, _⟩ <;> rfl
      rw [wts_cons, e, this, List.length_cons]
      omega
  refine ⟨?_, ?_, l, rfl, hl, hw l hx⟩
  · rw [okd_tup]
    refine okds_of fun x h => ?_
    rcases hx x h with rfl | ⟨i, rfl, i1, i2⟩
    · rfl
    · exact decide_eq_true (by omega)
  · rw [dep_tup]
    have : deps l ≤ 0 := deps_le fun x h => by
      rcases hx x h with rfl | ⟨i, rfl, _⟩ <;> exact Nat.zero_le _
    omega
theorem wts_le {B : Nat} : ∀ {l : List D}, (∀ x ∈ l, wt x ≤ B) → wts l ≤ l.length * (B + 2)
  | [], _ => Nat.zero_le _
  | x :: l, h => by
    have e := wts_le (B := B) (l := l) fun y hy => h y (List.mem_cons_of_mem _ hy)
    have := h x List.mem_cons_self
    rw [wts_cons, List.length_cons, Nat.succ_mul]
    omega
theorem saying_ok {d : D} (h : Saying d) : okd 0 d = true ∧ wt d ≤ 600000 ∧ dep d ≤ 4 := by
  obtain ⟨s, k, rooms, rfl, s1, s2, k1, k2, r1, r2, hR⟩ := h
  have room : ∀ r ∈ rooms, okd 0 r = true ∧ wt r ≤ 5100 ∧ dep r ≤ 2 := by
    intro r hr
    obtain ⟨l, rfl, hl, hx⟩ := hR r hr
    have q : ∀ x ∈ l, wt x ≤ 561 := by
      intro x h
      obtain ⟨_, _, l', rfl, e1, e2⟩ := rows_ok r2 (hx x h)
      rw [wt_tup, e2]
      omega
    refine ⟨okds_of fun x h => (rows_ok r2 (hx x h)).1, ?_, ?_⟩
    · have := wts_le q
      have h9 : l.length * (561 + 2) ≤ 9 * (561 + 2) := Nat.mul_le_mul_right _ (by omega)
      rw [wt_tup]
      omega
    · have := deps_le fun x h => (rows_ok r2 (hx x h)).2.1
      rw [dep_tup]
      omega
  have a1 : okds 0 rooms = true := okds_of fun x h => (room x h).1
  have a2 := wts_le fun x h => (room x h).2.1
  have a3 := deps_le fun x h => (room x h).2.2
  have h9 : rooms.length * (5100 + 2) ≤ 100 * (5100 + 2) := Nat.mul_le_mul_right _ r2
  refine ⟨?_, ?_, ?_⟩
  · show (decide (s.natAbs < 10 ^ 40 + 0) && (decide (k.natAbs < 10 ^ 40 + 0) && (okds 0 rooms && true))) = true
    rw [a1, decide_eq_true (by omega), decide_eq_true (by omega)]
    rfl
  · show 60 + 2 + (60 + 2 + ((wts rooms + 3) + 2 + 0)) + 3 ≤ _
    omega
  · show max 0 (max 0 (max (deps rooms + 1) 0)) + 1 ≤ 4
    omega
end K75

namespace K75
open PySem PySem.Spec MP SH
def Fit (d : D) : Prop := ∃ kk, kk ≤ 1000 ∧ okd kk d = true ∧ wt d ≤ 16777216 ∧ dep d ≤ 50
theorem Fit.run {d : D} (h : Fit d) (S : Store) : (callF Pg 40).f "_law_right" [d] [] [] S = .ok (.bl true) S := by
  obtain ⟨kk, h1, h2, h3, h4⟩ := h
  exact e_right 32 d S h1 h2 h3 h4
theorem things_loop (S : Store) (a0 a1 a2 a3 a4 a5 a7 a8 a9 : Slot) : ∀ (l : List D), (∀ x ∈ l, Fit x) → ∀ a6 : Slot, ∃ b6, MP.forM (.v 6) (evC (callF Pg 40) Pg.sub b_law_3) l [a0, a1, a2, a3, a4, a5, a6, a7, a8, a9] S = .ok .nx [a0, a1, a2, a3, a4, a5, b6, a7, a8, a9] S := by
  intro l
  induction l with
  | nil => intro _ a6; exact ⟨a6, rfl⟩
  | cons d l ih =>
    intro h a6
    have e := (h d List.mem_cons_self).run S
    have turn : bindO (bindT (.v 6) d [a0, a1, a2, a3, a4, a5, a6, a7, a8, a9] S) (fun _ => evC (callF Pg 40) Pg.sub b_law_3) = .ok .nx [a0, a1, a2, a3, a4, a5, .val d, a7, a8, a9] S := by
      simp [asL_ap, fBinL_ap, fLst_ap, fFl_ap, fl_tup, fl_lst, all_mapT, ln_tup, ln_lst, ln_fz, tu_lst, tu_tup, it_tup, it_lst, it_fz, sq_tup, sq_lst, bindT_v, lockF, lockS, wipeF, run_ap, outO_rt, outO_nx, outO_ite, evC, evE, evB, evEs, evPs, evT, evTs, evI, evF, frame0, asP, asQ, asO, mbind_ap, bindO_ok, bindO_ite, ite_ap, mret_ap, mopt_some, lift0_ap, liftO_ok, take_val, peek_val, peek_own, peek_lck, take_own, mval_int, mval_str, mval_bl, mval_non, mval_tup, mval_lst, mval_fz, mval_dct, mresL_v, mvals, cLt, cLe, cGt, cGe, cEqI, cNeI, cEqB, cIs, cIsNot, tBo, tIn, tNo, tTu, tLi, xT, xL, xF, omap_some, ok0, ok1, ok2, ok3, b_law_3, e]
    rw [forM_cons turn]
    exact ih (fun x hx => h x (List.mem_cons_of_mem _ hx)) _
theorem main_turn (ns : List Int) (k : Nat) (hk : k ≤ 1000) (S : Store) (a1 : Slot) (h1 : a1 = .own (.lst odds) ∨ a1 = .val (.lst odds)) (a2 a3 a4 a5 a6 a7 a8 a9 : Slot) :
    ∃ b3 b4 b5 b6 S', bindO (bindT (.v 2) (.int (k : Int)) [.val (.fz (ns.map D.int)), a1, a2, a3, a4, a5, a6, a7, a8, a9] S) (fun _ => evC (callF Pg 40) Pg.sub b_law_4) = .ok .nx [.val (.fz (ns.map D.int)), .val (.lst odds), .val (.int (k : Int)), b3, b4, b5, b6, a7, a8, a9] S' := by
  obtain ⟨S1, e1, p1⟩ := e_pot hHP 39 ns k S hk
  generalize S.length = j at *
  obtain ⟨v, S2, e2, hv, p2⟩ := e_any 36 j 0 (k : Int) S1 p1 (by omega)
  obtain ⟨v1, v2, v3⟩ := saying_ok hv
  have ol : odds.length = 16 := rfl
  obtain ⟨u, S3, e3, hu, p3⟩ := e_other hHS hHL hHP hHO odds_odd (by rw [ol]; omega) (by rw [ol]; omega) 4 34 v j _ S2 v1 (by omega) v3 p2 (by omega)
  have hu2 := hu.w
  have hu3 := hu.d
  obtain ⟨t, S4, e4, ht, p4⟩ := e_other hHS hHL hHP hHO (k := 2) (odds := odds) (fun x hx => ⟨okd_mono (by omega) _ (odds_odd x hx).ok, (odds_odd x hx).w, (odds_odd x hx).d⟩) (by rw [ol]; omega) (by rw [ol]; omega) 5 33 u j _ S3 hu.ok (by omega) (by omega) p3 (by omega)
  have ht2 := ht.w
  have ht3 := ht.d
  obtain ⟨o, S5, e5, o1, o2, p5⟩ := e_take hHP 39 j _ 16 S4 p4 (by omega) (by omega) (by omega)
  obtain ⟨o, rfl⟩ : ∃ x : Nat, o = x := ⟨o.toNat, by omega⟩
  have o3 : o < odds.length := by rw [ol]; omega
  have ox := odds_odd odds[o] (List.getElem_mem o3)
  have ao := at_nat o3
  generalize odds[o] = odd at ox ao
  have od2 := ox.w
  have od3 := ox.d
  obtain ⟨b6, e6⟩ := things_loop S5 (.val (.fz (ns.map D.int))) (.val (.lst odds)) (.val (.int (k : Int))) (.val (.ref j)) (.val v) (.val u) a7 a8 a9 [v, u, t, odd] (fun x hx => by
    simp only [List.mem_cons, List.not_mem_nil, or_false] at hx
    rcases hx with rfl | rfl | rfl | rfl
    · exact ⟨0, by omega, v1, by omega, by omega⟩
    · exact ⟨2, by omega, hu.ok, by omega, by omega⟩
    · exact ⟨4, by omega, ht.ok, by omega, by omega⟩
    · exact ⟨0, by omega, ox.ok, by omega, by omega⟩) a6
  generalize ns.map D.int = fs at *
  generalize (k : Int) = kI at *
  generalize odds = os at *
  refine ⟨.val (.ref j), .val v, .val u, b6, S5, ?_⟩
  rcases h1 with rfl | rfl
  · simp [asL_ap, fBinL_ap, fLst_ap, fFl_ap, fl_tup, fl_lst, all_mapT, ln_tup, ln_lst, ln_fz, tu_lst, tu_tup, it_tup, it_lst, it_fz, sq_tup, sq_lst, bindT_v, lockF, lockS, wipeF, run_ap, outO_rt, outO_nx, outO_ite, evC, evE, evB, evEs, evPs, evT, evTs, evI, evF, frame0, asP, asQ, asO, mbind_ap, bindO_ok, bindO_ite, ite_ap, mret_ap, mopt_some, lift0_ap, liftO_ok, take_val, peek_val, peek_own, peek_lck, take_own, mval_int, mval_str, mval_bl, mval_non, mval_tup, mval_lst, mval_fz, mval_dct, mresL_v, mvals, cLt, cLe, cGt, cGe, cEqI, cNeI, cEqB, cIs, cIsNot, tBo, tIn, tNo, tTu, tLi, xT, xL, xF, omap_some, ok0, ok1, ok2, ok3, b_law_4, e1, e2, e3, e4, e5, ao, e6, show okLen 4 = true from rfl]
  · simp [asL_ap, fBinL_ap, fLst_ap, fFl_ap, fl_tup, fl_lst, all_mapT, ln_tup, ln_lst, ln_fz, tu_lst, tu_tup, it_tup, it_lst, it_fz, sq_tup, sq_lst, bindT_v, lockF, lockS, wipeF, run_ap, outO_rt, outO_nx, outO_ite, evC, evE, evB, evEs, evPs, evT, evTs, evI, evF, frame0, asP, asQ, asO, mbind_ap, bindO_ok, bindO_ite, ite_ap, mret_ap, mopt_some, lift0_ap, liftO_ok, take_val, peek_val, peek_own, peek_lck, take_own, mval_int, mval_str, mval_bl, mval_non, mval_tup, mval_lst, mval_fz, mval_dct, mresL_v, mvals, cLt, cLe, cGt, cGe, cEqI, cNeI, cEqB, cIs, cIsNot, tBo, tIn, tNo, tTu, tLi, xT, xL, xF, omap_some, ok0, ok1, ok2, ok3, b_law_4, e1, e2, e3, e4, e5, ao, e6, show okLen 4 = true from rfl]
end K75

namespace K75
open PySem PySem.Spec MP SH
def ring (m : Int) (d : D) : D := .tup [.tup [.int ((inI d + 1) % m)]]
theorem ring_fit {m : Int} (h1 : 1 ≤ m) (h2 : m ≤ 100) : Fit (.tup [.int 1, .int 1, .tup ((R m).map (ring m))]) := by
  have hl : (((R m).map (ring m)).length : Int) = m := by rw [List.length_map, R_len]; omega
  have hs : Saying (.tup [.int 1, .int 1, .tup ((R m).map (ring m))]) := by
    refine ⟨1, 1, (R m).map (ring m), rfl, by omega, by omega, by omega, by omega, by omega, by omega, ?_⟩
    intro r hr
    obtain ⟨d, hd, rfl⟩ := List.mem_map.mp hr
    rw [hl]
    refine ⟨_, rfl, rfl, fun x hx => ?_⟩
    rw [List.mem_singleton.mp hx]
    refine ⟨_, rfl, rfl, fun y hy => ?_⟩
    rw [List.mem_singleton.mp hy]
    exact .inr ⟨_, rfl, Int.emod_nonneg _ (by omega), Int.emod_lt_of_pos _ (by omega)⟩
  obtain ⟨a, b, c⟩ := saying_ok hs
  exact ⟨0, by omega, a, by omega, by omega⟩
theorem ring_turn (S : Store) {m : Int} (h1 : 1 ≤ m) (h2 : m ≤ 100) (a0 a1 a2 a3 a4 a5 a6 a7 a8 a9 : Slot) :
    bindO (bindT (.v 7) (.int m) [a0, a1, a2, a3, a4, a5, a6, a7, a8, a9] S) (fun _ => evC (callF Pg 40) Pg.sub b_law_2) = .ok .nx [a0, a1, a2, a3, a4, a5, a6, .val (.int m), a8, a9] S := by
  have rm := R_ok (k := m) (by omega) (by omega)
  have md := fun (x : Int) => bMod (a := x) (b := m) (by omega)
  have key : fLc (evCl (callF Pg 40) Pg.sub c_law_1) [a0, a1, a2, a3, a4, a5, a6, .val (.int m), a8, a9] S = .ok ((R m).map (ring m)) [a0, a1, a2, a3, a4, a5, a6, .val (.int m), a8, a9] S :=
    lc_map (l := R m) (g := ring m) (by simp [asL_ap, fBinL_ap, fLst_ap, fFl_ap, fl_tup, fl_lst, all_mapT, ln_tup, ln_lst, ln_fz, tu_lst, tu_tup, it_tup, it_lst, it_fz, sq_tup, sq_lst, bindT_v, lockF, lockS, wipeF, run_ap, outO_rt, outO_nx, outO_ite, evC, evE, evB, evEs, evPs, evT, evTs, evI, evF, frame0, asP, asQ, asO, mbind_ap, bindO_ok, bindO_ite, ite_ap, mret_ap, mopt_some, lift0_ap, liftO_ok, take_val, peek_val, peek_own, peek_lck, take_own, mval_int, mval_str, mval_bl, mval_non, mval_tup, mval_lst, mval_fz, mval_dct, mresL_v, mvals, cLt, cLe, cGt, cGe, cEqI, cNeI, cEqB, cIs, cIsNot, tBo, tIn, tNo, tTu, tLi, xT, xL, xF, omap_some, ok0, ok1, ok2, ok3, rm]) (fun d hd => by
      obtain ⟨i, rfl, i1, i2⟩ := R_mem hd
      exact ⟨[lockS a0, lockS a1, lockS a2, lockS a3, lockS a4, lockS a5, lockS a6, .val (.int m), .val (.int i), lockS a9], by simp [asL_ap, fBinL_ap, fLst_ap, fFl_ap, fl_tup, fl_lst, all_mapT, ln_tup, ln_lst, ln_fz, tu_lst, tu_tup, it_tup, it_lst, it_fz, sq_tup, sq_lst, bindT_v, lockF, lockS, wipeF, run_ap, outO_rt, outO_nx, outO_ite, evC, evE, evB, evEs, evPs, evT, evTs, evI, evF, frame0, asP, asQ, asO, mbind_ap, bindO_ok, bindO_ite, ite_ap, mret_ap, mopt_some, lift0_ap, liftO_ok, take_val, peek_val, peek_own, peek_lck, take_own, mval_int, mval_str, mval_bl, mval_non, mval_tup, mval_lst, mval_fz, mval_dct, mresL_v, mvals, cLt, cLe, cGt, cGe, cEqI, cNeI, cEqB, cIs, cIsNot, tBo, tIn, tNo, tTu, tLi, xT, xL, xF, omap_some, ok0, ok1, ok2, ok3, ring, inI, bAdd, md]⟩) (by rw [R_len]; omega)
  have e := (ring_fit h1 h2).run S
  generalize (R m).map (ring m) = rs at *
  simp [asL_ap, fBinL_ap, fLst_ap, fFl_ap, fl_tup, fl_lst, all_mapT, ln_tup, ln_lst, ln_fz, tu_lst, tu_tup, it_tup, it_lst, it_fz, sq_tup, sq_lst, bindT_v, lockF, lockS, wipeF, run_ap, outO_rt, outO_nx, outO_ite, evC, evE, evB, evEs, evPs, evT, evTs, evI, evF, frame0, asP, asQ, asO, mbind_ap, bindO_ok, bindO_ite, ite_ap, mret_ap, mopt_some, lift0_ap, liftO_ok, take_val, peek_val, peek_own, peek_lck, take_own, mval_int, mval_str, mval_bl, mval_non, mval_tup, mval_lst, mval_fz, mval_dct, mresL_v, mvals, cLt, cLe, cGt, cGe, cEqI, cNeI, cEqB, cIs, cIsNot, tBo, tIn, tNo, tTu, tLi, xT, xL, xF, omap_some, ok0, ok1, ok2, ok3, b_law_2, key, e]
theorem odds_fit : ∀ x ∈ odds, Fit x := fun x hx => ⟨0, by omega, (odds_odd x hx).ok, by have := (odds_odd x hx).w; omega, by have := (odds_odd x hx).d; omega⟩
theorem last_ok (S : Store) (a0 a2 a3 a4 a5 a6 a7 a8 a9 : Slot) : fLc (evCl (callF Pg 40) Pg.sub c_law_0) [a0, .val (.lst odds), a2, a3, a4, a5, a6, a7, a8, a9] S = .ok [] [a0, .val (.lst odds), a2, a3, a4, a5, a6, a7, a8, a9] S := by
  have hf : ∀ l : List D, l.flatMap (fun _ => ([] : List D)) = [] := fun l => by induction l with
    | nil => rfl
    | cons x l ih => rw [List.flatMap_cons, ih]; rfl
  have key := lc_pure (cl := callF Pg 40) (sub := Pg.sub) (t := .v 9) (own := [9]) (it := .val (.var 1)) (cs := .cons (.not_ (.v (.call "_law_right" (.cons (.var 9) .nil) [] .nil))) .nil) (r := .fin (.var 9)) (ρ := [a0, .val (.lst odds), a2, a3, a4, a5, a6, a7, a8, a9]) (S := S) (l := odds) (g := fun _ => []) (by simp [asL_ap, fBinL_ap, fLst_ap, fFl_ap, fl_tup, fl_lst, all_mapT, ln_tup, ln_lst, ln_fz, tu_lst, tu_tup, it_tup, it_lst, it_fz, sq_tup, sq_lst, bindT_v, lockF, lockS, wipeF, run_ap, outO_rt, outO_nx, outO_ite, evC, evE, evB, evEs, evPs, evT, evTs, evI, evF, frame0, asP, asQ, asO, mbind_ap, bindO_ok, bindO_ite, ite_ap, mret_ap, mopt_some, lift0_ap, liftO_ok, take_val, peek_val, peek_own, peek_lck, take_own, mval_int, mval_str, mval_bl, mval_non, mval_tup, mval_lst, mval_fz, mval_dct, mresL_v, mvals, cLt, cLe, cGt, cGe, cEqI, cNeI, cEqB, cIs, cIsNot, tBo, tIn, tNo, tTu, tLi, xT, xL, xF, omap_some, ok0, ok1, ok2, ok3]) (fun d hd => by
    have e := (odds_fit d hd).run S
    exact ⟨[lockS a0, .val (.lst odds), lockS a2, lockS a3, lockS a4, lockS a5, lockS a6, lockS a7, lockS a8, .val d], by simp [asL_ap, fBinL_ap, fLst_ap, fFl_ap, fl_tup, fl_lst, all_mapT, ln_tup, ln_lst, ln_fz, tu_lst, tu_tup, it_tup, it_lst, it_fz, sq_tup, sq_lst, bindT_v, lockF, lockS, wipeF, run_ap, outO_rt, outO_nx, outO_ite, evC, evE, evB, evEs, evPs, evT, evTs, evI, evF, frame0, asP, asQ, asO, mbind_ap, bindO_ok, bindO_ite, ite_ap, mret_ap, mopt_some, lift0_ap, liftO_ok, take_val, peek_val, peek_own, peek_lck, take_own, mval_int, mval_str, mval_bl, mval_non, mval_tup, mval_lst, mval_fz, mval_dct, mresL_v, mvals, cLt, cLe, cGt, cGe, cEqI, cNeI, cEqB, cIs, cIsNot, tBo, tIn, tNo, tTu, tLi, xT, xL, xF, omap_some, ok0, ok1, ok2, ok3, e]⟩) (by rw [hf]; exact Nat.zero_le _)
  rw [hf] at key
  exact key
def i_law : C := match b_law with
  | .seq a _ => a
  | c => c
def n_law : It := .rng1 (.bl .max2 (.cons (.cst (.int 1)) (.cons (.bl .min2 (.cons (.cst (.int 20)) (.cons (.bl .len (.cons (.var 0) .nil)) .nil))) .nil)))
theorem b_law_eq : b_law = .seq i_law (.seq (.for_ (.v 2) n_law b_law_4) (.seq (.for_ (.v 7) (.val (.tup (.cons (.cst (.int 99)) (.cons (.cst (.int 100)) .nil)))) b_law_2) (.seq (.ret (.cmp .Eq (.lc c_law_0) (.lst .nil))) .skip))) := rfl
theorem first_ok (S : Store) (a0 a1 a2 a3 a4 a5 a6 a7 a8 a9 : Slot) : evC (callF Pg 40) Pg.sub i_law [a0, a1, a2, a3, a4, a5, a6, a7, a8, a9] S = .ok .nx [a0, .own (.lst odds), a2, a3, a4, a5, a6, a7, a8, a9] S := by
  rfl
theorem many_ok (ns : List Int) (S : Store) (a1 a2 a3 a4 a5 a6 a7 a8 a9 : Slot) : ∃ m : Int, 1 ≤ m ∧ m ≤ 20 ∧ evI (callF Pg 40) Pg.sub true n_law [.val (.fz (ns.map D.int)), a1, a2, a3, a4, a5, a6, a7, a8, a9] S = .ok (R m) [.val (.fz (ns.map D.int)), a1, a2, a3, a4, a5, a6, a7, a8, a9] S := by
  have mn : ∀ a b : Int, opBl .min2 [.int a, .int b] = some (.int (if b < a then b else a)) := fun _ _ => rfl
  have mx : ∀ a b : Int, opBl .max2 [.int a, .int b] = some (.int (if b > a then b else a)) := fun _ _ => rfl
  generalize ns.map D.int = fs
  obtain ⟨z, hz⟩ : ∃ z : Int, z = fs.length := ⟨_, rfl⟩
  obtain ⟨y, hy⟩ : ∃ y : Int, y = if z < 20 then z else 20 := ⟨_, rfl⟩
  obtain ⟨m, hm⟩ : ∃ m : Int, m = if y > 1 then y else 1 := ⟨_, rfl⟩
  have m1 : 1 ≤ m := by rw [hm]; split <;> omega
  have m2 : m ≤ 20 := by rw [hm, hy]; split <;> split <;> omega
  have rm := R_ok (k := m) (by omega) (by omega)
  have ln : opBl .len [.fz fs] = some (.int z) := by rw [hz]; rfl
  have e1 := mn 20 z
  rw [← hy] at e1
  have e2 := mx 1 y
  rw [← hm] at e2
  refine ⟨m, m1, m2, ?_⟩
  simp [asL_ap, fBinL_ap, fLst_ap, fFl_ap, fl_tup, fl_lst, all_mapT, ln_tup, ln_lst, ln_fz, tu_lst, tu_tup, it_tup, it_lst, it_fz, sq_tup, sq_lst, bindT_v, lockF, lockS, wipeF, run_ap, outO_rt, outO_nx, outO_ite, evC, evE, evB, evEs, evPs, evT, evTs, evI, evF, frame0, asP, asQ, asO, mbind_ap, bindO_ok, bindO_ite, ite_ap, mret_ap, mopt_some, lift0_ap, liftO_ok, take_val, peek_val, peek_own, peek_lck, take_own, mval_int, mval_str, mval_bl, mval_non, mval_tup, mval_lst, mval_fz, mval_dct, mresL_v, mvals, cLt, cLe, cGt, cGe, cEqI, cNeI, cEqB, cIs, cIsNot, tBo, tIn, tNo, tTu, tLi, xT, xL, xF, omap_some, ok0, ok1, ok2, ok3, n_law, ln, e1, e2, rm]
theorem hrun (ns : List Int) : ∃ S, runFn (callF Pg 40) Pg.sub f_law [.fz (ns.map D.int)] [] = .ok (.bl true) S := by
  obtain ⟨m, m1, m2, em⟩ := many_ok ns [] (.own (.lst odds)) .none .none .none .none .none .none .none .none
  have lp := for_inv (t := .v 2) (b := evC (callF Pg 40) Pg.sub b_law_4) (l := R m) (ρ := [.val (.fz (ns.map D.int)), .own (.lst odds), .none, .none, .none, .none, .none, .none, .none, .none]) (S := [])
    (P := fun i ρ S => ∃ a1 a2 a3 a4 a5 a6, ρ = [.val (.fz (ns.map D.int)), a1, a2, a3, a4, a5, a6, .none, .none, .none] ∧ (a1 = .own (.lst odds) ∧ i = 0 ∨ a1 = .val (.lst odds)))
    ⟨_, _, _, _, _, _, rfl, .inl ⟨rfl, rfl⟩⟩ (by
      rintro i d ρ S hd ⟨a1, a2, a3, a4, a5, a6, rfl, h1⟩
      obtain ⟨rfl, hi⟩ := R_get hd
      obtain ⟨b3, b4, b5, b6, S', e⟩ := main_turn ns i (by omega) S a1 (h1.imp (fun h => h.1) id) a2 a3 a4 a5 a6 .none .none .none
      exact ⟨_, S', .nx, e, .inl rfl, _, _, _, _, _, _, rfl, .inr rfl⟩)
  obtain ⟨ρ', S', e, a1, a2, a3, a4, a5, a6, rfl, h1⟩ := lp
  have h1 : a1 = .val (.lst odds) := by
    rcases h1 with ⟨_, h⟩ | h
    · rw [R_len] at h; omega
    · exact h
  subst h1
  refine ⟨S', ?_⟩
  have r1 := ring_turn S' (m := 99) (by omega) (by omega) (.val (.fz (ns.map D.int))) (.val (.lst odds)) a2 a3 a4 a5 a6 .none .none .none
  have r2 := ring_turn S' (m := 100) (by omega) (by omega) (.val (.fz (ns.map D.int))) (.val (.lst odds)) a2 a3 a4 a5 a6 (.val (.int 99)) .none .none
  have lr : MP.forM (.v 7) (evC (callF Pg 40) Pg.sub b_law_2) [.int 99, .int 100] [.val (.fz (ns.map D.int)), .val (.lst odds), a2, a3, a4, a5, a6, .none, .none, .none] S' = .ok .nx [.val (.fz (ns.map D.int)), .val (.lst odds), a2, a3, a4, a5, a6, .val (.int 100), .none, .none] S' := by
    rw [forM_cons r1, forM_cons r2]; rfl
  have ls := last_ok S' (.val (.fz (ns.map D.int))) a2 a3 a4 a5 a6 (.val (.int 100)) .none .none
  have fo := first_ok [] (.val (.fz (ns.map D.int))) .none .none .none .none .none .none .none .none .none
  have ce : opCmp .Eq (.lst []) (.lst []) = some true := rfl
  rw [run_ap, show f_law.body = b_law from rfl, b_law_eq]
  generalize ns.map D.int = fs at *
  generalize odds = os at *
  simp [asL_ap, fBinL_ap, fLst_ap, fFl_ap, fl_tup, fl_lst, all_mapT, ln_tup, ln_lst, ln_fz, tu_lst, tu_tup, it_tup, it_lst, it_fz, sq_tup, sq_lst, bindT_v, lockF, lockS, wipeF, run_ap, outO_rt, outO_nx, outO_ite, evC, evE, evB, evEs, evPs, evT, evTs, evI, evF, frame0, asP, asQ, asO, mbind_ap, bindO_ok, bindO_ite, ite_ap, mret_ap, mopt_some, lift0_ap, liftO_ok, take_val, peek_val, peek_own, peek_lck, take_own, mval_int, mval_str, mval_bl, mval_non, mval_tup, mval_lst, mval_fz, mval_dct, mresL_v, mvals, cLt, cLe, cGt, cGe, cEqI, cNeI, cEqB, cIs, cIsNot, tBo, tIn, tNo, tTu, tLi, xT, xL, xF, omap_some, ok0, ok1, ok2, ok3, f_law, fo, em, e, lr, ls, ce]
end K75



namespace K75
open PySem PySem.Spec PyProof.Rows L2 MP
theorem clo_lag_follow : CloD Z f_lag_follow 0 := ⟨nf_lag_follow, by kernel_rfl, NdefX.nscope_by (by kernel_rfl), fun F doc pm ctv us h1 h2 h3 h4 hl => by
  obtain ⟨nm, ql, pr, bd, sc, cl, cc⟩ := F
  dsimp only at h1 h2 h3 h4
  subst h1 h2 h3 h4
  match us, hl with
  | [_, _, _], _ => rfl, rfl, by kernel_rfl, fun p hp => by
  rw [List.isEmpty_iff.mp (show (fdCs (czN f_lag_follow nf_lag_follow.scope Z) f_lag_follow.body nf_lag_follow.body).isEmpty = true by kernel_rfl)] at hp
  cases hp⟩
theorem hclo : ∀ k fn, Pg.clos[k]? = some fn → CloD Z fn k
  | 0, fn, h => by cases h; exact clo_lag_follow
  | k + 1, fn, h => by cases h

abbrev Rr : PySem.W.OpenRow := PySem.W.OpenLaw.row PySem.Challenge.rw_mildwarden_k75_late
abbrev hk : PySem.W.Hook := hookM 4 fa dns (exK nn Z.exs subT tf) tf
def ob (s : PySem.W.SharedT) : AlM := obsM 4 fa dns (exK nn Z.exs subT tf) tf (HandSHeadRun.getT s)
theorem ob_eq (s : PySem.W.SharedT) : ob s = hk.obs s.abs := obsM_eq (HandSHeadRun.getT_eq s)
theorem run (w : World) : HandSHeadRun.RunEq Rr (PySem.W.view Rr.prog [45]) hk ob 4000 lo w := by
  intro os
  kernel_rfl
end K75
open PySem PySem.W PySem.Calls PyProof.Rows
theorem PySem.Challenge.cw_mildwarden_k75_late_holds : PySem.Challenge.rw_mildwarden_k75_late.Holds := by
  w_on; o_law
  refine HandSHeadRun.head_any (r := OpenLaw.row PySem.Challenge.rw_mildwarden_k75_late) (q := view (OpenLaw.row PySem.Challenge.rw_mildwarden_k75_late).prog [45]) (H := K75.hk) (ob := K75.ob) (M := 4000) (loose := K75.lo) (d := HandSHeadRun.topDef (OpenLaw.row PySem.Challenge.rw_mildwarden_k75_late).prog 45) (kwd := []) K75.ob_eq
    (by kernel_rfl) (fun s => by kernel_rfl) K75.run (by kernel_rfl) (by kernel_rfl) (by kernel_rfl) (by rfl) (by first | assumption | decide +kernel) (by decide +kernel) ⟨rfl, rfl, rfl, rfl, rfl, by decide +kernel⟩ ?hw ?hc
  case hw => w_witness2
  case hc =>
    refine MP.walk_G (l := PySem.Challenge.rw_mildwarden_k75_late) (n := 63) (k := 40 + 1) (x := "script") rfl (by decide) (by kernel_rfl) ⟨rfl, by decide, by decide⟩ ?F
    intro w mg fa h Y G hmg0
    obtain ⟨K, KX, c⟩ := Y
    have hmg : mg ("law" : PySem.Str) = some (.ref fa) := by
      have e : (HandSHeadRun.topDef (OpenLaw.row PySem.Challenge.rw_mildwarden_k75_late).prog 45).name = ("law" : PySem.Str) := by kernel_rfl
      rw [← e]
      exact hmg0
    have hnd : (MP.tabsK K K75.tf).Nodup := by
      have ce := c.ex
      unfold MP.exK at ce
      rw [Bool.and_eq_true] at ce
      exact of_decide_eq_true ce.2
    have hd := MP.defs_of KX G c.d hnd K75.ok_all K75.hin K75.ba K75.hglo
    obtain ⟨f, fd, hl, hb⟩ := hd K75.f_law (by first | decide | simp [K75.fns, K75.fns0])
    exact ⟨K, KX, MP.law_at (Pg := K75.Pg) (n := 40) (MP.topI_by KX G c.d c.ex K75.htop) (fun fn hfn => let ⟨f, fd, h, _⟩ := hd fn hfn; ⟨f, fd, h⟩) K75.hclo c.hd c.out c.empty hl hmg rfl (fun s u => hb s [u] rfl) fun ns _ => K75.hrun ns⟩

