import PyProof.Rows.All
import HandS.ForExc
import HandS.Comp
import HandS.IsInst
import KE.SortData
import HandS.TupAny
import HandS.TupMul
import HandS.Deep
import HandS.Strs
import HandS.Dict
import HandS.Style
import HandS.Iter
import HandS.SetFor
import HandS.List
import HandS.SortOrd
import HandS.WordsExc
import HandS.ExcOwn
import PyProof.ExcBaseAll.ValueError
import HandS.Ends
import PyProof.FactsAll.list_3
import KE.KDictDisplayH
import Wide.All
import OpenK.AllK
import Wide.FinOn
import PySem.Challenge.RW_placewords_k05_least_forms
set_option Elab.async false
set_option linter.all false
set_option maxRecDepth 100000
/-! AbT: tables over all laws: attributes of classes, methods (printed by gen.py) -/
namespace Ab
def CF : Nat → List Nat
  | 0 => [0, 1]  -- Alphabet
  | 1 => [1, 2, 3, 4]  -- Automaton
  | 2 => [5, 6, 7]  -- Copies
  | 3 => [13, 14]  -- Grid
  | 4 => [15, 16]  -- Parser
  | 5 => [19, 20, 21]  -- Known
  | 6 => [22]  -- News
  | 7 => [22, 5]  -- Machines
  | 8 => [26, 27, 28, 29, 30, 31]  -- Player
  | 9 => [22, 36, 37, 38, 3]  -- Team
  | 10 => [26, 39]  -- Ledger
  | 11 => [26, 42, 43]  -- History
  | 12 => [47, 48, 49, 50, 51]  -- Seat
  | 13 => [26, 27, 52]  -- Hall
  | 14 => [22, 36, 37, 38, 3]  -- ChoiceTeam
  | 15 => [56, 57, 58]  -- World
  | 16 => [61, 62, 46]  -- Orders
  | 17 => [0, 64]  -- Chart
  | 18 => [65, 63, 66]  -- Matching
  | _ => []
def MTD : Nat → Nat → Option Nat
  | 2, 8 => some 78  -- Copies.can_end
  | 2, 9 => some 79  -- Copies.ends
  | 2, 11 => some 81  -- Copies.is_hopeful
  | 2, 12 => some 82  -- Copies.step
  | 2, 10 => some 80  -- Copies.tidy
  | 4, 17 => some 91  -- Parser.skip
  | 4, 18 => some 92  -- Parser.take
  | 5, 23 => some 97  -- Known.flat
  | 6, 24 => some 106  -- News.compare
  | 6, 68 => some 240  -- News.meet
  | 6, 2 => some 105  -- News.start
  | 7, 25 => some 111  -- Machines.parted
  | 8, 35 => some 120  -- Player.happened
  | 8, 33 => some 118  -- Player.is_done
  | 8, 34 => some 119  -- Player.is_stuck
  | 8, 32 => some 117  -- Player.ready
  | 10, 40 => some 144  -- Ledger.happen
  | 10, 41 => some 145  -- Ledger.known
  | 11, 46 => some 182  -- History.events
  | 11, 40 => some 179  -- History.happen
  | 11, 44 => some 180  -- History.must_undo
  | 11, 45 => some 181  -- History.undo
  | 12, 54 => some 190  -- Seat.event_at
  | 12, 53 => some 189  -- Seat.next_letter
  | 13, 55 => some 194  -- Hall._offers_for
  | 13, 33 => some 193  -- Hall.is_done
  | 13, 48 => some 192  -- Hall.position
  | 13, 49 => some 191  -- Hall.state
  | 15, 60 => some 214  -- World.reached
  | 15, 59 => some 213  -- World.seen
  | 16, 63 => some 219  -- Orders.following
  | 18, 67 => some 247  -- Matching.change
  | 18, 69 => some 248  -- Matching.grow
  | 18, 4 => some 233  -- Matching.rows
  | _, _ => none
def fldIx (c k : Nat) : Option Nat := (CF c).findIdx? (· == k)
end Ab
/-! Ab0: values as trees, with a mark where a list is held by one holder alone; how they lie in the heap. -/
namespace Ab
open PySem L2

inductive D where
  | non | bl (b : Bool) | int (i : Int) | str (s : Str)
  | tup (ds : List D)
  | lst (m : Bool) (ds : List D)
  | ins (m : Bool) (c : Nat) (ds : List D)
  | scr (is : List Int)
  | dic (m : Bool) (t : Nat) (ks ds : List D)
  deriving Inhabited
/-! dicts: the kind t of their keys: 0: ints, else flat tuples of ints -/
def kI : D → Key
  | .int i => .inl i
  | _ => .inl 0
def isI : D → Bool
  | .int _ => true
  | _ => false
def kT : D → List Key
  | .tup ds => ds.map kI
  | _ => []
def kOk (t : Nat) : D → Bool
  | .int _ => t == 0
  | .tup ds => t == 1 && ds.all isI
  | _ => false
def dO (t : Nat) (ks : List D) (vs : List V) : HO := if t = 0 then .dK ((ks.map kI).zip vs) else .dT ((ks.map kT).zip vs)

/-- a class of the text: its address, its attributes' names in the order in which they are stored -/
structure Cl where
  addr : Addr
  fields : List Str
structure Sig where
  K : PySem.W.Frag
  cls : Nat → Option Cl
  exn : Nat → Value

abbrev Fp := Addr → Prop
def Emp : Fp := fun _ => False
def Uni (P Q : Fp) : Fp := fun x => P x ∨ Q x
def Dis (P Q : Fp) : Prop := ∀ x, P x → Q x → False

mutual
def Rep (S : Sig) (F H : Hp) : D → V → Fp → Prop
  | .non, v, P => v = .non ∧ P = Emp
  | .bl b, v, P => v = .bl b ∧ P = Emp
  | .int i, v, P => v = .int i ∧ P = Emp
  | .str s, v, P => v = .str s ∧ P = Emp
  | .tup ds, v, P => P = Emp ∧ ∃ a vs, v = .ref a ∧ F a = some (.tup vs) ∧ Reps S F H ds vs Emp
  | .lst m ds, v, P => ∃ a vs, v = .ref a ∧ (if m = true then (H a = some (.lst vs) ∧ P a ∧ ∃ P', ¬ P' a ∧ P = Uni (fun x => x = a) P' ∧ Reps S F H ds vs P') else (P = Emp ∧ F a = some (.lst vs) ∧ Reps S F H ds vs Emp))
  | .ins m c ds, v, P => ∃ a cl dx vs, v = .ref a ∧ S.cls c = some cl ∧ ds.length ≤ cl.fields.length ∧
      (if m = true then (H a = some (.ins cl.addr dx (cl.fields.zip vs)) ∧ P a ∧ ∃ P', ¬ P' a ∧ P = Uni (fun x => x = a) P' ∧ Reps S F H ds vs P') else (P = Emp ∧ F a = some (.ins cl.addr dx (cl.fields.zip vs)) ∧ Reps S F H ds vs Emp))
  | .dic m t ks ds, v, P => ∃ a vs, v = .ref a ∧ ks.all (kOk t) = true ∧ ks.length = ds.length ∧
      (if m = true then (H a = some (dO t ks vs) ∧ P a ∧ ∃ P', ¬ P' a ∧ P = Uni (fun x => x = a) P' ∧ Reps S F H ds vs P') else (P = Emp ∧ Rd F a (dO t ks vs) ∧ Reps S F H ds vs Emp))
  | .scr is, v, P => P = Emp ∧ ∃ a, v = .ref a ∧ SqL S.K F a (is.map V.int)
def Reps (S : Sig) (F H : Hp) : List D → List V → Fp → Prop
  | [], vs, P => vs = [] ∧ P = Emp
  | d :: ds, vs, P => ∃ v r P1 P2, vs = v :: r ∧ P = Uni P1 P2 ∧ Dis P1 P2 ∧ Rep S F H d v P1 ∧ Reps S F H ds r P2
end
end Ab
namespace Ab
open PySem L2

theorem uni_emp (P : Fp) : Uni P Emp = P := by
  funext x; exact propext ⟨fun h => h.elim id False.elim, .inl⟩
theorem emp_uni (P : Fp) : Uni Emp P = P := by
  funext x; exact propext ⟨fun h => h.elim False.elim id, .inr⟩
theorem uni_comm (P Q : Fp) : Uni P Q = Uni Q P := by
  funext x; exact propext ⟨Or.symm, Or.symm⟩
theorem uni_assoc (P Q R : Fp) : Uni (Uni P Q) R = Uni P (Uni Q R) := by
  funext x; exact propext ⟨fun h => or_assoc.mp h, fun h => or_assoc.mpr h⟩
theorem Dis.symm {P Q : Fp} (h : Dis P Q) : Dis Q P := fun x a b => h x b a
theorem dis_emp {P : Fp} : Dis P Emp := fun _ _ h => h
theorem emp_dis {P : Fp} : Dis Emp P := fun _ h _ => h
theorem Dis.uni_left {P Q R : Fp} (h : Dis (Uni P Q) R) : Dis P R ∧ Dis Q R := ⟨fun x a b => h x (.inl a) b, fun x a b => h x (.inr a) b⟩
theorem Dis.uni {P Q R : Fp} (h1 : Dis P R) (h2 : Dis Q R) : Dis (Uni P Q) R := fun x a b => a.elim (fun z => h1 x z b) fun z => h2 x z b
theorem Dis.uni' {P Q R : Fp} (h1 : Dis R P) (h2 : Dis R Q) : Dis R (Uni P Q) := (h1.symm.uni h2.symm).symm

variable {S : Sig} {F F' H H' : Hp}
theorem Reps.len : ∀ {ds : List D} {vs : List V} {P : Fp}, Reps S F H ds vs P → vs.length = ds.length
  | [], vs, P, h => by simp only [Reps] at h; rw [h.1]; rfl
  | d :: ds, vs, P, h => by
    simp only [Reps] at h
    obtain ⟨v, r, P1, P2, rfl, _, _, _, h⟩ := h
    simp [Reps.len h]

theorem Same.rd {F F' : Hp} (h : Same F F') {a : Addr} {u : HO} (r : Rd F a u) : Rd F' a u := r.elim (fun e => .inl (h _ _ e)) fun ⟨o, e⟩ => .inr ⟨o, h _ _ e⟩
mutual
theorem Rep.keep (hF : Same F F') : ∀ (d : D) {v : V} {P : Fp}, Rep S F H d v P → (∀ x, P x → H' x = H x) → Rep S F' H' d v P
  | .non, v, P, h, k => h
  | .bl b, v, P, h, k => h
  | .int i, v, P, h, k => h
  | .str s, v, P, h, k => h
  | .tup ds, v, P, h, k => by
    simp only [Rep] at h ⊢
    obtain ⟨e, a, vs, ev, ea, h⟩ := h
    exact ⟨e, a, vs, ev, hF _ _ ea, Reps.keep hF ds h fun x hx => hx.elim⟩
  | .lst m ds, v, P, h, k => by
    simp only [Rep] at h ⊢
    obtain ⟨a, vs, ev, h⟩ := h
    refine ⟨a, vs, ev, ?_⟩
    split at h
    · rename_i hm
      obtain ⟨ea, pa, P', np, eP, h⟩ := h
      rw [if_pos hm]
      refine ⟨(k a pa).trans ea, pa, P', np, eP, Reps.keep hF ds h fun x hx => k x ?_⟩
      rw [eP]; exact .inr hx
    · rename_i hm
      rw [if_neg hm]
      exact ⟨h.1, hF _ _ h.2.1, Reps.keep hF ds h.2.2 fun x hx => hx.elim⟩
  | .ins m c ds, v, P, h, k => by
    simp only [Rep] at h ⊢
    obtain ⟨a, cl, dx, vs, ev, hc, hl, h⟩ := h
    refine ⟨a, cl, dx, vs, ev, hc, hl, ?_⟩
    split at h
    · rename_i hm
      obtain ⟨ea, pa, P', np, eP, h⟩ := h
      rw [if_pos hm]
      refine ⟨(k a pa).trans ea, pa, P', np, eP, Reps.keep hF ds h fun x hx => k x ?_⟩
      rw [eP]; exact .inr hx
    · rename_i hm
      rw [if_neg hm]
      exact ⟨h.1, hF _ _ h.2.1, Reps.keep hF ds h.2.2 fun x hx => hx.elim⟩
  | .dic m t ks ds, v, P, h, k => by
    simp only [Rep] at h ⊢
    obtain ⟨a, vs, ev, hk, hl, h⟩ := h
    refine ⟨a, vs, ev, hk, hl, ?_⟩
    split at h
    · rename_i hm
      obtain ⟨ea, pa, P', np, eP, h⟩ := h
      rw [if_pos hm]
      refine ⟨(k a pa).trans ea, pa, P', np, eP, Reps.keep hF ds h fun x hx => k x ?_⟩
      rw [eP]; exact .inr hx
    · rename_i hm
      rw [if_neg hm]
      exact ⟨h.1, Same.rd hF h.2.1, Reps.keep hF ds h.2.2 fun x hx => hx.elim⟩
  | .scr is, v, P, h, k => by
    simp only [Rep] at h ⊢
    obtain ⟨e, a, ev, h⟩ := h
    exact ⟨e, a, ev, hF.seq h⟩
theorem Reps.keep (hF : Same F F') : ∀ (ds : List D) {vs : List V} {P : Fp}, Reps S F H ds vs P → (∀ x, P x → H' x = H x) → Reps S F' H' ds vs P
  | [], vs, P, h, k => h
  | d :: ds, vs, P, h, k => by
    simp only [Reps] at h ⊢
    obtain ⟨v, r, P1, P2, e1, e2, di, h1, h2⟩ := h
    exact ⟨v, r, P1, P2, e1, e2, di, Rep.keep hF d h1 fun x hx => k x (by rw [e2]; exact .inl hx), Reps.keep hF ds h2 fun x hx => k x (by rw [e2]; exact .inr hx)⟩
end
mutual
theorem Rep.held : ∀ (d : D) {v : V} {P : Fp}, Rep S F H d v P → ∀ x, P x → ∃ o, H x = some o
  | .non, v, P, h, x, hx => by simp only [Rep] at h; rw [h.2] at hx; exact hx.elim
  | .bl b, v, P, h, x, hx => by simp only [Rep] at h; rw [h.2] at hx; exact hx.elim
  | .int i, v, P, h, x, hx => by simp only [Rep] at h; rw [h.2] at hx; exact hx.elim
  | .str s, v, P, h, x, hx => by simp only [Rep] at h; rw [h.2] at hx; exact hx.elim
  | .tup ds, v, P, h, x, hx => by simp only [Rep] at h; rw [h.1] at hx; exact hx.elim
  | .lst m ds, v, P, h, x, hx => by
    simp only [Rep] at h
    obtain ⟨a, vs, ev, h⟩ := h
    split at h
    · obtain ⟨ea, pa, P', np, eP, h⟩ := h
      rw [eP] at hx
      rcases hx with hx | hx
      · exact ⟨_, hx ▸ ea⟩
      · exact Reps.held ds h x hx
    · rw [h.1] at hx; exact hx.elim
  | .ins m c ds, v, P, h, x, hx => by
    simp only [Rep] at h
    obtain ⟨a, cl, dx, vs, ev, hc, hl, h⟩ := h
    split at h
    · obtain ⟨ea, pa, P', np, eP, h⟩ := h
      rw [eP] at hx
      rcases hx with hx | hx
      · exact ⟨_, hx ▸ ea⟩
      · exact Reps.held ds h x hx
    · rw [h.1] at hx; exact hx.elim
  | .dic m t ks ds, v, P, h, x, hx => by
    simp only [Rep] at h
    obtain ⟨a, vs, ev, hk, hl, h⟩ := h
    split at h
    · obtain ⟨ea, pa, P', np, eP, h⟩ := h
      rw [eP] at hx
      rcases hx with hx | hx
      · exact ⟨_, hx ▸ ea⟩
      · exact Reps.held ds h x hx
    · rw [h.1] at hx; exact hx.elim
  | .scr is, v, P, h, x, hx => by simp only [Rep] at h; rw [h.1] at hx; exact hx.elim
theorem Reps.held : ∀ (ds : List D) {vs : List V} {P : Fp}, Reps S F H ds vs P → ∀ x, P x → ∃ o, H x = some o
  | [], vs, P, h, x, hx => by simp only [Reps] at h; rw [h.2] at hx; exact hx.elim
  | d :: ds, vs, P, h, x, hx => by
    simp only [Reps] at h
    obtain ⟨v, r, P1, P2, e1, e2, di, h1, h2⟩ := h
    rw [e2] at hx
    exact hx.elim (Rep.held d h1 x) (Reps.held ds h2 x)
end
-- all marks taken away
mutual
def frz : D → D
  | .non => .non
  | .bl b => .bl b
  | .int i => .int i
  | .str s => .str s
  | .tup ds => .tup ds
  | .lst _ ds => .lst false (frzs ds)
  | .ins _ c ds => .ins false c (frzs ds)
  | .scr is => .scr is
  | .dic _ t ks ds => .dic false t ks (frzs ds)
def frzs : List D → List D
  | [] => []
  | d :: ds => frz d :: frzs ds
end
theorem frzs_len : ∀ ds : List D, (frzs ds).length = ds.length
  | [] => rfl
  | d :: ds => by simp [frzs, frzs_len ds]
mutual
theorem Rep.frz (hF : Same F F') : ∀ (d : D) {v : V} {P : Fp}, Rep S F H d v P → (∀ x, P x → F' x = H x) → Rep S F' H' (frz d) v Emp
  | .non, v, P, h, k => by simp only [Rep] at h; simp only [Ab.frz, Rep]; exact ⟨h.1, trivial⟩
  | .bl b, v, P, h, k => by simp only [Rep] at h; simp only [Ab.frz, Rep]; exact ⟨h.1, trivial⟩
  | .int i, v, P, h, k => by simp only [Rep] at h; simp only [Ab.frz, Rep]; exact ⟨h.1, trivial⟩
  | .str s, v, P, h, k => by simp only [Rep] at h; simp only [Ab.frz, Rep]; exact ⟨h.1, trivial⟩
  | .tup ds, v, P, h, k => by
    simp only [Rep] at h; simp only [Ab.frz, Rep]
    obtain ⟨e, a, vs, ev, ea, h⟩ := h
    exact ⟨trivial, a, vs, ev, hF _ _ ea, Reps.keep hF ds h fun x hx => hx.elim⟩
  | .lst m ds, v, P, h, k => by
    simp only [Rep] at h; simp only [Ab.frz, Rep]
    obtain ⟨a, vs, ev, h⟩ := h
    refine ⟨a, vs, ev, ?_⟩
    rw [if_neg (by decide)]
    split at h
    · obtain ⟨ea, pa, P', np, eP, h⟩ := h
      exact ⟨trivial, (k a pa).trans ea, Reps.frz hF ds h fun x hx => k x (by rw [eP]; exact .inr hx)⟩
    · exact ⟨trivial, hF _ _ h.2.1, Reps.frz hF ds h.2.2 fun x hx => hx.elim⟩
  | .ins m c ds, v, P, h, k => by
    simp only [Rep] at h; simp only [Ab.frz, Rep]
    obtain ⟨a, cl, dx, vs, ev, hc, hl, h⟩ := h
    refine ⟨a, cl, dx, vs, ev, hc, by rw [frzs_len]; exact hl, ?_⟩
    rw [if_neg (by decide)]
    split at h
    · obtain ⟨ea, pa, P', np, eP, h⟩ := h
      exact ⟨trivial, (k a pa).trans ea, Reps.frz hF ds h fun x hx => k x (by rw [eP]; exact .inr hx)⟩
    · exact ⟨trivial, hF _ _ h.2.1, Reps.frz hF ds h.2.2 fun x hx => hx.elim⟩
  | .dic m t ks ds, v, P, h, k => by
    simp only [Rep] at h; simp only [Ab.frz, Rep]
    obtain ⟨a, vs, ev, hk, hl, h⟩ := h
    refine ⟨a, vs, ev, hk, by rw [frzs_len]; exact hl, ?_⟩
    rw [if_neg (by decide)]
    split at h
    · obtain ⟨ea, pa, P', np, eP, h⟩ := h
      exact ⟨trivial, .inl ((k a pa).trans ea), Reps.frz hF ds h fun x hx => k x (by rw [eP]; exact .inr hx)⟩
    · exact ⟨trivial, Same.rd hF h.2.1, Reps.frz hF ds h.2.2 fun x hx => hx.elim⟩
  | .scr is, v, P, h, k => by
    simp only [Rep] at h; simp only [Ab.frz, Rep]
    obtain ⟨e, a, ev, h⟩ := h
    exact ⟨trivial, a, ev, hF.seq h⟩
theorem Reps.frz (hF : Same F F') : ∀ (ds : List D) {vs : List V} {P : Fp}, Reps S F H ds vs P → (∀ x, P x → F' x = H x) → Reps S F' H' (frzs ds) vs Emp
  | [], vs, P, h, k => by simp only [Reps] at h; simp only [frzs, Reps]; exact ⟨h.1, trivial⟩
  | d :: ds, vs, P, h, k => by
    simp only [Reps] at h; simp only [frzs, Reps]
    obtain ⟨v, r, P1, P2, e1, e2, di, h1, h2⟩ := h
    exact ⟨v, r, Emp, Emp, e1, (uni_emp _).symm, dis_emp, Rep.frz hF d h1 fun x hx => k x (by rw [e2]; exact .inl hx), Reps.frz hF ds h2 fun x hx => k x (by rw [e2]; exact .inr hx)⟩
end
-- nothing is held by this value alone
mutual
def still : D → Bool
  | .lst m ds => !m && stills ds
  | .ins m _ ds => !m && stills ds
  | .dic m _ _ ds => !m && stills ds
  | _ => true
def stills : List D → Bool
  | [] => true
  | d :: ds => still d && stills ds
end
mutual
theorem Rep.still : ∀ (d : D) {v : V} {P : Fp}, Rep S F H d v P → still d = true → P = Emp
  | .non, v, P, h, k => by simp only [Rep] at h; exact h.2
  | .bl b, v, P, h, k => by simp only [Rep] at h; exact h.2
  | .int i, v, P, h, k => by simp only [Rep] at h; exact h.2
  | .str s, v, P, h, k => by simp only [Rep] at h; exact h.2
  | .tup ds, v, P, h, k => by simp only [Rep] at h; exact h.1
  | .lst m ds, v, P, h, k => by
    simp only [Ab.still, Bool.and_eq_true, Bool.not_eq_true'] at k
    simp only [Rep, k.1] at h
    obtain ⟨a, vs, ev, h⟩ := h
    rw [if_neg (by decide)] at h
    exact h.1
  | .ins m c ds, v, P, h, k => by
    simp only [Ab.still, Bool.and_eq_true, Bool.not_eq_true'] at k
    simp only [Rep, k.1] at h
    obtain ⟨a, cl, dx, vs, ev, _, _, h⟩ := h
    rw [if_neg (by decide)] at h
    exact h.1
  | .dic m t ks ds, v, P, h, k => by
    simp only [Ab.still, Bool.and_eq_true, Bool.not_eq_true'] at k
    simp only [Rep, k.1] at h
    obtain ⟨a, vs, ev, _, _, h⟩ := h
    rw [if_neg (by decide)] at h
    exact h.1
  | .scr is, v, P, h, k => by simp only [Rep] at h; exact h.1
end
mutual
theorem frz_still : ∀ d : D, still d = true → frz d = d
  | .non, _ => rfl
  | .bl b, _ => rfl
  | .int i, _ => rfl
  | .str s, _ => rfl
  | .tup ds, _ => rfl
  | .lst m ds, k => by
    simp only [still, Bool.and_eq_true, Bool.not_eq_true'] at k
    simp only [frz, k.1, frzs_stills ds k.2]
  | .ins m c ds, k => by
    simp only [still, Bool.and_eq_true, Bool.not_eq_true'] at k
    simp only [frz, k.1, frzs_stills ds k.2]
  | .dic m t ks ds, k => by
    simp only [still, Bool.and_eq_true, Bool.not_eq_true'] at k
    simp only [frz, k.1, frzs_stills ds k.2]
  | .scr is, _ => rfl
theorem frzs_stills : ∀ ds : List D, stills ds = true → frzs ds = ds
  | [], _ => rfl
  | d :: ds, k => by
    simp only [stills, Bool.and_eq_true] at k
    simp only [frzs, frz_still d k.1, frzs_stills ds k.2]
end
mutual
theorem still_frz : ∀ d : D, still (frz d) = true
  | .non => rfl
  | .bl b => rfl
  | .int i => rfl
  | .str s => rfl
  | .tup ds => rfl
  | .lst m ds => by simp [frz, still, stills_frzs ds]
  | .ins m c ds => by simp [frz, still, stills_frzs ds]
  | .dic m t ks ds => by simp [frz, still, stills_frzs ds]
  | .scr is => rfl
theorem stills_frzs : ∀ ds : List D, stills (frzs ds) = true
  | [] => rfl
  | d :: ds => by simp [frzs, stills, still_frz d, stills_frzs ds]
end
end Ab
namespace Ab
open PySem L2

abbrev SA := List (Option D)
inductive Er (α : Type) where
  | ok (x : α) (s : SA) | rz (c : Nat) (s : SA) | bad
  deriving Inhabited

def RepS (S : Sig) (F H : Hp) : SA → St → Fp → Prop
  | [], σ, P => σ = [] ∧ P = Emp
  | none :: r, σ, P => ∃ o σ', σ = o :: σ' ∧ RepS S F H r σ' P
  | some d :: r, σ, P => ∃ v σ' P1 P2, σ = some v :: σ' ∧ P = Uni P1 P2 ∧ Dis P1 P2 ∧ Rep S F H d v P1 ∧ RepS S F H r σ' P2

structure SR (S : Sig) (F H : Hp) (a : SA) (σ : St) (P : Fp) : Prop where
  rep : RepS S F H a σ P
  fr : ∀ x, P x → F x = none
  sub : Same F H

/-- what may have become of the heap -/
structure Ext (F F' H H' : Hp) (P P' : Fp) : Prop where
  same : Same F F'
  kept : ∀ x o, H x = some o → ¬ P x → H' x = some o
  own : ∀ x, P' x → P x ∨ H x = none
  frz : ∀ x o, F' x = some o → (∃ o, F x = some o) ∨ P x ∨ H x = none
theorem Ext.refl {F H : Hp} {P : Fp} : Ext F F H H P P := ⟨fun _ _ h => h, fun _ _ h _ => h, fun _ h => .inl h, fun _ o h => .inl ⟨o, h⟩⟩
theorem Ext.trans {F F1 F2 H H1 H2 : Hp} {P P1 P2 : Fp} (a : Ext F F1 H H1 P P1) (b : Ext F1 F2 H1 H2 P1 P2) : Ext F F2 H H2 P P2 := by
  have g : ∀ x, P1 x ∨ H1 x = none → P x ∨ H x = none := fun x h => by
    rcases h with h | h
    · exact a.own x h
    · cases q : H x with
      | none => exact .inr rfl
      | some o =>
        by_cases hp : P x
        · exact .inl hp
        · rw [a.kept x o q hp] at h; cases h
  refine ⟨a.same.trans b.same, fun x o h hp => ?_, fun x h => g x (b.own x h), fun x o h => ?_⟩
  · refine b.kept x o (a.kept x o h hp) fun h1 => ?_
    rcases a.own x h1 with z | z
    · exact hp z
    · rw [z] at h; cases h
  · rcases b.frz x o h with z | z
    · obtain ⟨o', z⟩ := z
      exact a.frz x o' z
    · exact .inr (g x z)
theorem Ext.less {F F' H H' : Hp} {P P1 P2 : Fp} (a : Ext F F' H H' P P1) (h : ∀ x, P2 x → P1 x) : Ext F F' H H' P P2 := ⟨a.same, a.kept, fun x q => a.own x (h x q), a.frz⟩
/-- more is set aside at the start -/
theorem Ext.frame {F F' H H' : Hp} {P P1 R : Fp} (a : Ext F F' H H' P P1) : Ext F F' H H' (Uni P R) (Uni P1 R) :=
  ⟨a.same, fun x o h n => a.kept x o h fun z => n (.inl z), fun x h => h.elim (fun z => (a.own x z).elim (fun y => .inl (.inl y)) .inr) fun z => .inl (.inr z), fun x o h => (a.frz x o h).elim .inl fun z => .inr (z.elim (fun y => .inl (.inl y)) .inr)⟩
/-- what is set aside stays -/
theorem Ext.aside {S : Sig} {F F' H H' : Hp} {P P' R : Fp} {d : D} {v : V} (e : Ext F F' H H' P P') (r : Rep S F H d v R) (n : Dis R P) : Rep S F' H' d v R :=
  r.keep e.same d fun x hx => by
    obtain ⟨o, q⟩ := r.held d x hx
    rw [q, e.kept x o q fun z => n x hx z]
theorem Ext.asides {S : Sig} {F F' H H' : Hp} {P P' R : Fp} {ds : List D} {vs : List V} (e : Ext F F' H H' P P') (r : Reps S F H ds vs R) (n : Dis R P) : Reps S F' H' ds vs R :=
  Reps.keep e.same ds r fun x hx => by
    obtain ⟨o, q⟩ := Reps.held ds r x hx
    rw [q, e.kept x o q fun z => n x hx z]
theorem Ext.dis {F F' H H' : Hp} {P P' R : Fp} (e : Ext F F' H H' P P') (n : Dis R P) (r : ∀ x, R x → ∃ o, H x = some o) : Dis R P' := fun x hx hp => by
  rcases e.own x hp with z | z
  · exact n x hx z
  · obtain ⟨o, q⟩ := r x hx
    rw [z] at q; cases q
theorem Ext.unf {F F' H H' : Hp} {P P' R : Fp} (e : Ext F F' H H' P P') (n : Dis R P) (r : ∀ x, R x → ∃ o, H x = some o) (f : ∀ x, R x → F x = none) : ∀ x, R x → F' x = none := fun x hx => by
  cases q : F' x with
  | none => rfl
  | some o =>
    rcases e.frz x o q with ⟨o', z⟩ | z | z
    · rw [f x hx] at z; cases z
    · exact (n x hx z).elim
    · obtain ⟨o', q'⟩ := r x hx
      rw [z] at q'; cases q'

variable {S : Sig} {F F' H H' : Hp}
theorem RepS.len : ∀ {a : SA} {σ : St} {P : Fp}, RepS S F H a σ P → σ.length = a.length
  | [], σ, P, h => by rw [h.1]; rfl
  | none :: r, σ, P, h => by obtain ⟨o, σ', rfl, h⟩ := h; simp [RepS.len h]
  | some d :: r, σ, P, h => by obtain ⟨v, σ', P1, P2, rfl, _, _, _, h⟩ := h; simp [RepS.len h]
theorem RepS.keep (hF : Same F F') : ∀ {a : SA} {σ : St} {P : Fp}, RepS S F H a σ P → (∀ x, P x → H' x = H x) → RepS S F' H' a σ P
  | [], σ, P, h, k => h
  | none :: r, σ, P, h, k => by obtain ⟨o, σ', e, h⟩ := h; exact ⟨o, σ', e, RepS.keep hF h k⟩
  | some d :: r, σ, P, h, k => by
    obtain ⟨v, σ', P1, P2, e, e2, di, h1, h⟩ := h
    exact ⟨v, σ', P1, P2, e, e2, di, h1.keep hF d fun x hx => k x (by rw [e2]; exact .inl hx), RepS.keep hF h fun x hx => k x (by rw [e2]; exact .inr hx)⟩
theorem RepS.held : ∀ {a : SA} {σ : St} {P : Fp}, RepS S F H a σ P → ∀ x, P x → ∃ o, H x = some o
  | [], σ, P, h, x, hx => by rw [h.2] at hx; exact hx.elim
  | none :: r, σ, P, h, x, hx => by obtain ⟨o, σ', e, h⟩ := h; exact RepS.held h x hx
  | some d :: r, σ, P, h, x, hx => by
    obtain ⟨v, σ', P1, P2, e, e2, di, h1, h⟩ := h
    rw [e2] at hx
    exact hx.elim (h1.held d x) (RepS.held h x)
/-- a slot in the focus: what it holds, what the others hold, and how it may be put back -/
theorem RepS.focus : ∀ {a : SA} {σ : St} {P : Fp} {i : Nat} {d : D}, RepS S F H a σ P → a[i]? = some (some d) →
    ∃ v P1 P2, σ[i]? = some (some v) ∧ P = Uni P1 P2 ∧ Dis P1 P2 ∧ Rep S F H d v P1 ∧
      (RepS S F H (a.set i none) σ P2) ∧ ∀ (F' H' : Hp) (P2' : Fp), RepS S F' H' (a.set i none) σ P2' → ∀ d' P1', Rep S F' H' d' v P1' → Dis P1' P2' → RepS S F' H' (a.set i (some d')) σ (Uni P1' P2')
  | [], σ, P, i, d, h, e => by simp at e
  | none :: r, σ, P, 0, d, h, e => by simp at e
  | some d0 :: r, σ, P, 0, d, h, e => by
    simp at e; subst e
    obtain ⟨v, σ', P1, P2, rfl, e2, di, h1, h⟩ := h
    refine ⟨v, P1, P2, rfl, e2, di, h1, ⟨_, _, rfl, h⟩, fun F' H' P2' q d' P1' r' n => ?_⟩
    obtain ⟨o, σ2, e3, q⟩ := q
    cases e3
    exact ⟨v, σ', P1', P2', rfl, rfl, n, r', q⟩
  | none :: r, σ, P, i + 1, d, h, e => by
    obtain ⟨o, σ', rfl, h⟩ := h
    obtain ⟨v, P1, P2, e1, e2, di, h1, h2, h3⟩ := RepS.focus (i := i) (d := d) h (by simpa using e)
    refine ⟨v, P1, P2, by simpa using e1, e2, di, h1, ⟨o, σ', rfl, h2⟩, fun F' H' P2' q d' P1' r' n => ?_⟩
    obtain ⟨o', σ2, e3, q⟩ := q
    cases e3
    exact ⟨_, _, rfl, h3 F' H' P2' q d' P1' r' n⟩
  | some d0 :: r, σ, P, i + 1, d, h, e => by
    obtain ⟨v0, σ', P0, PR, rfl, e0, d0i, h0, h⟩ := h
    obtain ⟨v, P1, P2, e1, e2, di, h1, h2, h3⟩ := RepS.focus (i := i) (d := d) h (by simpa using e)
    have dR : Dis P0 P1 ∧ Dis P0 P2 := by
      rw [e2] at d0i
      exact ⟨fun x a b => d0i x a (.inl b), fun x a b => d0i x a (.inr b)⟩
    refine ⟨v, P1, Uni P0 P2, by simpa using e1, ?_, dR.1.symm.uni' di, h1, ⟨v0, σ', P0, P2, rfl, rfl, dR.2, h0, h2⟩, fun F' H' P2' q d' P1' r' n => ?_⟩
    · rw [e0, e2, ← uni_assoc, ← uni_assoc, uni_comm P0 P1]
    · obtain ⟨v1, σ2, Q0, QR, e3, e4, n4, q0, q⟩ := q
      cases e3
      rw [e4] at n
      refine ⟨v0, σ', Q0, Uni P1' QR, rfl, ?_, ?_, q0, h3 F' H' QR q d' P1' r' fun x a b => n x a (.inr b)⟩
      · rw [e4, ← uni_assoc, ← uni_assoc, uni_comm P1' Q0]
      · exact Dis.uni' (fun x a b => n x b (.inl a)) n4
/-- a slot's value forgotten -/
theorem RepS.drop {a : SA} {σ : St} {P : Fp} (h : RepS S F H a σ P) (i : Nat) : ∃ P2, RepS S F H (a.set i none) σ P2 ∧ ∀ x, P2 x → P x := by
  induction a generalizing σ P i with
  | nil => exact ⟨P, by simpa using h, fun _ z => z⟩
  | cons o r ih =>
    cases i with
    | zero =>
      cases o with
      | none => exact ⟨P, by simpa using h, fun _ z => z⟩
      | some d =>
        obtain ⟨v, σ', P1, P2, rfl, e2, di, h1, h⟩ := h
        exact ⟨P2, ⟨_, _, rfl, h⟩, fun x z => by rw [e2]; exact .inr z⟩
    | succ i =>
      cases o with
      | none =>
        obtain ⟨o, σ', rfl, h⟩ := h
        obtain ⟨P2, h2, k⟩ := ih h i
        exact ⟨P2, ⟨_, _, rfl, h2⟩, k⟩
      | some d =>
        obtain ⟨v, σ', P1, P2, rfl, e2, di, h1, h⟩ := h
        obtain ⟨P3, h3, k⟩ := ih h i
        exact ⟨Uni P1 P3, ⟨v, σ', P1, P3, rfl, rfl, fun x a b => di x a (k x b), h1, h3⟩, fun x z => by rw [e2]; exact z.elim .inl fun z => .inr (k x z)⟩
/-- a new value in a slot that holds nothing told -/
theorem RepS.put : ∀ {a : SA} {σ : St} {P : Fp} {i : Nat} {d : D} {v : V} {Pd : Fp}, RepS S F H a σ P → i < a.length → a[i]? = some none → Rep S F H d v Pd → Dis Pd P → RepS S F H (a.set i (some d)) (σ.set i (some v)) (Uni Pd P)
  | [], σ, P, i, d, v, Pd, h, hi, e, r, n => by simp at hi
  | o :: a, σ, P, 0, d, v, Pd, h, hi, e, r, n => by
    simp at e; subst e
    obtain ⟨o, σ', rfl, h⟩ := h
    exact ⟨v, σ', Pd, P, rfl, rfl, n, r, h⟩
  | none :: a, σ, P, i + 1, d, v, Pd, h, hi, e, r, n => by
    obtain ⟨o, σ', rfl, h⟩ := h
    exact ⟨o, _, rfl, RepS.put (i := i) h (by simpa using hi) (by simpa using e) r n⟩
  | some d0 :: a, σ, P, i + 1, d, v, Pd, h, hi, e, r, n => by
    obtain ⟨v0, σ', P1, P2, rfl, e2, di, h1, h⟩ := h
    rw [e2] at n
    refine ⟨v0, _, P1, Uni Pd P2, rfl, ?_, ?_, h1, RepS.put (i := i) h (by simpa using hi) (by simpa using e) r fun x a b => n x a (.inr b)⟩
    · rw [e2, ← uni_assoc, ← uni_assoc, uni_comm Pd P1]
    · exact Dis.uni' (fun x a b => n x b (.inl a)) di
/-- concrete slots changed where nothing is told -/
theorem RepS.other : ∀ {a : SA} {σ : St} {P : Fp} {i : Nat} {o : Option V}, RepS S F H a σ P → (∀ d, a[i]? ≠ some (some d)) → RepS S F H a (σ.set i o) P
  | [], σ, P, i, o, h, e => by
    obtain ⟨rfl, h⟩ := h
    exact ⟨by simp, h⟩
  | none :: a, σ, P, 0, o, h, e => by
    obtain ⟨o', σ', rfl, h⟩ := h
    exact ⟨_, _, rfl, h⟩
  | some d0 :: a, σ, P, 0, o, h, e => (e d0 rfl).elim
  | none :: a, σ, P, i + 1, o, h, e => by
    obtain ⟨o', σ', rfl, h⟩ := h
    exact ⟨_, _, rfl, RepS.other h fun d z => e d (by simpa using z)⟩
  | some d0 :: a, σ, P, i + 1, o, h, e => by
    obtain ⟨v0, σ', P1, P2, rfl, e2, di, h1, h⟩ := h
    exact ⟨v0, _, P1, P2, rfl, e2, di, h1, RepS.other h fun d z => e d (by simpa using z)⟩
end Ab
namespace Ab
open PySem L2

inductive Op2 where | add | sub | mul | fdiv | mod | pow | shl | shr | band | bor
  deriving DecidableEq
inductive Cmp where | eq | ne | lt | le | gt | ge | inn | nin
  deriving DecidableEq
inductive Un where | neg | inv
  deriving DecidableEq
inductive Bi1 where | len | list | tuple | sorted | int | sum | max | min | abs | sset | lset
  deriving DecidableEq
inductive Bi2 where | max | min | cnt | idx
  deriving DecidableEq
inductive Ty where | int | bool | list | tuple | str
  deriving DecidableEq
mutual
inductive ME where
  | slot (i : Nat)
  | non | bl (b : Bool) | int (i : Int) | str (s : Str)
  | glob (x : Str) (i : Int)
  | bin (o : Op2) (a b : ME)
  | un (o : Un) (a : ME)
  | nt (a : ME)
  | cmp (c : Cmp) (a b : ME)
  | chain (c e : Cmp) (a b d : ME)
  | isn (n : Bool) (a : ME)
  | and2 (a b : ME) | or2 (a b : ME)
  | ifx (t : MT) (a b : ME)
  | tup (es : MEs) | lst (es : MEs)
  | sub (a i : ME)
  | slc (a : ME) (lo hi : MO)
  | rev (a : ME)
  | fld (a : ME) (k : Nat)
  | bi1 (f : Bi1) (a : ME)
  | bi2 (f : Bi2) (a b : ME)
  | isi (a : ME) (t : Ty)
  | pop (i : Nat) | popAt (i : Nat) (e : ME)
  | call (f : Nat) (as : MAs)
  | meth (m : Nat) (o : MA) (as : MAs)
  | make (c f : Nat) (as : MAs)
  | comp (own : Nat) (elt : ME) (it : MI) (t : MTo)
  | dnew (t : Nat) | dlit (t : Nat) (k a : ME) | dget (a k : ME) | dgetD (a k x : ME)
  | isb (b : Bool) (a : ME)
inductive MO where | none | some (e : ME)
inductive MEs where | nil | cons (e : ME) (es : MEs)
inductive MA where | rd (e : ME) | bor (i : Nat) | mv (i : Nat)
inductive MAs where | nil | cons (a : MA) (as : MAs)
inductive MI where | of (e : ME) | r1 (a : ME) | r2 (a b : ME) | r3 (a b c : ME)
inductive MT where
  | val (e : ME) | tru (e : ME) | cmp (c : Cmp) (a b : ME) | chain (c e : Cmp) (a b d : ME) | isn (n : Bool) (a : ME)
  | and (a b : MT) | or (a b : MT) | not (a : MT)
inductive MTo where | none | some (t : MT)
end
/-! targets -/
inductive MG where
  | name (i : Nat) | pair (i j : Nat) | trip (i j k : Nat) | quad (i j k l : Nat)
mutual
inductive MS where
  | asg (i : Nat) (e : ME)
  | asgT (g : MG) (e : ME)
  | asg2 (i j : Nat) (a b : ME)
  | setI (p i e : ME)
  | swap (p : Nat) (i j a b : ME)
  | setF (o : Nat) (k : Nat) (e : ME)
  | aug (i : Nat) (o : Op2) (e : ME)
  | augI (p i : ME) (o : Op2) (e : ME)
  | augF (o : Nat) (k : Nat) (op : Op2) (e : ME)
  | append (p e : ME) | extend (p e : ME) | reverse (p : ME)
  | expr (e : ME)
  | ite (t : MT) (a b : MSs)
  | forr (g : MG) (it : MI) (b : MSs)
  | whil (t : MT) (b : MSs)
  | brk | cont | pass
  | ret (e : ME) | retN
  | raise (c : Nat)
  | dset (i : Nat) (k e : ME)
  | tryRet (a : ME) (c : Nat) (h : MSs)
inductive MSs where | nil | cons (s : MS) (ss : MSs)
end

/-! ### values -/
def line (n : Nat) : Bool := decide (n < sizeLine)
def allS (ds : List D) : Bool := stills ds
-- no list, no instance that others may hold too
mutual
def noL : D → Bool
  | .tup ds => noLs ds
  | .lst m ds => m && noLs ds
  | .ins m _ ds => m && noLs ds
  | .scr _ => false
  | .dic m _ _ ds => m && noLs ds
  | _ => true
def noLs : List D → Bool
  | [] => true
  | d :: ds => noL d && noLs ds
end
mutual
def toPD : D → PyData
  | .non => .none
  | .bl b => .bool b
  | .int i => .int i
  | .str x => .str x
  | .tup ds => .tuple (toPDs ds)
  | .lst _ ds => .list (toPDs ds)
  | .ins _ _ _ => .none
  | .scr _ => .none
  | .dic _ _ _ _ => .none
def toPDs : List D → List PyData
  | [] => []
  | d :: ds => toPD d :: toPDs ds
end
def eqD (a b : D) : Bool := PyData.eqv (toPD a) (toPD b)
-- data that == is told of
mutual
def plain0 : D → Bool
  | .tup ds => plains0 ds
  | .lst _ ds => plains0 ds
  | .ins _ _ _ => false
  | .scr _ => false
  | .dic _ _ _ _ => false
  | .str x => PyData.strOk x
  | _ => true
def plains0 : List D → Bool
  | [] => true
  | d :: ds => plain0 d && plains0 ds
end
def plain (d : D) : Bool := plain0 d && decide ((toPD d).depth ≤ 60)
def plains (ds : List D) : Bool := plains0 ds && decide (PyData.depthAll (toPDs ds) ≤ 60)
def intsOf : List D → Option (List Int)
  | [] => some []
  | .int i :: ds => (intsOf ds).map (i :: ·)
  | _ => none
def getIx (d : D) (k : Int) : Option D := match d with
  | .lst _ ds => atI ds k
  | .tup ds => atI ds k
  | .scr is => (atI is k).map D.int
  | .str z => if z.length ≤ sizeLine then (atI z.cps.toList k).map fun c => .str ⟨#[c]⟩ else none
  | _ => none
def getFd (d : D) (k : Nat) : Option D := match d with
  | .ins _ c ds => (fldIx c k).bind fun j => ds[j]?
  | _ => none
def methOf : D → Option Nat
  | .ins _ c _ => some c
  | _ => none
def sIx (n d : Nat) : Option Int → Nat := HT.sIx n d
def cut (ds : List D) (lo hi : Option Int) : List D := (ds.drop (sIx ds.length 0 lo)).take (sIx ds.length ds.length hi - sIx ds.length 0 lo)
def cutD (d : D) (lo hi : Option Int) : Option D := match d with
  | .lst _ ds => if stills ds then some (.lst true (cut ds lo hi)) else none
  | .tup ds => some (.tup (cut ds lo hi))
  | _ => none
def small64i (i : Int) : Bool := Nat.ble i.natAbs 18446744073709551615
theorem small64i_iff {i : Int} : small64i i = true ↔ -(2 ^ 64) < i ∧ i < 2 ^ 64 := by
  simp only [small64i, Nat.ble_eq]; omega
def bin (o : Op2) (a b : D) : Option D := match o, a, b with
  | .add, .int i, .int j => some (.int (i + j))
  | .add, .str x, .str y => if x.length + y.length ≤ sizeLine then some (.str (x ++ y)) else none
  | .add, .tup xs, .tup ys => if xs.length + ys.length ≤ sizeLine then some (.tup (xs ++ ys)) else none
  | .add, .lst _ xs, .lst _ ys => if stills xs && stills ys && decide (xs.length + ys.length ≤ sizeLine) then some (.lst true (xs ++ ys)) else none
  | .sub, .int i, .int j => some (.int (i - j))
  | .mul, .int i, .int j => if small64i i || small64i j then some (.int (i * j)) else none
  | .mul, .lst _ xs, .int k => if stills xs && decide (-(2 ^ 63) ≤ k ∧ k < 2 ^ 63 ∧ xs.length * k.toNat ≤ sizeLine) then some (.lst true (List.replicate k.toNat xs).flatten) else none
  | .mul, .tup xs, .int k => if decide (-1000 ≤ k ∧ k ≤ 1000 ∧ xs.length ≤ 1000) then some (.tup (List.replicate k.toNat xs).flatten) else none
  | .fdiv, .int i, .int j => if decide (0 < j ∧ j < 1073741824) then some (.int (i / j)) else none
  | .mod, .int i, .int j => if decide (0 < j) then some (.int (i % j)) else none
  | .pow, .int i, .int j => if decide (0 ≤ j ∧ j ≤ 1000000 ∧ i.natAbs < 2 ^ 64) then some (.int (i ^ j.toNat)) else none
  | .shl, .int i, .int j => if decide (0 ≤ j ∧ j ≤ 1000000 ∧ i.natAbs < 2 ^ 64) then some (.int (i * 2 ^ j.toNat)) else none
  | .shr, .int i, .int j => if decide (0 ≤ j) then some (.int (i / 2 ^ j.toNat)) else none
  | .band, .int i, .int j => some (.int (Builtin.bitAnd i j))
  | .bor, .int i, .int j => some (.int (Builtin.bitOr i j))
  | _, _, _ => none
def itemsOf : D → Option (List D)
  | .lst _ ds => some ds
  | .tup ds => some ds
  | _ => none
def truD : D → Option Bool
  | .int i => some (i != 0)
  | .lst _ ds => some (!ds.isEmpty)
  | .tup ds => some (!ds.isEmpty)
  | .bl b => some b
  | .non => some false
  | _ => none
def isNon : D → Bool
  | .non => true
  | _ => false
def isn (n : Bool) (d : D) : Bool := if n then !isNon d else isNon d
def memD (x : D) (ys : List D) : Bool := ys.any fun y => eqD y x
/-- the value at a key -/
def dval : List D → List D → D → Option D
  | k :: ks, d :: ds, x => if eqD k x then some d else dval ks ds x
  | _, _, _ => none
def dupd : List D → List D → D → D → List D
  | k :: ks, e :: ds, x, d => (if eqD k x then d else e) :: dupd ks ds x d
  | _, _, _, _ => []
def dput (t : Nat) (ks ds : List D) (x d : D) : D := if memD x ks then .dic true t ks (dupd ks ds x d) else .dic true t (ks ++ [x]) (ds ++ [d])
def getK (d k : D) : Option D := match d with
  | .dic _ t ks ds => if kOk t k then dval ks ds k else none
  | _ => none
def getKD (d k x : D) : Option D := match d with
  | .dic _ t ks ds => if kOk t k then some ((dval ks ds k).getD x) else none
  | _ => none
def isDic : D → Bool
  | .dic _ _ _ _ => true
  | _ => false
def isB (b : Bool) : D → Option D
  | .bl c => some (.bl (decide (c = b)))
  | _ => none
def cmp (c : Cmp) (a b : D) : Option Bool := match c with
  | .eq => if plain a && plain b then some (eqD a b) else none
  | .ne => if plain a && plain b then some (!eqD a b) else none
  | .lt => (match a, b with
    | .int i, .int j => some (decide (i < j))
    | .tup xs, .tup ys => (intsOf xs).bind fun is => (intsOf ys).map fun js => HT.lexLt is js
    | _, _ => none)
  | .le => (match a, b with | .int i, .int j => some (decide (i ≤ j)) | _, _ => none)
  | .gt => (match a, b with | .int i, .int j => some (decide (j < i)) | _, _ => none)
  | .ge => (match a, b with | .int i, .int j => some (decide (j ≤ i)) | _, _ => none)
  | .inn => (match b with
    | .dic _ t ks _ => if kOk t a then some (memD a ks) else none
    | b => (itemsOf b).bind fun ds => if plain a && plains ds then some (memD a ds) else none)
  | .nin => (match b with
    | .dic _ t ks _ => if kOk t a then some (!memD a ks) else none
    | b => (itemsOf b).bind fun ds => if plain a && plains ds then some (!memD a ds) else none)
def un (o : Un) (a : D) : Option D := match o, a with
  | .neg, .int i => some (.int (-i))
  | .inv, .int i => some (.int (Builtin.bitNot i))
  | _, _ => none
def maxI : List Int → Option Int
  | [] => none
  | x :: xs => some (xs.foldl (fun m y => if m < y then y else m) x)
def minI : List Int → Option Int
  | [] => none
  | x :: xs => some (xs.foldl (fun m y => if y < m then y else m) x)
def leD (a b : D) : Bool := !PySem.W.dataLt (toPD b) (toPD a)
def sortD (ds : List D) : List D := ds.mergeSort leD
def someTup : D → Bool
  | .tup (_ :: _) => true
  | _ => false
def noTup : D → Bool
  | .tup _ => false
  | .non => false
  | _ => true
def sortable (ds : List D) : Bool := plains ds && (ds.all fun x => ds.all fun y => PySem.W.alike (toPD x) (toPD y)) && (ds.all someTup || ds.all noTup) && decide (ds.length ≤ sizeLine)
/-- the members of a list of ints, ascending -/
def insU (x : Int) : List Int → List Int
  | [] => [x]
  | y :: ys => if x < y then x :: y :: ys else if x = y then y :: ys else y :: insU x ys
def sset : List Int → List Int
  | [] => []
  | x :: xs => insU x (sset xs)
def bi1 (f : Bi1) (a : D) : Option D := match f with
  | .len => (match a with | .lst _ ds => some (.int ds.length) | .tup ds => some (.int ds.length) | .scr is => some (.int is.length) | .str z => if z.length ≤ sizeLine then some (.int z.length) else none | _ => none)
  | .list => (match a with | .scr is => some (.lst true (is.map .int)) | _ => (itemsOf a).bind fun ds => if stills ds then some (.lst true ds) else none)
  | .tuple => (itemsOf a).bind fun ds => if stills ds then some (.tup ds) else none
  | .sorted => (match a with | .lst _ ds => if stills ds && (sortable ds || decide (ds.length ≤ 1)) then some (.lst true (sortD ds)) else none | _ => none)
  | .int => (match a with | .int i => some (.int i) | .bl b => some (.int (if b then 1 else 0)) | _ => none)
  | .sum => (match a with | .lst _ ds => (intsOf ds).map fun is => .int is.sum | _ => none)
  | .max => (match a with | .lst _ ds => (intsOf ds).bind fun is => (maxI is).map D.int | _ => none)
  | .min => (match a with | .lst _ ds => (intsOf ds).bind fun is => (minI is).map D.int | _ => none)
  | .abs => (match a with | .int i => some (.int (if i < 0 then -i else i)) | _ => none)
  | .sset => (itemsOf a).bind fun ds => (intsOf ds).bind fun is => if is.length < 64 then some (.lst true ((sset is).map .int)) else none
  | .lset => (itemsOf a).bind fun ds => (intsOf ds).bind fun is => if is.length < 64 then some (.int (sset is).length) else none
def bi2 (f : Bi2) (a b : D) : Option D := match f with
  | .max => (match a, b with | .int i, .int j => some (.int (if j > i then j else i)) | _, _ => none)
  | .min => (match a, b with | .int i, .int j => some (.int (if j < i then j else i)) | _, _ => none)
  | .cnt => (itemsOf a).bind fun ds => if plain b && plains ds then some (.int (ds.filter fun y => eqD y b).length) else none
  | .idx => (match a with | .lst _ ds => if plain b && plain (.lst false ds) then (ds.findIdx? fun y => eqD y b).map fun n => .int n else none | _ => none)
/-- a method's receiver must be a list -/
def rcv (f : Bi2) (d : D) : Bool := match f, d with
  | .cnt, .lst _ _ => true
  | .idx, .lst _ _ => true
  | .cnt, _ => false
  | .idx, _ => false
  | _, _ => true
def isTy (t : Ty) : D → Option Bool
  | .int _ => some (t = .int)
  | .bl _ => some (t = .int || t = .bool)
  | .lst _ _ => some (t = .list)
  | .tup _ => some (t = .tuple)
  | .str _ => some (t = .str)
  | .non => some false
  | _ => none

/-! ### what a call gives back: its value, the arguments that it may change -/
inductive Res where
  | ok (d : D) (ms : List D) | rz (c : Nat) (ms : List D) | bad
  deriving Inhabited
abbrev Callee := List D → Res
abbrev Env0A := Nat → Option Callee

mutual
def pureE : ME → Bool
  | .bin _ a b => pureE a && pureE b
  | .un _ a => pureE a
  | .nt a => pureE a
  | .cmp _ a b => pureE a && pureE b
  | .chain _ _ a b d => pureE a && pureE b && pureE d
  | .isn _ a => pureE a
  | .and2 a b => pureE a && pureE b
  | .or2 a b => pureE a && pureE b
  | .ifx t a b => pureT t && pureE a && pureE b
  | .tup es => pureEs es
  | .lst es => pureEs es
  | .sub a b => pureE a && pureE b
  | .slc a lo hi => pureE a && pureO lo && pureO hi
  | .rev a => pureE a
  | .fld a _ => pureE a
  | .bi1 _ a => pureE a
  | .bi2 _ a b => pureE a && pureE b
  | .isi a _ => pureE a
  | .pop _ => false
  | .popAt _ _ => false
  | .call _ as => pureAs as
  | .meth _ o as => pureA o && pureAs as
  | .make _ _ as => pureAs as
  | .comp _ e it t => pureE e && pureI it && pureTo t
  | .dlit _ a b => pureE a && pureE b
  | .dget a b => pureE a && pureE b
  | .dgetD a b c => pureE a && pureE b && pureE c
  | .isb _ a => pureE a
  | _ => true
def pureO : MO → Bool
  | .none => true
  | .some e => pureE e
def pureEs : MEs → Bool
  | .nil => true
  | .cons e es => pureE e && pureEs es
def pureA : MA → Bool
  | .rd e => pureE e
  | .bor _ => true
  | .mv _ => false
def pureAs : MAs → Bool
  | .nil => true
  | .cons a as => pureA a && pureAs as
def pureI : MI → Bool
  | .of e => pureE e
  | .r1 a => pureE a
  | .r2 a b => pureE a && pureE b
  | .r3 a b c => pureE a && pureE b && pureE c
def pureT : MT → Bool
  | .val e => pureE e
  | .tru e => pureE e
  | .cmp _ a b => pureE a && pureE b
  | .chain _ _ a b d => pureE a && pureE b && pureE d
  | .isn _ a => pureE a
  | .and a b => pureT a && pureT b
  | .or a b => pureT a && pureT b
  | .not a => pureT a
def pureTo : MTo → Bool
  | .none => true
  | .some t => pureT t
end
def rootOf : ME → Option Nat
  | .slot i => some i
  | .sub a _ => rootOf a
  | .fld a _ => rootOf a
  | _ => none
def slotOf : ME → Option Nat
  | .slot i => some i
  | _ => none

def Er.bind {α β : Type} (x : Er α) (f : α → SA → Er β) : Er β := match x with
  | .ok a s => f a s
  | .rz c s => .rz c s
  | .bad => .bad
def Er.noRz {α : Type} (x : Er α) : Er α := match x with
  | .rz _ _ => .bad
  | x => x
def Er.of {α : Type} (o : Option α) (s : SA) : Er α := match o with
  | some a => .ok a s
  | none => .bad
def rd (s : SA) (i : Nat) : Option D := (s[i]?).join
/-- a value that others will hold too -/
def own (v : Bool) (r : Option Nat) (d : D) (s : SA) : Er D :=
  if v || still d then .ok d s else match r with
    | some i => (match rd s i with | some d0 => .ok (frz d) (s.set i (some (frz d0))) | none => .bad)
    | none => .bad
/-- the first of two operands, when the second is reckoned -/
def stay (a : ME) (d1 : D) (pureb : Bool) (s2 : SA) : Option D :=
  if pureb || still d1 || (rootOf a).isNone then some d1 else (slotOf a).bind (rd s2)

-- a value that stands in no slot: it may be shared from now on
def tmpz (a : ME) (d : D) : D := if (rootOf a).isNone then frz d else d

inductive AV where | val (d : D) | bor (i : Nat) | mv (i : Nat)
def avD (s : SA) : AV → Option D
  | .val d => some (frz d)
  | .bor i => (rd s i).map frz
  | .mv i => rd s i
def avDs (s : SA) : List AV → Option (List D)
  | [] => some []
  | a :: as => (avD s a).bind fun d => (avDs s as).map (d :: ·)
def mvs : List AV → List Nat
  | [] => []
  | .mv i :: as => i :: mvs as
  | _ :: as => mvs as
def bors : List AV → List Nat
  | [] => []
  | .bor i :: as => i :: bors as
  | _ :: as => bors as
def nodupB : List Nat → Bool
  | [] => true
  | i :: is => !is.contains i && nodupB is
def setMs : List Nat → List D → SA → Option SA
  | [], [], s => some s
  | i :: is, m :: ms, s => setMs is ms (s.set i (some m))
  | _, _, _ => none
/-- each slot is handed on once, where it may be changed -/
def okAV (as : List AV) : Bool := nodupB (mvs as) && (mvs as).all fun i => !(bors as).contains i
/-- what is lent is shared already -/
def lent (as : List AV) (s : SA) : Bool := (bors as).all fun i => match rd s i with | some d => still d | none => false
def called (g : Callee) (as : List AV) (s : SA) : Er D := match avDs s as with
  | none => .bad
  | some ds => if okAV as then match g ds with
    | .ok d ms => if lent as s || (noL d && noLs ms) then (match setMs (mvs as) ms s with | some s' => .ok d s' | none => .bad) else .bad
    | .rz c ms => if lent as s || noLs ms then (match setMs (mvs as) ms s with | some s' => .rz c s' | none => .bad) else .bad
    | .bad => .bad
    else .bad

def made (g : Callee) (c : Nat) (avs : List AV) (s1 : SA) : Er D := match avDs s1 avs with
  | none => .bad
  | some ds => if (mvs avs).isEmpty then match g (.ins true c [] :: ds) with
    | .ok .non [self] => if lent avs s1 || noL self then .ok self s1 else .bad
    | .rz x [self] => if lent avs s1 || noL self then .rz x s1 else .bad
    | _ => .bad
    else .bad
def rangeN (lo : Int) (n : Nat) : List D := (List.range n).map fun (i : Nat) => D.int (lo + (i : Int))
def inR (i : Int) : Bool := Nat.ble i.natAbs 4611686018427387903
theorem inR_iff {i : Int} : inR i = true → -(2 ^ 62) ≤ i ∧ i < 2 ^ 62 := by
  simp only [inR, Nat.ble_eq]; omega
def range3 (lo hi c : Int) : Option (List D) :=
  if c ≠ 0 ∧ c.natAbs < 1073741824 ∧ Builtin.Range.small lo hi c = true ∧ 0 ≤ Builtin.Range.rangeSize lo hi c then
    some ((List.range (Builtin.Range.rangeSize lo hi c).toNat).map fun (i : Nat) => D.int (lo + (i : Int) * c))
  else none

inductive It where | vals (ds : List D) | live (i : Nat)
def compV (W : Nat) (f : SA → Er Bool) (g : SA → Er D) (own i : Nat) : Nat → Nat → SA → Er (List D)
  | 0, _, _ => .bad
  | n + 1, k, s => match rd s i with
    | some (.lst _ ds) => (match ds[k]? with
      | none => .ok [] s
      | some x => if still x && !(own == i) && decide (ds.length ≤ sizeLine) then (f (s.set own (some x))).bind fun c s1 =>
          if c then (g s1).bind fun y s2 => (compV W f g own i n (k + 1) (s2.set own none)).bind fun ys s3 => .ok (y :: ys) s3
          else compV W f g own i n (k + 1) (s1.set own none)
        else .bad)
    | _ => .bad
def compL (f : SA → Er Bool) (g : SA → Er D) (own : Nat) : List D → SA → Er (List D)
  | [], s => .ok [] s
  | x :: xs, s => (f (s.set own (some x))).bind fun c s1 =>
      if c then (g s1).bind fun y s2 => (compL f g own xs (s2.set own none)).bind fun ys s3 => .ok (y :: ys) s3
      else compL f g own xs (s1.set own none)
section
variable (G : Env0A) (W : Nat)
mutual
def ev (v : Bool) : ME → SA → Er D
  | .slot i, s => (match rd s i with
    | some d => own v (some i) d s
    | none => .bad)
  | .non, s => .ok .non s
  | .bl b, s => .ok (.bl b) s
  | .int i, s => .ok (.int i) s
  | .str x, s => .ok (.str x) s
  | .glob _ i, s => .ok (.int i) s
  | .bin o a b, s => (ev true a s).bind fun d1 s1 => (ev true b s1).bind fun d2 s2 => Er.of ((stay a d1 (pureE b) s2).bind fun d1 => bin o (tmpz a d1) (tmpz b d2)) s2
  | .un o a, s => (ev true a s).bind fun d s1 => Er.of (un o d) s1
  | .nt a, s => (ev true a s).bind fun d s1 => (match d with | .bl b => .ok (.bl !b) s1 | _ => .bad)
  | .cmp c a b, s => (ev true a s).bind fun d1 s1 => (ev true b s1).bind fun d2 s2 => Er.of ((stay a d1 (pureE b) s2).bind fun d1 => (cmp c d1 d2).map D.bl) s2
  | .chain c e a b d, s => (ev true a s).bind fun d1 s1 => (ev true b s1).bind fun d2 s2 => (match d1, d2 with
    | .int i, .int j => (match cmp c (.int i) (.int j) with
      | some true => (ev true d s2).bind fun d3 s3 => (match d3 with | .int k => Er.of ((cmp e (.int j) (.int k)).map D.bl) s3 | _ => .bad)
      | some false => .ok (.bl false) s2
      | none => .bad)
    | _, _ => .bad)
  | .isn n a, s => (ev true a s).bind fun d s1 => .ok (.bl (isn n d)) s1
  | .and2 a b, s => (ev true a s).bind fun d s1 => (match d with | .bl true => (ev true b s1).bind fun d s2 => (match d with | .bl c => .ok (.bl c) s2 | _ => .bad) | .bl false => .ok (.bl false) s1 | _ => .bad)
  | .or2 a b, s => (ev true a s).bind fun d s1 => (match d with | .bl false => (ev true b s1).bind fun d s2 => (match d with | .bl c => .ok (.bl c) s2 | _ => .bad) | .bl true => .ok (.bl true) s1 | _ => .bad)
  | .ifx t a b, s => (evT t s).bind fun c s1 => if c then ev false a s1 else ev false b s1
  | .tup es, s => (evs es s).bind fun ds s1 => if ds.length ≤ sizeLine then .ok (.tup (frzs ds)) s1 else .bad
  | .lst es, s => (evs es s).bind fun ds s1 => if ds.length ≤ sizeLine then .ok (.lst true ds) s1 else .bad
  | .sub a i, s => (ev true a s).bind fun d1 s1 => (ev true i s1).bind fun d2 s2 => (match d2 with
    | .int k => (match (stay a d1 (pureE i) s2).bind fun d1 => getIx d1 k with
      | some d => own v none d s2
      | none => .bad)
    | _ => .bad)
  | .slc a lo hi, s => (ev true a s).bind fun d1 s1 => (evO lo s1).bind fun l s2 => (evO hi s2).bind fun h s3 =>
      Er.of ((stay a d1 (pureO lo && pureO hi) s3).bind fun d => cutD d l h) s3
  | .rev a, s => (ev true a s).bind fun d s1 => (match d with
    | .lst _ ds => if stills ds then .ok (.lst true ds.reverse) s1 else .bad
    | _ => .bad)
  | .fld a k, s => (ev true a s).bind fun d s1 => (match getFd d k with
    | some d => own v none d s1
    | none => .bad)
  | .bi1 f a, s => (ev true a s).bind fun d s1 => Er.of (bi1 f (tmpz a d)) s1
  | .bi2 f a b, s => (ev true a s).bind fun d1 s1 => if rcv f d1 then (ev true b s1).bind fun d2 s2 => Er.of ((stay a d1 (pureE b) s2).bind fun d1 => bi2 f d1 d2) s2 else .bad
  | .isi a t, s => (ev true a s).bind fun d s1 => Er.of ((isTy t d).map D.bl) s1
  | .pop i, s => (match rd s i with
    | some (.lst true ds) => (match ds[ds.length - 1]? with
      | some d => .ok d (s.set i (some (.lst true ds.dropLast)))
      | none => .bad)
    | _ => .bad)
  | .popAt i e, s => (match rd s i with
    | some (.lst true _) => (ev true e s).bind fun k s1 => (match k, rd s1 i with
      | .int k, some (.lst true ds) => (match ixN ds.length k with
        | some j => if ds.length ≤ sizeLine then (match ds[j]? with
          | some d => .ok d (s1.set i (some (.lst true (ds.eraseIdx j))))
          | none => .bad) else .bad
        | none => .bad)
      | _, _ => .bad)
    | _ => .bad)
  | .call f as, s => (match G f with
    | some g => (evAs as s).bind fun avs s1 => called g avs s1
    | none => .bad)
  | .meth m o as, s => (evA o s).bind fun av s1 => (match (avD s1 av).bind methOf with
    | some c => (match (MTD c m).bind G with
      | some g => (evAs as s1).bind fun avs s2 => called g (av :: avs) s2
      | none => .bad)
    | none => .bad)
  | .make c f as, s => (match G f with
    | some g => (evAs as s).bind fun avs s1 => made g c avs s1
    | none => .bad)
  | .comp own elt it t, s => (evI it s).bind fun ds s1 =>
      (match ds with
      | .vals ds => if !decide (ds.length ≤ sizeLine) then Er.bad else compL (fun s => (evTo t s).noRz) (fun s => (ev false elt s).noRz) own ds (s1.set own none)
      | .live i => compV W (fun s => (evTo t s).noRz) (fun s => (ev false elt s).noRz) own i W 0 (s1.set own none)).bind fun ys s2 => .ok (.lst true ys) (s2.set own (s1[own]?).join)
  | .dnew t, s => .ok (.dic true t [] []) s
  | .dlit t a b, s => (ev true a s).bind fun k s1 => (ev false b s1).bind fun d s2 => if kOk t k && still d then .ok (.dic true t [k] [d]) s2 else .bad
  | .dget a i, s => (ev true a s).bind fun d1 s1 => (ev true i s1).bind fun k s2 => (match (stay a d1 (pureE i) s2).bind fun d1 => getK d1 k with
    | some d => if still d then .ok d s2 else .bad
    | none => .bad)
  | .dgetD a i x, s => (ev true a s).bind fun d1 s1 => if !isDic d1 then .bad else (ev true i s1).bind fun k s2 => (ev false x s2).bind fun dx s3 => (match (stay a d1 (pureE i && pureE x) s3).bind fun d1 => getKD d1 k dx with
    | some d => if still dx && still d then .ok d s3 else .bad
    | none => .bad)
  | .isb b a, s => (ev true a s).bind fun d s1 => Er.of (isB b d) s1
def evO : MO → SA → Er (Option Int)
  | .none, s => .ok none s
  | .some e, s => (ev true e s).bind fun d s1 => (match d with | .int i => .ok (some i) s1 | _ => .bad)
def evs : MEs → SA → Er (List D)
  | .nil, s => .ok [] s
  | .cons e es, s => (ev false e s).bind fun d s1 => (evs es s1).bind fun ds s2 => .ok (d :: ds) s2
def evA : MA → SA → Er AV
  | .rd e, s => (ev false e s).bind fun d s1 => .ok (.val d) s1
  | .bor i, s => (match rd s i with | some _ => .ok (.bor i) s | none => .bad)
  | .mv i, s => (match rd s i with | some _ => .ok (.mv i) s | none => .bad)
def evAs : MAs → SA → Er (List AV)
  | .nil, s => .ok [] s
  | .cons a as, s => (evA a s).bind fun x s1 => (evAs as s1).bind fun xs s2 => .ok (x :: xs) s2
def evI : MI → SA → Er It
  | .of e, s => (match slotOf e, (slotOf e).bind (rd s) with
    | some i, some (.lst true ds) => if stills ds then .ok (.live i) s else (ev false e s).bind fun d s1 => Er.of ((itemsOf (frz d)).map It.vals) s1
    | _, _ => (ev false e s).bind fun d s1 => Er.of ((itemsOf (frz d)).map It.vals) s1)
  | .r1 a, s => (ev true a s).bind fun d s1 => (match d with | .int j => if inR j then .ok (.vals (rangeN 0 j.toNat)) s1 else .bad | _ => .bad)
  | .r2 a b, s => (ev true a s).bind fun d s1 => (ev true b s1).bind fun d2 s2 => (match d, d2 with
    | .int i, .int j => if inR i && inR j then .ok (.vals (rangeN i (j - i).toNat)) s2 else .bad | _, _ => .bad)
  | .r3 a b c, s => (ev true a s).bind fun d s1 => (ev true b s1).bind fun d2 s2 => (ev true c s2).bind fun d3 s3 => (match d, d2, d3 with
    | .int i, .int j, .int k => Er.of ((range3 i j k).map It.vals) s3 | _, _, _ => .bad)
def evT : MT → SA → Er Bool
  | .val e, s => (ev true e s).bind fun d s1 => (match d with | .bl b => .ok b s1 | _ => .bad)
  | .tru e, s => (ev true e s).bind fun d s1 => Er.of (truD d) s1
  | .cmp c a b, s => (ev true a s).bind fun d1 s1 => (ev true b s1).bind fun d2 s2 => Er.of ((stay a d1 (pureE b) s2).bind fun d1 => cmp c d1 d2) s2
  | .chain c e a b d, s => (ev true a s).bind fun d1 s1 => (ev true b s1).bind fun d2 s2 => (match d1, d2 with
    | .int i, .int j => (match cmp c (.int i) (.int j) with
      | some true => (ev true d s2).bind fun d3 s3 => (match d3 with | .int k => Er.of (cmp e (.int j) (.int k)) s3 | _ => .bad)
      | some false => .ok false s2
      | none => .bad)
    | _, _ => .bad)
  | .isn n a, s => (ev true a s).bind fun d s1 => .ok (isn n d) s1
  | .and a b, s => (evT a s).bind fun c s1 => if c then evT b s1 else .ok false s1
  | .or a b, s => (evT a s).bind fun c s1 => if c then .ok true s1 else evT b s1
  | .not a, s => (evT a s).bind fun c s1 => .ok (!c) s1
def evTo : MTo → SA → Er Bool
  | .none, s => .ok true s
  | .some t, s => evT t s
end
end
end Ab
namespace Ab
open PySem L2

inductive Key where | ix (k : Int) | fd (k : Nat)
inductive Fl where
  | nx (s : SA) | rt (d : D) (s : SA) | bk (s : SA) | ct (s : SA) | rz (c : Nat) (s : SA) | bad
  deriving Inhabited
def updD : List Key → (D → Option D) → D → Option D
  | [], f, d => f d
  | .ix k :: ks, f, .lst true ds => (ixN ds.length k).bind fun j => (ds[j]?).bind fun d => (updD ks f d).map fun d' => .lst true (ds.set j d')
  | .fd k :: ks, f, .ins true c ds => (fldIx c k).bind fun j => (ds[j]?).bind fun d => (updD ks f d).map fun d' => .ins true c (ds.set j d')
  | _, _, _ => none
def updS (i : Nat) (ks : List Key) (f : D → Option D) (s : SA) : Option SA := (rd s i).bind fun d => (updD ks f d).map fun d' => s.set i (some d')
-- through what is held alone
def getP : List Key → D → Option D
  | [], d => some d
  | .ix k :: ks, .lst true ds => (ixN ds.length k).bind fun j => (ds[j]?).bind (getP ks)
  | .fd k :: ks, .ins true c ds => (fldIx c k).bind fun j => (ds[j]?).bind (getP ks)
  | _, _ => none
def chkP (q : Nat × List Key) (s : SA) : Er (Nat × List Key) := match (rd s q.1).bind (getP q.2) with
  | some _ => .ok q s
  | none => .bad
def lstP (q : Nat × List Key) (s : SA) : Bool := match (rd s q.1).bind (getP q.2) with
  | some (.lst true _) => true
  | _ => false
def augD (o : Op2) (a b : D) : Option D := match o, a, b with
  | .add, .int i, .int j => some (.int (i + j))
  | .sub, .int i, .int j => some (.int (i - j))
  | _, _, _ => none
def getD1 : List Key → D → Option D
  | [], d => some d
  | .ix k :: ks, d => (getIx d k).bind (getD1 ks)
  | .fd k :: ks, d => (getFd d k).bind (getD1 ks)
def fSet (k : Int) (x : D) : D → Option D
  | .lst true ds => (ixN ds.length k).map fun j => .lst true (ds.set j x)
  | _ => none
def fApp (x : D) : D → Option D
  | .lst true ds => if line ds.length then some (.lst true (ds ++ [x])) else none
  | _ => none
def fExt (xs : List D) : D → Option D
  | .lst true ds => if stills xs && decide (ds.length + xs.length ≤ sizeLine) then some (.lst true (ds ++ xs)) else none
  | _ => none
def fRev : D → Option D
  | .lst true ds => some (.lst true ds.reverse)
  | _ => none
def fFld (k : Nat) (x : D) : D → Option D
  | .ins true c ds => (fldIx c k).bind fun j => if j < ds.length then some (.ins true c (ds.set j x)) else if j = ds.length then some (.ins true c (ds ++ [x])) else none
  | _ => none
def setN (s : SA) : List Nat → List D → Option SA
  | [], [] => some s
  | i :: is, d :: ds => setN (s.set i (some d)) is ds
  | _, _ => none
def MG.slots : MG → List Nat
  | .name i => [i]
  | .pair i j => [i, j]
  | .trip i j k => [i, j, k]
  | .quad i j k l => [i, j, k, l]
def asgG (g : MG) (x : D) (s : SA) : Option SA := match g with
  | .name i => some (s.set i (some x))
  | _ => (match x with | .tup ds => setN s g.slots ds | _ => none)
def forL (st : SA → Fl) (g : MG) : List D → SA → Fl
  | [], s => .nx s
  | x :: xs, s => match asgG g x s with
    | none => .bad
    | some s1 => match st s1 with
      | .nx s2 => forL st g xs s2
      | .ct s2 => forL st g xs s2
      | .bk s2 => .nx s2
      | r => r
def forV (st : SA → Fl) (g : MG) (i : Nat) : Nat → Nat → SA → Fl
  | 0, _, _ => .bad
  | n + 1, k, s => match rd s i with
    | some (.lst _ ds) => (match ds[k]? with
      | none => .nx s
      | some x => if still x && !(g.slots.contains i) then (match asgG g x s with
        | none => .bad
        | some s1 => match st s1 with
          | .nx s2 => forV st g i n (k + 1) s2
          | .ct s2 => forV st g i n (k + 1) s2
          | .bk s2 => .nx s2
          | r => r)
        else .bad)
    | _ => .bad
def whileL (c : SA → Er Bool) (st : SA → Fl) : Nat → SA → Fl
  | 0, _ => .bad
  | n + 1, s => match c s with
    | .ok true s1 => (match st s1 with
      | .nx s2 => whileL c st n s2
      | .ct s2 => whileL c st n s2
      | .bk s2 => .nx s2
      | r => r)
    | .ok false s1 => .nx s1
    | .rz x s1 => .rz x s1
    | .bad => .bad
def Er.fl {α : Type} (x : Er α) (f : α → SA → Fl) : Fl := match x with
  | .ok a s => f a s
  | .rz c s => .rz c s
  | .bad => .bad
def nxt (r : Fl) (K : SA → Fl) : Fl := match r with
  | .nx s => K s
  | r => r
def Fl.of (o : Option SA) : Fl := match o with
  | some s => .nx s
  | none => .bad
/-- a text that only counts when it is written out: the sizes of the small data -/
def flat : D → Bool
  | .int _ => true
  | .bl _ => true
  | .str _ => true
  | .non => true
  | _ => false

section
variable (G : Env0A) (W : Nat)
def evP : ME → SA → Er (Nat × List Key)
  | .slot i, s => chkP (i, []) s
  | .sub a e, s => (evP a s).bind fun p s1 => if pureE e then (ev G W true e s1).bind fun d s2 => (match d with | .int k => chkP (p.1, p.2 ++ [.ix k]) s2 | _ => .bad) else .bad
  | .fld a k, s => (evP a s).bind fun p s1 => chkP (p.1, p.2 ++ [.fd k]) s1
  | _, _ => .bad
/-- a store of a value that nobody holds alone into a list in a slot -/
def stI (p : Nat) (i : ME) (d : D) (s : SA) : Fl := (evP G W (.slot p) s).fl fun q s1 => (ev G W true i s1).fl fun k s2 => (match k with
  | .int k => Fl.of (updS q.1 q.2 (fSet k d) s2)
  | _ => .bad)
mutual
def ex (fix : List Nat) : MS → SA → Fl
  | .asg i e, s => if fix.contains i then .bad else (ev G W false e s).fl fun d s1 => .nx (s1.set i (some d))
  | .asgT g e, s => if g.slots.any fix.contains then .bad else (ev G W false e s).fl fun d s1 => Fl.of (asgG g (frz d) s1)
  | .asg2 i j a b, s => if fix.contains i || fix.contains j then .bad else (ev G W false a s).fl fun d s1 => (ev G W false b s1).fl fun d2 s2 => .nx ((s2.set i (some d)).set j (some d2))
  | .setI p i e, s => (ev G W false e s).fl fun d s1 => (evP G W p s1).fl fun q s2 => (ev G W true i s2).fl fun k s3 => (match k with
    | .int k => if pureE i || q.2.isEmpty then Fl.of (updS q.1 q.2 (fSet k d) s3) else .bad
    | _ => .bad)
  | .swap p i j a b, s => (ev G W false (.tup (.cons a (.cons b .nil))) s).fl fun d s1 => (match d with
    | .tup [d1, d2] => nxt (stI G W p i d1 s1) fun s2 => nxt (stI G W p j d2 s2) .nx
    | _ => .bad)
  | .setF o k e, s => (ev G W false e s).fl fun d s1 => Fl.of (updS o [] (fFld k d) s1)
  | .aug i o e, s => if fix.contains i then .bad else (match rd s i with
    | some d1 => if flat d1 then (ev G W true e s).fl fun d2 s1 => (match augD o d1 d2 with | some d => .nx (s1.set i (some d)) | none => .bad) else .bad
    | none => .bad)
  | .augI p i o e, s => (evP G W p s).fl fun q s1 => (ev G W true i s1).fl fun k s2 => (match k with
    | .int k => (match (rd s2 q.1).bind (getP (q.2 ++ [.ix k])) with
      | some d1 => if flat d1 && pureE i && pureE e then (ev G W true e s2).fl fun d2 s3 => (match augD o d1 d2 with | some d => Fl.of (updS q.1 q.2 (fSet k d) s3) | none => .bad) else .bad
      | none => .bad)
    | _ => .bad)
  | .augF o k op e, s => (match (rd s o).bind (getD1 [.fd k]) with
    | some d1 => if flat d1 && pureE e then (ev G W true e s).fl fun d2 s1 => (match bin op d1 d2 with | some d => Fl.of (updS o [] (fFld k d) s1) | none => .bad) else .bad
    | none => .bad)
  | .append p e, s => (evP G W p s).fl fun q s1 => if lstP q s1 then (ev G W false e s1).fl fun d s2 => if pureE e || q.2.isEmpty then Fl.of (updS q.1 q.2 (fApp d) s2) else .bad else .bad
  | .extend p e, s => (evP G W p s).fl fun q s1 => if lstP q s1 then (ev G W true e s1).fl fun d s2 => if pureE e then (match d with
    | .lst _ xs => Fl.of (updS q.1 q.2 (fExt xs) s2)
    | _ => .bad) else .bad else .bad
  | .reverse p, s => (evP G W p s).fl fun q s1 => if lstP q s1 then Fl.of (updS q.1 q.2 fRev s1) else .bad
  | .expr e, s => (ev G W false e s).fl fun _ s1 => .nx s1
  | .ite t a b, s => (evT G W t s).fl fun c s1 => if c then exs fix a s1 else exs fix b s1
  | .forr g it b, s => (evI G W it s).fl fun ds s1 => (match ds with
    | .vals ds => if g.slots.any fix.contains then .bad else forL (fun s => exs fix b s) g ds s1
    | .live i => if g.slots.any fix.contains then .bad else forV (fun s => exs (i :: fix) b s) g i W 0 s1)
  | .whil t b, s => whileL (fun s => evT G W t s) (fun s => exs fix b s) W s
  | .brk, s => .bk s
  | .cont, s => .ct s
  | .pass, s => .nx s
  | .ret e, s => (match slotOf e with
    | some i => if fix.contains i then (ev G W false e s).fl fun d s1 => .rt d s1 else (match rd s i with
      | some d => .rt d (s.set i none)
      | none => .bad)
    | none => (ev G W false e s).fl fun d s1 => .rt d s1)
  | .retN, s => .rt .non s
  | .raise c, s => .rz c s
  | .dset i k e, s => (ev G W false e s).fl fun d s1 => if (rd s1 i).isSome then (ev G W true k s1).fl fun kd s2 => (match rd s2 i with
    | some (.dic true t ks ds) => if kOk t kd && still d && line ks.length then .nx (s2.set i (some (dput t ks ds kd d))) else .bad
    | _ => .bad) else .bad
  | .tryRet e c h, s => (match ev G W false e s with
    | .ok d s1 => .rt d s1
    | .rz c' s1 => if c = c' then exs fix h s1 else .bad
    | .bad => .bad)
def exs (fix : List Nat) : MSs → SA → Fl
  | .nil, s => .nx s
  | .cons t ts, s => match ex fix t s with
    | .nx s1 => exs fix ts s1
    | r => r
end
def mvals (s : SA) : List Nat → Option (List D)
  | [] => some []
  | i :: is => (rd s i).bind fun d => (mvals s is).map (d :: ·)
def resOf (fix : List Nat) (r : Fl) : Res :=
  let fin (s : SA) (k : List D → Res) : Res := match mvals s fix with | some ms => k ms | none => .bad
  match r with
  | .nx s => fin s (.ok .non)
  | .rt d s => fin s (.ok d)
  | .rz c s => fin s (.rz c)
  | _ => .bad
/-- a def: its parameters, the names of its frame, the parameters that it may change, its body -/
structure MF where
  np : Nat
  ns : Nat
  fix : List Nat
  body : MSs
def runF (f : MF) : Callee := fun ds => if ds.length = f.np then resOf f.fix (exs G W f.fix f.body (ds.map some ++ List.replicate (f.ns - f.np) none)) else .bad
end
end Ab
namespace Ab
open PySem L2
open Classical

/-! ### freezing -/
noncomputable def take (F H : Hp) (P : Fp) : Hp := fun x => if P x then H x else F x
section
variable {S : Sig} {F F' H H' : Hp}
theorem take_same {P : Fp} (h : ∀ x, P x → F x = none) : Same F (take F H P) := fun x o e => by
  unfold take
  split
  · rename_i p; rw [h x p] at e; cases e
  · exact e
theorem take_in {P : Fp} {x : Addr} (h : P x) : take F H P x = H x := by unfold take; rw [if_pos h]
theorem take_out {P : Fp} {x : Addr} (h : ¬ P x) : take F H P x = F x := by unfold take; rw [if_neg h]
theorem take_sub {P : Fp} (h : Same F H) : Same (take F H P) H := fun x o e => by
  unfold take at e
  split at e
  · exact e
  · exact h x o e
theorem SR.none_of (sr : SR S F H a σ P) : ∀ x, P x → F x = none := sr.fr
theorem rd_some {s : SA} {i : Nat} {d : D} (h : rd s i = some d) : s[i]? = some (some d) := by
  unfold rd at h
  cases e : s[i]? with
  | none => rw [e] at h; cases h
  | some o => rw [e] at h; cases o with
    | none => cases h
    | some d' => cases h; rfl
theorem rd_of {s : SA} {i : Nat} {d : D} (h : s[i]? = some (some d)) : rd s i = some d := by unfold rd; rw [h]; rfl
theorem set_none_of {s : SA} {i : Nat} {o : Option D} : (s.set i none).set i o = s.set i o := by simp
/-- one slot's value shared from now on -/
theorem SR.freeze {a : SA} {σ : L2.St} {P : Fp} {i : Nat} {d : D} (sr : SR S F H a σ P) (e : rd a i = some d) :
    ∃ v F' P', σ[i]? = some (some v) ∧ Rep S F' H (frz d) v Emp ∧ SR S F' H (a.set i (some (frz d))) σ P' ∧ Ext F F' H H P P' := by
  obtain ⟨v, P1, P2, e1, e2, di, r, h2, put⟩ := sr.rep.focus (rd_some e)
  have hn : ∀ x, P1 x → F x = none := fun x hx => sr.fr x (by rw [e2]; exact .inl hx)
  have sF := take_same (H := H) hn
  have rf : Rep S (take F H P1) H (frz d) v Emp := r.frz sF d fun x hx => take_in hx
  refine ⟨v, take F H P1, P2, e1, rf, ⟨?_, fun x hx => ?_, take_sub sr.sub⟩, ⟨sF, fun x o h _ => h, fun x hx => .inl (by rw [e2]; exact .inr hx), fun x o h => ?_⟩⟩
  · have := put (take F H P1) H P2 (h2.keep sF fun x hx => rfl) (frz d) Emp rf emp_dis
    rwa [emp_uni] at this
  · rw [take_out fun z => di x z hx]
    exact sr.fr x (by rw [e2]; exact .inr hx)
  · unfold take at h
    split at h
    · rename_i p; exact .inr (.inl (by rw [e2]; exact .inl p))
    · exact .inl ⟨o, h⟩
/-- a value set aside shared from now on -/
theorem Rep.share {d : D} {v : V} {Pd Pa : Fp} {a : SA} {σ : L2.St} (r : Rep S F H d v Pd) (sr : SR S F H a σ Pa) (di : Dis Pd Pa) (fr : ∀ x, Pd x → F x = none) :
    ∃ F', Rep S F' H (Ab.frz d) v Emp ∧ SR S F' H a σ Pa ∧ Ext F F' H H (Uni Pd Pa) Pa := by
  have sF := take_same (H := H) fr
  refine ⟨take F H Pd, r.frz sF d fun x hx => take_in hx, ⟨sr.rep.keep sF fun x _ => rfl, fun x hx => ?_, take_sub sr.sub⟩, ⟨sF, fun x o h _ => h, fun x hx => .inl (.inr hx), fun x o h => ?_⟩⟩
  · rw [take_out fun z => di x z hx]; exact sr.fr x hx
  · unfold take at h
    split at h
    · rename_i p; exact .inr (.inl (.inl p))
    · exact .inl ⟨o, h⟩
theorem Reps.share {ds : List D} {vs : List V} {Pd Pa : Fp} {a : SA} {σ : L2.St} (r : Reps S F H ds vs Pd) (sr : SR S F H a σ Pa) (di : Dis Pd Pa) (fr : ∀ x, Pd x → F x = none) :
    ∃ F', Reps S F' H (frzs ds) vs Emp ∧ SR S F' H a σ Pa ∧ Ext F F' H H (Uni Pd Pa) Pa := by
  have sF := take_same (H := H) fr
  refine ⟨take F H Pd, Reps.frz sF ds r fun x hx => take_in hx, ⟨sr.rep.keep sF fun x _ => rfl, fun x hx => ?_, take_sub sr.sub⟩, ⟨sF, fun x o h _ => h, fun x hx => .inl (.inr hx), fun x o h => ?_⟩⟩
  · rw [take_out fun z => di x z hx]; exact sr.fr x hx
  · unfold take at h
    split at h
    · rename_i p; exact .inr (.inl (.inl p))
    · exact .inl ⟨o, h⟩
end

/-! ### what an expression's reckoning says of the machine -/
/-- tmp: the value stands in no slot; kp: nothing that stood has changed; sl: it is this slot's -/
structure At where
  tmp : Bool
  kp : Bool
  sl : Option Nat
def atE (v : Bool) (e : ME) : At := ⟨!v || (rootOf e).isNone, pureE e, slotOf e⟩
structure Ok (S : Sig) (F H : Hp) (P : Fp) (σ : L2.St) (t : At) (d : D) (a' : SA) (v : V) (F' H' : Hp) (Pd Pa : Fp) : Prop where
  rep : Rep S F' H' d v Pd
  sr : SR S F' H' a' σ Pa
  ext : Ext F F' H H' P Pa
  ext2 : t.tmp = true → Ext F F' H H' P (Uni Pd Pa)
  dis : t.tmp = true → Dis Pd Pa
  fr : t.tmp = true → ∀ x, Pd x → F' x = none
  same : t.kp = true → Same H H'
  slot : ∀ i, t.sl = some i → σ[i]? = some (some v)
/-- the wish for a raise -/
abbrev RzW := Nat → SA → Hp → Prop
def Out (S : Sig) (Z : Nat → Hp → Prop) (F H : Hp) (P : Fp) (σ : L2.St) {α : Type} (K : α → SA → Prop) : Er α → Prop
  | .ok d a' => K d a'
  | .rz c a' => ∀ F' H' Pa, SR S F' H' a' σ Pa → Ext F F' H H' P Pa → Z c H'
  | .bad => False
theorem Out.imp {S : Sig} {Z : Nat → Hp → Prop} {F H : Hp} {P : Fp} {σ : L2.St} {α : Type} {K K' : α → SA → Prop} {x : Er α} (h : Out S Z F H P σ K x) (i : ∀ d a, x = .ok d a → K d a → K' d a) : Out S Z F H P σ K' x := by
  cases x with
  | ok d a => exact i d a rfl h
  | rz c a => exact h
  | bad => exact h
/-- from a later state -/
theorem Out.at {S : Sig} {Z : Nat → Hp → Prop} {F F1 H H1 : Hp} {P P1 : Fp} {σ : L2.St} {α : Type} {K : α → SA → Prop} {x : Er α} (e : Ext F F1 H H1 P P1) (h : Out S Z F H P σ K x) : Out S Z F1 H1 P1 σ K x := by
  cases x with
  | ok d a => exact h
  | rz c a => exact fun F' H' Pa sr x => h F' H' Pa sr (e.trans x)
  | bad => exact h
theorem Out.bind {S : Sig} {Z : Nat → Hp → Prop} {F H : Hp} {P : Fp} {σ : L2.St} {α β : Type} {K : β → SA → Prop} {x : Er α} {f : α → SA → Er β} (h : Out S Z F H P σ K (x.bind f)) : Out S Z F H P σ (fun d a => Out S Z F H P σ K (f d a)) x := by
  cases x with
  | ok d a => exact h
  | rz c a => exact h
  | bad => exact h
theorem Out.of {S : Sig} {Z : Nat → Hp → Prop} {F H : Hp} {P : Fp} {σ : L2.St} {α : Type} {K : α → SA → Prop} {o : Option α} {s : SA} (h : Out S Z F H P σ K (Er.of o s)) : ∃ d, o = some d ∧ K d s := by
  cases o with
  | none => exact h.elim
  | some d => exact ⟨d, rfl, h⟩

/-- the reading that goes with a reckoning -/
def tA (S : Sig) (Z : L2.St → Nat → Hp → Prop) (t : At) (f : SA → Er D) : TE := fun σ H Q => ∃ F P a, SR S F H a σ P ∧
  Out S (Z σ) F H P σ (fun d a' => ∀ v F' H' Pd Pa, Ok S F H P σ t d a' v F' H' Pd Pa → Q v H') (f a)
theorem _root_.L2.PE.weak {X : Cx} {e : Expr} {t t' : TE} (h : PE X e t) (w : ∀ σ H Q, t' σ H Q → t σ H Q) : PE X e t' :=
  ⟨fun pins s σ H Q I q => h.run pins s σ H Q I (w σ H Q q)⟩
theorem _root_.L2.PT.weak {X : Cx} {e : Expr} {t t' : TT} (h : PT X e t) (w : ∀ σ H Q, t' σ H Q → t σ H Q) : PT X e t' :=
  ⟨fun pins s σ H Q I q => h.run pins s σ H Q I (w σ H Q q)⟩
theorem _root_.L2.PA.weak {X : Cx} {e : List Expr} {t t' : TA} (h : PA X e t) (w : ∀ σ H Q, t' σ H Q → t σ H Q) : PA X e t' :=
  ⟨fun pos pins s σ H Q I q => h.run pos pins s σ H Q I (w σ H Q q)⟩
/-- a test's -/
def tAT (S : Sig) (Z : L2.St → Nat → Hp → Prop) (kp : Bool) (f : SA → Er Bool) : TT := fun σ H Q => ∃ F P a, SR S F H a σ P ∧
  Out S (Z σ) F H P σ (fun b a' => ∀ F' H' Pa, SR S F' H' a' σ Pa → Ext F F' H H' P Pa → (kp = true → Same H H') → Q b H') (f a)
section
variable {S : Sig} {Z : Nat → Hp → Prop} {F H : Hp} {P : Fp} {σ : L2.St} {a : SA}
theorem same_trans' {kp kq : Bool} {H H1 H2 : Hp} (h1 : kp = true → Same H H1) (h2 : kq = true → Same H1 H2) : (kp && kq) = true → Same H H2 := fun h => by
  simp only [Bool.and_eq_true] at h
  exact (h1 h.1).trans (h2 h.2)
/-- the first of two operands behind the second one -/
theorem stayed {e : ME} {tv tw : At} {d1 d2 d1' : D} {a1 a2 : SA} {v1 v2 : V} {F1 H1 F2 H2 : Hp} {P1 Pa1 P2 Pa2 : Fp} {pb : Bool}
    (o1 : Ok S F H P σ tv d1 a1 v1 F1 H1 P1 Pa1) (o2 : Ok S F1 H1 Pa1 σ tw d2 a2 v2 F2 H2 P2 Pa2) (h : stay e d1 pb a2 = some d1') (ht : tv = atE true e) (hb : pb = tw.kp) :
    ∃ P1', Rep S F2 H2 d1' v1 P1' ∧ ((rootOf e).isNone = true → P1' = P1 ∧ d1' = d1 ∧ Dis P1 Pa2 ∧ (∀ x, P1 x → F2 x = none) ∧ Ext F F2 H H2 P (Uni P1 Pa2) ∧ (tw.tmp = true → Dis P1 P2 ∧ Ext F F2 H H2 P (Uni P2 (Uni P1 Pa2)))) := by
  subst ht
  have ht : (rootOf e).isNone = true → (atE true e).tmp = true := fun z => by simp [atE, z]
  have fw : (rootOf e).isNone = true → Rep S F2 H2 d1 v1 P1 ∧ Dis P1 Pa2 ∧ (∀ x, P1 x → F2 x = none) ∧ Ext F F2 H H2 P (Uni P1 Pa2) ∧ (tw.tmp = true → Dis P1 P2 ∧ Ext F F2 H H2 P (Uni P2 (Uni P1 Pa2))) := fun z => by
    have t1 := ht z
    have di := o1.dis t1
    have held := o1.rep.held d1
    refine ⟨o2.ext.aside o1.rep di, o2.ext.dis di held, o2.ext.unf di held (o1.fr t1), (o1.ext2 t1).trans ?_, fun t2 => ⟨?_, (o1.ext2 t1).trans ?_⟩⟩
    · have := o2.ext.frame (R := P1)
      rwa [uni_comm Pa1 P1, uni_comm Pa2 P1] at this
    · exact fun x hx h2 => (o2.ext2 t2).dis di held x hx (.inl h2)
    · have := (o2.ext2 t2).frame (R := P1)
      rwa [uni_comm Pa1 P1, uni_assoc, uni_comm Pa2 P1] at this
  unfold stay at h
  by_cases hr : (rootOf e).isNone = true
  · obtain ⟨r, q⟩ := fw hr
    rw [hr, Bool.or_true, if_pos rfl] at h
    cases h
    exact ⟨P1, r, fun _ => ⟨rfl, rfl, q⟩⟩
  · by_cases hp : pb = true
    · rw [hp, Bool.true_or, Bool.true_or, if_pos rfl] at h
      cases h
      refine ⟨P1, o1.rep.keep o2.ext.same d1 fun x hx => ?_, fun z => (hr z).elim⟩
      obtain ⟨o, q⟩ := o1.rep.held d1 x hx
      rw [q]
      exact o2.same (by rw [← hb, hp]) x o q
    · by_cases hs : still d1 = true
      · rw [hs, Bool.or_true, Bool.true_or, if_pos rfl] at h
        cases h
        have e0 := o1.rep.still d1 hs
        exact ⟨P1, o1.rep.keep o2.ext.same d1 fun x hx => by rw [e0] at hx; exact hx.elim, fun z => (hr z).elim⟩
      · rw [if_neg (by simp [hp, hs, hr])] at h
        cases hsl : slotOf e with
        | none => rw [hsl] at h; cases h
        | some i =>
          rw [hsl] at h
          have hv := o1.slot i (by simp [atE, hsl])
          obtain ⟨v, Q1, Q2, e1, e2, di, r, h2, _⟩ := o2.sr.rep.focus (rd_some (show rd a2 i = some d1' from h))
          rw [hv] at e1
          cases e1
          exact ⟨Q1, r, fun z => (hr z).elim⟩
end
end Ab
namespace Ab
open PySem L2

section
variable {S : Sig} {F F' H H' : Hp}
theorem uni_empty {P Q : Fp} (h : Emp = Uni P Q) : P = Emp ∧ Q = Emp := by
  constructor
  · funext x
    refine propext ⟨fun p => ?_, fun z => z.elim⟩
    show Emp x
    rw [h]; exact .inl p
  · funext x
    refine propext ⟨fun p => ?_, fun z => z.elim⟩
    show Emp x
    rw [h]; exact .inr p
/-- item by item, nothing held -/
theorem Reps.at_iff : ∀ {ds : List D} {vs : List V}, Reps S F H ds vs Emp ↔ vs.length = ds.length ∧ ∀ (i : Nat) (d : D) (v : V), ds[i]? = some d → vs[i]? = some v → Rep S F H d v Emp
  | [], vs => by
    simp only [Reps]
    constructor
    · rintro ⟨rfl, _⟩
      exact ⟨rfl, fun i d v h => by simp at h⟩
    · rintro ⟨h, _⟩
      exact ⟨List.length_eq_zero_iff.mp h, trivial⟩
  | d :: ds, vs => by
    simp only [Reps]
    constructor
    · rintro ⟨v, r, P1, P2, rfl, e, _, h1, h2⟩
      obtain ⟨rfl, rfl⟩ := uni_empty e
      obtain ⟨hl, hi⟩ := Reps.at_iff.mp h2
      refine ⟨by simp [hl], fun i d' v' e1 e2 => ?_⟩
      cases i with
      | zero => simp at e1 e2; subst e1 e2; exact h1
      | succ i => exact hi i d' v' (by simpa using e1) (by simpa using e2)
    · rintro ⟨hl, hi⟩
      cases vs with
      | nil => simp at hl
      | cons v r => exact ⟨v, r, Emp, Emp, rfl, (uni_emp _).symm, emp_dis, hi 0 d v rfl rfl, Reps.at_iff.mpr ⟨by simpa using hl, fun i d' v' e1 e2 => hi (i + 1) d' v' (by simpa using e1) (by simpa using e2)⟩⟩
theorem Reps.still : ∀ (ds : List D) {vs : List V} {P : Fp}, Reps S F H ds vs P → stills ds = true → P = Emp
  | [], vs, P, h, k => by simp only [Reps] at h; exact h.2
  | d :: ds, vs, P, h, k => by
    simp only [stills, Bool.and_eq_true] at k
    simp only [Reps] at h
    obtain ⟨v, r, P1, P2, _, e, _, h1, h2⟩ := h
    rw [e, h1.still d k.1, Reps.still ds h2 k.2, uni_emp]
theorem Reps.app {xs ys : List D} {vs ws : List V} (a : Reps S F H xs vs Emp) (b : Reps S F H ys ws Emp) : Reps S F H (xs ++ ys) (vs ++ ws) Emp := by
  obtain ⟨l1, h1⟩ := Reps.at_iff.mp a
  obtain ⟨l2, h2⟩ := Reps.at_iff.mp b
  refine Reps.at_iff.mpr ⟨by simp [l1, l2], fun i d v e1 e2 => ?_⟩
  by_cases hi : i < xs.length
  · rw [List.getElem?_append_left hi] at e1
    rw [List.getElem?_append_left (by omega)] at e2
    exact h1 i d v e1 e2
  · rw [List.getElem?_append_right (by omega)] at e1
    rw [List.getElem?_append_right (by omega), l1] at e2
    exact h2 _ d v e1 e2
theorem Reps.take {xs : List D} {vs : List V} (n : Nat) (a : Reps S F H xs vs Emp) : Reps S F H (xs.take n) (vs.take n) Emp := by
  obtain ⟨l1, h1⟩ := Reps.at_iff.mp a
  refine Reps.at_iff.mpr ⟨by simp [l1], fun i d v e1 e2 => ?_⟩
  rw [List.getElem?_take] at e1 e2
  split at e1
  · rename_i h; rw [if_pos h] at e2; exact h1 i d v e1 e2
  · cases e1
theorem Reps.drop {xs : List D} {vs : List V} (n : Nat) (a : Reps S F H xs vs Emp) : Reps S F H (xs.drop n) (vs.drop n) Emp := by
  obtain ⟨l1, h1⟩ := Reps.at_iff.mp a
  refine Reps.at_iff.mpr ⟨by simp [l1], fun i d v e1 e2 => ?_⟩
  rw [List.getElem?_drop] at e1 e2
  exact h1 _ d v e1 e2
theorem Reps.rev {xs : List D} {vs : List V} (a : Reps S F H xs vs Emp) : Reps S F H xs.reverse vs.reverse Emp := by
  obtain ⟨l1, h1⟩ := Reps.at_iff.mp a
  refine Reps.at_iff.mpr ⟨by simp [l1], fun i d v e1 e2 => ?_⟩
  have hi : i < xs.length := by
    have := (List.getElem?_eq_some_iff.mp e1).1
    simpa using this
  rw [List.getElem?_reverse hi] at e1
  rw [List.getElem?_reverse (by omega), l1] at e2
  exact h1 _ d v e1 e2
theorem Reps.rep {xs : List D} {vs : List V} (a : Reps S F H xs vs Emp) : ∀ n : Nat, Reps S F H (List.replicate n xs).flatten (List.replicate n vs).flatten Emp
  | 0 => by simp only [List.replicate, List.flatten, Reps]; exact ⟨trivial, trivial⟩
  | n + 1 => by
    rw [List.replicate_succ, List.replicate_succ, List.flatten_cons, List.flatten_cons]
    exact a.app (Reps.rep a n)
theorem Reps.cutV {xs : List D} {vs : List V} (lo hi : Option Int) (a : Reps S F H xs vs Emp) : Reps S F H (cut xs lo hi) (L2.cutV vs lo hi) Emp := by
  unfold cut L2.cutV Ab.sIx
  rw [Reps.len a]
  exact (a.drop _).take _
theorem Reps.ofInts : ∀ (is : List Int), Reps S F H (is.map D.int) (is.map V.int) Emp
  | [] => by simp only [List.map, Reps]; exact ⟨trivial, trivial⟩
  | i :: is => by
    simp only [List.map, Reps]
    exact ⟨_, _, Emp, Emp, rfl, (uni_emp _).symm, emp_dis, by simp only [Rep]; exact ⟨trivial, trivial⟩, Reps.ofInts is⟩
theorem intsOf_eq : ∀ {ds : List D} {is : List Int}, intsOf ds = some is → ds = is.map D.int
  | [], is, h => by simp [intsOf] at h; subst h; rfl
  | d :: ds, is, h => by
    cases d <;> simp [intsOf] at h
    obtain ⟨js, h1, rfl⟩ := h
    rw [intsOf_eq h1]; rfl
theorem Reps.ints {is : List Int} {vs : List V} {P : Fp} (h : Reps S F H (is.map D.int) vs P) : vs = is.map V.int ∧ P = Emp := by
  induction is generalizing vs P with
  | nil => simp only [List.map, Reps] at h; exact ⟨h.1, h.2⟩
  | cons i is ih =>
    simp only [List.map, Reps] at h
    obtain ⟨v, r, P1, P2, rfl, e, _, h1, h2⟩ := h
    simp only [Rep] at h1
    obtain ⟨rfl, rfl⟩ := ih h2
    exact ⟨by rw [h1.1]; rfl, by rw [e, h1.2, uni_emp]⟩

/-! ### data -/
mutual
theorem Rep.dp (hs : Same F H) : ∀ (d : D) {v : V} {P : Fp}, Rep S F H d v P → plain0 d = true → Dp S.K H v (toPD d)
  | .non, v, P, h, k => by simp only [Rep] at h; rw [h.1]; exact .non
  | .bl b, v, P, h, k => by simp only [Rep] at h; rw [h.1]; exact .bl b
  | .int i, v, P, h, k => by simp only [Rep] at h; rw [h.1]; exact .int i
  | .str x, v, P, h, k => by simp only [Rep] at h; rw [h.1]; exact .str x
  | .tup ds, v, P, h, k => by
    simp only [Rep] at h
    obtain ⟨_, a, vs, rfl, ea, h⟩ := h
    simp only [plain0] at k
    exact .tup (SqT.of (hs _ _ ea)) (Reps.dp hs ds h k)
  | .lst m ds, v, P, h, k => by
    simp only [Rep] at h
    obtain ⟨a, vs, rfl, h⟩ := h
    simp only [plain0] at k
    split at h
    · obtain ⟨ea, _, P', _, _, h⟩ := h
      exact .lst (SqL.of ea) (Reps.dp hs ds h k)
    · exact .lst (SqL.of (hs _ _ h.2.1)) (Reps.dp hs ds h.2.2 k)
  | .ins m c ds, v, P, h, k => by simp [plain0] at k
  | .scr is, v, P, h, k => by simp [plain0] at k
  | .dic m t ks ds, v, P, h, k => by simp [plain0] at k
theorem Reps.dp (hs : Same F H) : ∀ (ds : List D) {vs : List V} {P : Fp}, Reps S F H ds vs P → plains0 ds = true → DpAll S.K H vs (toPDs ds)
  | [], vs, P, h, k => by simp only [Reps] at h; rw [h.1]; exact .nil
  | d :: ds, vs, P, h, k => by
    simp only [Reps] at h
    simp only [plains0, Bool.and_eq_true] at k
    obtain ⟨v, r, P1, P2, rfl, _, _, h1, h2⟩ := h
    exact .cons (Rep.dp hs d h1 k.1) (Reps.dp hs ds h2 k.2)
end
mutual
theorem lay_toPD : ∀ d : D, plain0 d = true → (toPD d).canLay0 = true
  | .non, _ => rfl
  | .bl b, _ => rfl
  | .int i, _ => rfl
  | .str x, h => by simpa [toPD, PyData.canLay0, plain0] using h
  | .tup ds, h => by simp only [toPD, PyData.canLay0]; exact lays_toPD ds (by simpa [plain0] using h)
  | .lst m ds, h => by simp only [toPD, PyData.canLay0]; exact lays_toPD ds (by simpa [plain0] using h)
  | .ins m c ds, _ => rfl
  | .scr is, _ => rfl
  | .dic m t ks ds, _ => rfl
theorem lays_toPD : ∀ ds : List D, plains0 ds = true → PyData.canLayAll0 (toPDs ds) = true
  | [], _ => rfl
  | d :: ds, h => by
    simp only [plains0, Bool.and_eq_true] at h
    simp only [toPDs, PyData.canLayAll0, Bool.and_eq_true]; exact ⟨lay_toPD d h.1, lays_toPD ds h.2⟩
end
theorem shaped_of {d : D} (h : plain d = true) : SeqAt.shaped (toPD d) = true := by
  simp only [plain, Bool.and_eq_true, decide_eq_true_eq] at h
  simp only [SeqAt.shaped, Bool.and_eq_true, decide_eq_true_eq]
  exact ⟨lay_toPD d h.1, by omega⟩
theorem toPDs_map : ∀ ds : List D, toPDs ds = ds.map toPD
  | [] => rfl
  | d :: ds => by simp [toPDs, toPDs_map ds]
theorem toPDs_len (ds : List D) : (toPDs ds).length = ds.length := by rw [toPDs_map, List.length_map]

/-! ### a new value -/
structure New (S : Sig) (F H : Hp) (d : D) (v : V) (F' H' : Hp) (Pd : Fp) : Prop where
  rep : Rep S F' H' d v Pd
  sF : Same F F'
  sH : Same H H'
  sub : Same F' H'
  fresh : ∀ x, Pd x → H x = none
  fr : ∀ x, Pd x → F' x = none
  frz : ∀ x o, F' x = some o → (∃ o, F x = some o) ∨ H x = none
theorem New.flat {d : D} {v : V} (hs : Same F H) (h : Rep S F H d v Emp) : New S F H d v F H Emp :=
  ⟨h, fun _ _ z => z, fun _ _ z => z, hs, fun _ z => z.elim, fun _ z => z.elim, fun _ o z => .inl ⟨o, z⟩⟩
theorem same_up {p : Addr} {o : HO} (h : H p = none) : Same H (upd H p o) := fun b x e => by rw [upd_ne (ne_of_none e h)]; exact e
theorem New.lst {ds : List D} {vs : List V} {p : Addr} (hs : Same F H) (h : Reps S F H ds vs Emp) (hp : H p = none) : New S F H (.lst true ds) (.ref p) F (upd H p (.lst vs)) (fun x => x = p) := by
  refine ⟨?_, fun _ _ z => z, same_up hp, hs.trans (same_up hp), fun x e => by rw [e]; exact hp, fun x e => by rw [e]; exact hs.free hp, fun _ o z => .inl ⟨o, z⟩⟩
  simp only [Rep]
  refine ⟨p, vs, rfl, ?_⟩
  rw [if_pos trivial]
  exact ⟨upd_same, rfl, Emp, fun z => z, (uni_emp _).symm, Reps.keep (fun _ _ z => z) ds h fun x z => z.elim⟩
theorem New.tup {ds : List D} {vs : List V} {p : Addr} (hs : Same F H) (h : Reps S F H ds vs Emp) (hp : H p = none) : New S F H (.tup ds) (.ref p) (upd F p (.tup vs)) (upd H p (.tup vs)) Emp := by
  have hF : F p = none := hs.free hp
  refine ⟨?_, same_up hF, same_up hp, fun x o e => ?_, fun _ z => z.elim, fun _ z => z.elim, fun x o e => ?_⟩
  · simp only [Rep]
    exact ⟨trivial, p, vs, rfl, upd_same, Reps.keep (same_up hF) ds h fun x z => z.elim⟩
  · by_cases hx : x = p
    · subst hx; rw [upd_same] at e ⊢; exact e
    · rw [upd_ne hx] at e ⊢; exact hs x o e
  · by_cases hx : x = p
    · exact .inr (by rw [hx]; exact hp)
    · rw [upd_ne hx] at e; exact .inl ⟨o, e⟩
end
end Ab
namespace Ab
open PySem PySem.Spec PyProof.Rows L2
/-! AbMul: a tuple times 1 or less, or an empty one -/
set_option maxHeartbeats 4000000 in
theorem mulT_same (l : Addr) (its : Array Value) (n : Nat) (dd : Option Addr) (sl : Array (Option Value)) (x : Int) (u : Tok)
    (c0 : (decide (x < -(2 ^ 63)) || decide (x ≥ 2 ^ 63)) = false) (c1 : (its.isEmpty || x == 1) = true) :
    Meets (Builtin.«tuple.__mul__» ⟨[.ref l, .int x u], []⟩) (fun _ R s => s.heap.get? l = some { cls := .type "tuple", dict := dd, data := .seq its n, slots := sl } ∧ R (.ok (.ret (.ref l))) s) := by
  refine .of_wp fun prog w A R s h => ?_
  obtain ⟨hp0, g0, d0, tk0, os0⟩ := s
  obtain ⟨hget, h⟩ := h
  have f1 := AutoSeq1.idx_int
  wp_walk using wpAny_loadPart' hget
  refine wpAny_ite_false (decide_eq_false (by rw [c0]; exact Bool.false_ne_true)) ?_
  wp_walk using wpAny_loadPart' hget
  exact ⟨_, rfl, h⟩
set_option maxHeartbeats 4000000 in
theorem mulT_none (l : Addr) (its : Array Value) (n : Nat) (dd : Option Addr) (sl : Array (Option Value)) (x : Int) (u : Tok)
    (c0 : (decide (x < -(2 ^ 63)) || decide (x ≥ 2 ^ 63)) = false) (c1 : (its.isEmpty || x == 1) = false) (c2 : (decide (x ≤ 0) || its.isEmpty) = true) :
    Meets (Builtin.«tuple.__mul__» ⟨[.ref l, .int x u], []⟩) (fun _ R s => s.heap.get? l = some { cls := .type "tuple", dict := dd, data := .seq its n, slots := sl } ∧
      R (.ok (.ret (.ref s.heap.objs.size))) { s with heap := s.heap.push { cls := Value.type "tuple", data := Data.seq #[] }, toks := s.toks }) := by
  refine .of_wp fun prog w A R s h => ?_
  obtain ⟨hp0, g0, d0, tk0, os0⟩ := s
  obtain ⟨hget, h⟩ := h
  have f1 := AutoSeq1.idx_int
  wp_walk using wpAny_loadPart' hget
  refine wpAny_ite_false (decide_eq_false (by rw [c0]; exact Bool.false_ne_true)) ?_
  wp_walk using wpAny_loadPart' hget
  exact ⟨_, rfl, h⟩
variable {X : Cx}
theorem op_repSame : OpR X (binaryOp .Mult) (fun x y H Q => ∃ l k xs, x = .ref l ∧ y = .int k ∧ SqT X.K H l xs ∧ (xs = [] ∨ k = 1) ∧ -(2 ^ 63) ≤ k ∧ k < 2 ^ 63 ∧ Q (.ref l) H) := by
  intro pins s σ H x y v u Q I rx ry h
  obtain ⟨l, k, xs, rfl, rfl, hT, hne, h1, h2, q⟩ := h
  cases rx
  obtain ⟨t, rfl⟩ := ry
  obtain ⟨its, rv, ⟨⟨cl, dd, dat, sl⟩, ho, ec, n, ed⟩, hz⟩ := I.tuple hT
  simp only at ec ed
  subst ec ed
  have hle : its.length = xs.length := rv.length.symm
  have c1 : (its.toArray.isEmpty || k == 1) = true := by
    rcases hne with e | e
    · rw [e] at hle
      have : its = [] := List.eq_nil_of_length_eq_zero hle
      subst this; rfl
    · subst e; simp
  refine wpAny_binaryOp_repeat_ref (T := "tuple") (U := "int") (by decide) ⟨_, ho, rfl⟩ (fun z => typeIs_int z k t) noFill_tuple_mul F.fills_int_mul
    F.slot_int_rmul repeat_tuple F.slot_int_index.lookup (call_meets F.slot_int_rmul (typeIs_int s k t) F.entry_int_rmul
      (F.args_int_rmul_2 _ _) (int_rmul_tuple k t l its.toArray n dd sl) ⟨ho, rfl, ⟨_, ho, rfl⟩, call_meets F.slot_tuple_mul ⟨_, ho, rfl⟩ F.entry_tuple_mul (F.args_tuple_mul_2 _ _) (mulT_same l its.toArray n dd sl k t (by rw [decide_eq_false (by omega), decide_eq_false (by omega)] <;> rfl) c1) ⟨ho, ?_⟩⟩)
  exact ⟨.ref l, H, I, rfl, q⟩
theorem op_repNone : OpR X (binaryOp .Mult) (fun x y H Q => ∃ l k xs, x = .ref l ∧ y = .int k ∧ SqT X.K H l xs ∧ xs ≠ [] ∧ k ≤ 0 ∧ -(2 ^ 63) ≤ k ∧ ∀ p, H p = none → Q (.ref p) (upd H p (.tup []))) := by
  intro pins s σ H x y v u Q I rx ry h
  obtain ⟨l, k, xs, rfl, rfl, hT, hne, h1, h2, q⟩ := h
  cases rx
  obtain ⟨t, rfl⟩ := ry
  obtain ⟨its, rv, ⟨⟨cl, dd, dat, sl⟩, ho, ec, n, ed⟩, hz⟩ := I.tuple hT
  simp only at ec ed
  subst ec ed
  have hle : its.length = xs.length := rv.length.symm
  have hi : its.toArray.isEmpty = false := by
    cases its with
    | nil => exact absurd (List.eq_nil_of_length_eq_zero hle.symm) hne
    | cons a b => rfl
  have c1 : (its.toArray.isEmpty || k == 1) = false := by
    rw [hi, Bool.false_or]; exact beq_eq_false_iff_ne.mpr (by omega)
  have c2 : (decide (k ≤ 0) || its.toArray.isEmpty) = true := by simp [h1]
  refine wpAny_binaryOp_repeat_ref (T := "tuple") (U := "int") (by decide) ⟨_, ho, rfl⟩ (fun z => typeIs_int z k t) noFill_tuple_mul F.fills_int_mul
    F.slot_int_rmul repeat_tuple F.slot_int_index.lookup (call_meets F.slot_int_rmul (typeIs_int s k t) F.entry_int_rmul
      (F.args_int_rmul_2 _ _) (int_rmul_tuple k t l its.toArray n dd sl) ⟨ho, rfl, ⟨_, ho, rfl⟩, call_meets F.slot_tuple_mul ⟨_, ho, rfl⟩ F.entry_tuple_mul (F.args_tuple_mul_2 _ _) (mulT_none l its.toArray n dd sl k t (by rw [decide_eq_false (by omega), decide_eq_false (by omega)] <;> rfl) c1 c2) ⟨ho, ?_⟩⟩)
  refine ⟨.ref s.heap.objs.size, _, I.laid (t' := s.toks) (o := .tup []) (fun b ob q => Heap.get?_push_of_some _ q) (Nat.le_refl _) ?_, rfl, q _ (I.hok.fresh (Nat.le_refl _))⟩
  exact ⟨by simp [sizeLine_eq], _, .nil, IsTup.new _ _⟩
end Ab
namespace Ab
open PySem L2

def opO : Op2 → Operator
  | .add => .Add | .sub => .Sub | .mul => .Mult | .fdiv => .FloorDiv | .mod => .Mod | .pow => .Pow | .shl => .LShift | .shr => .RShift | .band => .BitAnd | .bor => .BitOr
def opC : Cmp → CmpOp
  | .eq => .Eq | .ne => .NotEq | .lt => .Lt | .le => .LtE | .gt => .Gt | .ge => .GtE | .inn => .In | .nin => .NotIn
def opU : Un → UnaryOp
  | .neg => .USub | .inv => .Invert
def rG (S : Sig) (f : D → D → Option D) : R2 := fun x y H Q => ∃ F d1 d2 d P1 P2, Same F H ∧ Rep S F H d1 x P1 ∧ Rep S F H d2 y P2 ∧ f d1 d2 = some d ∧ ∀ v F' H' Pd, New S F H d v F' H' Pd → Q v H'
def rG1 (S : Sig) (f : D → Option D) : V → Hp → VK → Prop := fun x H Q => ∃ F d1 d P1, Same F H ∧ Rep S F H d1 x P1 ∧ f d1 = some d ∧ ∀ v F' H' Pd, New S F H d v F' H' Pd → Q v H'

section
variable {X : Cx} {S : Sig} {F H : Hp}
theorem rep_int {i : Int} {v : V} {P : Fp} : Rep S F H (.int i) v P ↔ v = .int i ∧ P = Emp := by simp only [Rep]
theorem rep_bl {i : Bool} {v : V} {P : Fp} : Rep S F H (.bl i) v P ↔ v = .bl i ∧ P = Emp := by simp only [Rep]
theorem rep_str {i : Str} {v : V} {P : Fp} : Rep S F H (.str i) v P ↔ v = .str i ∧ P = Emp := by simp only [Rep]
theorem rep_non {v : V} {P : Fp} : Rep S F H .non v P ↔ v = .non ∧ P = Emp := by simp only [Rep]
theorem rep_tup {ds : List D} {v : V} {P : Fp} : Rep S F H (.tup ds) v P ↔ P = Emp ∧ ∃ a vs, v = .ref a ∧ F a = some (.tup vs) ∧ Reps S F H ds vs Emp := by simp only [Rep]
/-- a list that is read: where it lies -/
theorem Rep.lst_at {m : Bool} {ds : List D} {v : V} {P : Fp} (hs : Same F H) (h : Rep S F H (.lst m ds) v P) : ∃ a vs P', v = .ref a ∧ H a = some (.lst vs) ∧ Reps S F H ds vs P' := by
  simp only [Rep] at h
  obtain ⟨a, vs, rfl, h⟩ := h
  split at h
  · obtain ⟨ea, _, P', _, _, h⟩ := h
    exact ⟨a, vs, P', rfl, ea, h⟩
  · exact ⟨a, vs, Emp, rfl, hs _ _ h.2.1, h.2.2⟩
theorem New.int (hs : Same F H) {i : Int} : New S F H (.int i) (.int i) F H Emp := .flat hs (rep_int.mpr ⟨rfl, rfl⟩)
theorem New.bl (hs : Same F H) {i : Bool} : New S F H (.bl i) (.bl i) F H Emp := .flat hs (rep_bl.mpr ⟨rfl, rfl⟩)
theorem New.str (hs : Same F H) {i : Str} : New S F H (.str i) (.str i) F H Emp := .flat hs (rep_str.mpr ⟨rfl, rfl⟩)

theorem bin_ok (o : Op2) : OpR X (binaryOp (opO o)) (rG S (bin o)) := by
  intro pins s σ H x y v u Q I rx ry h
  obtain ⟨F, d1, d2, d, P1, P2, hs, r1, r2, hb, q⟩ := h
  unfold bin at hb
  split at hb
  · -- int + int
    cases hb
    obtain ⟨rfl, _⟩ := rep_int.mp r1
    obtain ⟨rfl, _⟩ := rep_int.mp r2
    exact op_add pins s σ H _ _ v u Q I rx ry ⟨_, _, rfl, rfl, q _ _ _ _ (.int hs)⟩
  · split at hb
    · rename_i hl
      cases hb
      obtain ⟨rfl, _⟩ := rep_str.mp r1
      obtain ⟨rfl, _⟩ := rep_str.mp r2
      exact op_add_str pins s σ H _ _ v u Q I rx ry ⟨_, _, rfl, rfl, hl, q _ _ _ _ (.str hs)⟩
    · cases hb
  · split at hb
    · rename_i xs ys hl
      cases hb
      obtain ⟨_, a, vs, rfl, ea, h1⟩ := rep_tup.mp r1
      obtain ⟨_, b, ws, rfl, eb, h2⟩ := rep_tup.mp r2
      refine op_catA pins s σ H _ _ v u Q I rx ry ⟨a, b, vs, ws, rfl, rfl, SqT.of (hs _ _ ea), SqT.of (hs _ _ eb), by rw [Reps.len h1, Reps.len h2]; exact hl, fun e => ?_, fun _ e => ?_, fun _ _ p hp => ?_⟩
      · have e0 : xs = [] := by
          have := Reps.len h1
          rw [e] at this
          exact List.length_eq_zero_iff.mp this.symm
        subst e0
        exact q _ _ _ _ (.flat hs (rep_tup.mpr ⟨rfl, b, ws, rfl, eb, h2⟩))
      · have e0 : ys = [] := by
          have := Reps.len h2
          rw [e] at this
          exact List.length_eq_zero_iff.mp this.symm
        subst e0
        rw [List.append_nil] at q
        exact q _ _ _ _ (.flat hs (rep_tup.mpr ⟨rfl, a, vs, rfl, ea, h1⟩))
      · exact q _ _ _ _ (.tup hs (h1.app h2) hp)
    · cases hb
  · split at hb
    · rename_i m1 xs m2 ys hl
      cases hb
      simp only [Bool.and_eq_true, decide_eq_true_eq] at hl
      obtain ⟨a, vs, P1', rfl, ea, h1⟩ := r1.lst_at hs
      obtain ⟨b, ws, P2', rfl, eb, h2⟩ := r2.lst_at hs
      rw [Reps.still xs h1 hl.1.1] at h1
      rw [Reps.still ys h2 hl.1.2] at h2
      exact op_cat pins s σ H _ _ v u Q I rx ry ⟨a, b, vs, ws, rfl, rfl, ea, eb, by rw [Reps.len h1, Reps.len h2]; exact hl.2, fun p hp => q _ _ _ _ (.lst hs (h1.app h2) hp)⟩
    · cases hb
  · cases hb
    obtain ⟨rfl, _⟩ := rep_int.mp r1
    obtain ⟨rfl, _⟩ := rep_int.mp r2
    exact op_sub pins s σ H _ _ v u Q I rx ry ⟨_, _, rfl, rfl, q _ _ _ _ (.int hs)⟩
  · split at hb
    · rename_i i j hl
      cases hb
      obtain ⟨rfl, _⟩ := rep_int.mp r1
      obtain ⟨rfl, _⟩ := rep_int.mp r2
      simp only [Bool.or_eq_true, small64i_iff] at hl
      exact op_mul pins s σ H _ _ v u Q I rx ry ⟨_, _, rfl, rfl, hl, q _ _ _ _ (.int hs)⟩
    · cases hb
  · split at hb
    · rename_i m1 xs k hl
      cases hb
      simp only [Bool.and_eq_true, decide_eq_true_eq] at hl
      obtain ⟨a, vs, P1', rfl, ea, h1⟩ := r1.lst_at hs
      obtain ⟨rfl, _⟩ := rep_int.mp r2
      rw [Reps.still xs h1 hl.1] at h1
      exact op_rep pins s σ H _ _ v u Q I rx ry ⟨a, k, vs, rfl, rfl, ea, hl.2.1, hl.2.2.1, by rw [Reps.len h1]; exact hl.2.2.2, fun p hp => q _ _ _ _ (.lst hs (h1.rep _) hp)⟩
    · cases hb
  · split at hb
    · rename_i xs k hl
      cases hb
      simp only [decide_eq_true_eq] at hl
      obtain ⟨_, a, vs, rfl, ea, h1⟩ := rep_tup.mp r1
      obtain ⟨rfl, _⟩ := rep_int.mp r2
      have e := Reps.len h1
      by_cases hx : xs = []
      · subst hx
        have e0 : (List.replicate k.toNat ([] : List D)).flatten = [] := by simp
        rw [e0] at q
        refine op_repSame pins s σ H _ _ v u Q I rx ry ⟨a, k, vs, rfl, rfl, SqT.of (hs _ _ ea), .inl (List.length_eq_zero_iff.mp (by rw [e]; rfl)), by omega, by omega, ?_⟩
        exact q _ _ _ _ (.flat hs (rep_tup.mpr ⟨rfl, a, vs, rfl, ea, h1⟩))
      · have hv : vs ≠ [] := fun z => by
          rw [z] at e
          exact hx (List.length_eq_zero_iff.mp e.symm)
        by_cases k1 : k = 1
        · subst k1
          have e0 : (List.replicate (1 : Int).toNat xs).flatten = xs := by simp
          rw [e0] at q
          refine op_repSame pins s σ H _ _ v u Q I rx ry ⟨a, 1, vs, rfl, rfl, SqT.of (hs _ _ ea), .inr rfl, by omega, by omega, ?_⟩
          exact q _ _ _ _ (.flat hs (rep_tup.mpr ⟨rfl, a, vs, rfl, ea, h1⟩))
        · by_cases k0 : k ≤ 0
          · have e0 : (List.replicate k.toNat xs).flatten = [] := by
              have : k.toNat = 0 := by omega
              rw [this]; rfl
            rw [e0] at q
            exact op_repNone pins s σ H _ _ v u Q I rx ry ⟨a, k, vs, rfl, rfl, SqT.of (hs _ _ ea), hv, k0, by omega, fun p hp => q _ _ _ _ (.tup hs (by simp [Reps]) hp)⟩
          · exact op_repT pins s σ H _ _ v u Q I rx ry ⟨a, k, vs, rfl, rfl, SqT.of (hs _ _ ea), hv, by omega, hl.2.1, by rw [e]; exact hl.2.2, fun p hp => q _ _ _ _ (.tup hs (h1.rep _) hp)⟩
    · cases hb
  · split at hb
    · rename_i i j hl
      cases hb
      obtain ⟨rfl, _⟩ := rep_int.mp r1
      obtain ⟨rfl, _⟩ := rep_int.mp r2
      exact op_fdiv pins s σ H _ _ v u Q I rx ry ⟨_, _, rfl, rfl, (of_decide_eq_true (p := 0 < j ∧ j < 1073741824) hl), q _ _ _ _ (.int hs)⟩
    · cases hb
  · split at hb
    · rename_i i j hl
      cases hb
      obtain ⟨rfl, _⟩ := rep_int.mp r1
      obtain ⟨rfl, _⟩ := rep_int.mp r2
      exact op_mod pins s σ H _ _ v u Q I rx ry ⟨_, _, rfl, rfl, of_decide_eq_true hl, q _ _ _ _ (.int hs)⟩
    · cases hb
  · split at hb
    · rename_i i j hl
      cases hb
      obtain ⟨rfl, _⟩ := rep_int.mp r1
      obtain ⟨rfl, _⟩ := rep_int.mp r2
      exact op_pow pins s σ H _ _ v u Q I rx ry ⟨_, _, rfl, rfl, (of_decide_eq_true (p := 0 ≤ j ∧ j ≤ 1000000 ∧ i.natAbs < 2 ^ 64) hl), q _ _ _ _ (.int hs)⟩
    · cases hb
  · split at hb
    · rename_i i j hl
      cases hb
      obtain ⟨rfl, _⟩ := rep_int.mp r1
      obtain ⟨rfl, _⟩ := rep_int.mp r2
      exact op_shl pins s σ H _ _ v u Q I rx ry ⟨_, _, rfl, rfl, (of_decide_eq_true (p := 0 ≤ j ∧ j ≤ 1000000 ∧ i.natAbs < 2 ^ 64) hl), q _ _ _ _ (.int hs)⟩
    · cases hb
  · split at hb
    · rename_i i j hl
      cases hb
      obtain ⟨rfl, _⟩ := rep_int.mp r1
      obtain ⟨rfl, _⟩ := rep_int.mp r2
      exact op_shr pins s σ H _ _ v u Q I rx ry ⟨_, _, rfl, rfl, of_decide_eq_true hl, q _ _ _ _ (.int hs)⟩
    · cases hb
  · cases hb
    obtain ⟨rfl, _⟩ := rep_int.mp r1
    obtain ⟨rfl, _⟩ := rep_int.mp r2
    exact op_and pins s σ H _ _ v u Q I rx ry ⟨_, _, rfl, rfl, q _ _ _ _ (.int hs)⟩
  · cases hb
    obtain ⟨rfl, _⟩ := rep_int.mp r1
    obtain ⟨rfl, _⟩ := rep_int.mp r2
    exact op_or pins s σ H _ _ v u Q I rx ry ⟨_, _, rfl, rfl, q _ _ _ _ (.int hs)⟩
  · cases hb
theorem un_ok (o : Un) : UnR X (unaryOp (opU o)) (rG1 S (un o)) := by
  intro pins s σ H x v Q I rx h
  obtain ⟨F, d1, d, P1, hs, r1, hb, q⟩ := h
  unfold un at hb
  split at hb
  · cases hb
    obtain ⟨rfl, _⟩ := rep_int.mp r1
    exact un_neg pins s σ H _ v Q I rx ⟨_, rfl, q _ _ _ _ (.int hs)⟩
  · cases hb
    obtain ⟨rfl, _⟩ := rep_int.mp r1
    exact un_inv pins s σ H _ v Q I rx ⟨_, rfl, q _ _ _ _ (.int hs)⟩
  · cases hb

def rGB (S : Sig) (f : D → D → Option Bool) : R2 := fun x y H Q => ∃ F d1 d2 b P1 P2, Same F H ∧ Rep S F H d1 x P1 ∧ Rep S F H d2 y P2 ∧ f d1 d2 = some b ∧ Q (.bl b) H
theorem plains_shaped {ds : List D} (h : plains ds = true) : PyData.canLayAll0 (toPDs ds) = true ∧ PyData.depthAll (toPDs ds) ≤ 60 ∧ plains0 ds = true := by
  simp only [plains, Bool.and_eq_true, decide_eq_true_eq] at h
  exact ⟨lays_toPD ds h.1, h.2, h.1⟩
theorem plain_plain0 {d : D} (h : plain d = true) : plain0 d = true := by
  simp only [plain, Bool.and_eq_true] at h
  exact h.1
/-! ### dicts -/
theorem isI_of {d : D} (h : isI d = true) : ∃ i, d = .int i := by
  cases d <;> first | exact ⟨_, rfl⟩ | (simp [isI] at h; done)
theorem allI_of : ∀ {ds : List D}, ds.all isI = true → ∃ is : List Int, ds = is.map D.int
  | [], _ => ⟨[], rfl⟩
  | d :: ds, h => by
    simp only [List.all_cons, Bool.and_eq_true] at h
    obtain ⟨i, rfl⟩ := isI_of h.1
    obtain ⟨is, rfl⟩ := allI_of h.2
    exact ⟨i :: is, rfl⟩
theorem eqvAll_ints : ∀ (l m : List Int), PyData.eqvAll (toPDs (l.map D.int)) (toPDs (m.map D.int)) = decide (l = m)
  | [], [] => by simp [toPDs, PySem.PyData.eqvAll]
  | [], _ :: _ => by simp [toPDs, PySem.PyData.eqvAll]
  | _ :: _, [] => by simp [toPDs, PySem.PyData.eqvAll]
  | a :: l, b :: m => by
    simp only [List.map_cons, toPDs, toPD, PySem.PyData.eqvAll, PySem.PyData.eqv, eqvAll_ints l m]
    by_cases h : a = b <;> by_cases h' : l = m <;> simp [h, h']
theorem kI_inj {i j : Int} : (kI (.int i) = kI (.int j)) ↔ i = j := by simp [kI]
theorem kIs_inj : ∀ {l m : List Int}, (l.map D.int).map kI = (m.map D.int).map kI ↔ l = m := by
  intro l m
  rw [List.map_map, List.map_map]
  constructor
  · intro h
    exact (List.map_inj_right (f := kI ∘ D.int) (fun x y e => by simpa [kI] using e)).mp h
  · rintro rfl; rfl
/-- a key of kind t: an int, or a tuple of ints -/
theorem kOk_of {t : Nat} {k : D} (h : kOk t k = true) : (t = 0 ∧ ∃ i, k = .int i) ∨ (t = 1 ∧ ∃ is : List Int, k = .tup (is.map D.int)) := by
  cases k <;> simp only [kOk, Bool.and_eq_true, beq_iff_eq, Bool.false_eq_true] at h
  · exact .inl ⟨h, _, rfl⟩
  · obtain ⟨is, rfl⟩ := allI_of h.2
    exact .inr ⟨h.1, is, rfl⟩
theorem eqD_kI {a b : D} (ha : kOk 0 a = true) (hb : kOk 0 b = true) : eqD a b = decide (kI a = kI b) := by
  rcases kOk_of ha with ⟨_, i, rfl⟩ | ⟨h, _⟩
  · rcases kOk_of hb with ⟨_, j, rfl⟩ | ⟨h, _⟩
    · simp only [eqD, toPD, PySem.PyData.eqv, kI, Sum.inl.injEq]
      by_cases h : i = j <;> simp [h]
    · cases h
  · cases h
theorem eqD_kT {a b : D} (ha : kOk 1 a = true) (hb : kOk 1 b = true) : eqD a b = decide (kT a = kT b) := by
  rcases kOk_of ha with ⟨h, _⟩ | ⟨_, l, rfl⟩
  · cases h
  · rcases kOk_of hb with ⟨h, _⟩ | ⟨_, m, rfl⟩
    · cases h
    · simp only [eqD, toPD, PySem.PyData.eqv, eqvAll_ints, kT, kIs_inj]
theorem eqD_comm_k {t : Nat} {a b : D} (ha : kOk t a = true) (hb : kOk t b = true) : eqD a b = eqD b a := by
  by_cases h0 : t = 0
  · subst h0; rw [eqD_kI ha hb, eqD_kI hb ha]; by_cases h : kI a = kI b
    · rw [h]
    · rw [decide_eq_false h, decide_eq_false (fun e => h e.symm)]
  · have h1 : t = 1 := by rcases kOk_of ha with ⟨h, _⟩ | ⟨h, _⟩; exact absurd h h0; exact h
    subst h1; rw [eqD_kT ha hb, eqD_kT hb ha]; by_cases h : kT a = kT b
    · rw [h]
    · rw [decide_eq_false h, decide_eq_false (fun e => h e.symm)]
/-- what is found in a dict -/
theorem dval_rel {κ : Type} [DecidableEq κ] (ky : D → κ) {t : Nat} (he : ∀ a b, kOk t a = true → kOk t b = true → eqD a b = decide (ky a = ky b)) {kd : D} (hk : kOk t kd = true) : ∀ {ks ds : List D} {vs : List V} {P : Fp}, ks.all (kOk t) = true → ks.length = ds.length → Reps S F H ds vs P →
    (memD kd ks = true ∧ ∃ d v P1, dval ks ds kd = some d ∧ valV ((ks.map ky).zip vs) (ky kd) = some v ∧ Rep S F H d v P1 ∧ ∀ x, P1 x → P x) ∨ (memD kd ks = false ∧ dval ks ds kd = none ∧ valV ((ks.map ky).zip vs) (ky kd) = none)
  | [], ds, vs, P, _, hl, r => .inr ⟨rfl, rfl, rfl⟩
  | k :: ks, [], vs, P, _, hl, r => by simp at hl
  | k :: ks, d :: ds, vs, P, ha, hl, r => by
    simp only [List.all_cons, Bool.and_eq_true] at ha
    simp only [Reps] at r
    obtain ⟨v, vr, P1, P2, rfl, rfl, di, r1, r2⟩ := r
    have e := he k kd ha.1 hk
    by_cases h : ky k = ky kd
    · rw [decide_eq_true h] at e
      exact .inl ⟨by simp [memD, e], d, v, P1, by simp [dval, e], by rw [List.map_cons, List.zip_cons_cons]; exact valV_pos h, r1, fun x hx => .inl hx⟩
    · rw [decide_eq_false h] at e
      have hv : valV (((k :: ks).map ky).zip (v :: vr)) (ky kd) = valV ((ks.map ky).zip vr) (ky kd) := by rw [List.map_cons, List.zip_cons_cons]; exact valV_neg h
      rcases dval_rel ky he hk ha.2 (by simpa using hl) r2 with ⟨h1, d', v', P', h2, h3, h4, h5⟩ | ⟨h1, h2, h3⟩
      · exact .inl ⟨by simpa [memD, e] using h1, d', v', P', by simp [dval, e, h2], by rw [hv, h3], h4, fun x hx => .inr (h5 x hx)⟩
      · exact .inr ⟨by simpa [memD, e] using h1, by simp [dval, e, h2], by rw [hv, h3]⟩
theorem Rep.dic_at {m : Bool} {t : Nat} {ks ds : List D} {v : V} {P : Fp} (hs : Same F H) (h : Rep S F H (.dic m t ks ds) v P) : ∃ a vs P', v = .ref a ∧ ks.all (kOk t) = true ∧ ks.length = ds.length ∧ Rd H a (dO t ks vs) ∧ Reps S F H ds vs P' ∧ ∀ x, P' x → P x := by
  simp only [Rep] at h
  obtain ⟨a, vs, rfl, hk, hl, h⟩ := h
  split at h
  · obtain ⟨ea, pa, P', np, eP, h⟩ := h
    exact ⟨a, vs, P', rfl, hk, hl, .inl ea, h, fun x hx => by rw [eP]; exact .inr hx⟩
  · exact ⟨a, vs, Emp, rfl, hk, hl, Same.rd hs h.2.1, h.2.2, fun x hx => hx.elim⟩
theorem key_at {kd : D} {y : V} {Pk : Fp} (hs : Same F H) (r : Rep S F H kd y Pk) : (kOk 0 kd = true → y = kV (kI kd)) ∧ (kOk 1 kd = true → ∃ b, y = .ref b ∧ H b = some (.tup ((kT kd).map kV))) := by
  refine ⟨fun h => ?_, fun h => ?_⟩
  · rcases kOk_of h with ⟨_, i, rfl⟩ | ⟨h, _⟩
    · simp only [Rep] at r; exact r.1
    · cases h
  · rcases kOk_of h with ⟨h, _⟩ | ⟨_, l, rfl⟩
    · cases h
    · simp only [Rep] at r
      obtain ⟨_, b, vs, rfl, eb, rs⟩ := r
      obtain ⟨rfl, _⟩ := rs.ints
      refine ⟨b, rfl, ?_⟩
      rw [hs _ _ eb]
      simp only [kT, List.map_map]
      congr 2
/-- what a dict's reading finds -/
theorem dget_rep {m : Bool} {t : Nat} {ks ds : List D} {kd : D} {x y : V} {P Pk : Fp} (hs : Same F H) (r : Rep S F H (.dic m t ks ds) x P) (rk : Rep S F H kd y Pk) (hk : kOk t kd = true) :
    ∃ a, x = .ref a ∧ ((memD kd ks = true ∧ ∃ d v P1, dval ks ds kd = some d ∧ DGet H a y (some v) ∧ Rep S F H d v P1 ∧ ∀ z, P1 z → P z) ∨ (memD kd ks = false ∧ dval ks ds kd = none ∧ DGet H a y none)) := by
  obtain ⟨a, vs, P', rfl, ha, hl, hd, rs, sb⟩ := r.dic_at hs
  refine ⟨a, rfl, ?_⟩
  obtain ⟨k0, k1⟩ := key_at hs rk
  rcases kOk_of hk with ⟨rfl, _⟩ | ⟨rfl, _⟩
  · have ey := k0 hk
    subst ey
    simp only [dO, if_true] at hd
    rcases dval_rel kI (fun a b => eqD_kI) hk ha hl rs with ⟨h1, d, v, P1, h2, h3, h4, h5⟩ | ⟨h1, h2, h3⟩
    · exact .inl ⟨h1, d, v, P1, h2, .inl ⟨_, _, hd, rfl, h3.symm⟩, h4, fun z hz => sb z (h5 z hz)⟩
    · exact .inr ⟨h1, h2, .inl ⟨_, _, hd, rfl, h3.symm⟩⟩
  · obtain ⟨b, rfl, eb⟩ := k1 hk
    rw [dO, if_neg (by decide)] at hd
    rcases dval_rel kT (fun a b => eqD_kT) hk ha hl rs with ⟨h1, d, v, P1, h2, h3, h4, h5⟩ | ⟨h1, h2, h3⟩
    · exact .inl ⟨h1, d, v, P1, h2, .inr ⟨_, _, b, hd, rfl, eb, h3.symm⟩, h4, fun z hz => sb z (h5 z hz)⟩
    · exact .inr ⟨h1, h2, .inr ⟨_, _, b, hd, rfl, eb, h3.symm⟩⟩
theorem memD_eq (x : D) (ys : List D) : memD x ys = (toPDs ys).any fun z => PyData.eqv z (toPD x) := by
  unfold memD eqD
  rw [toPDs_map, List.any_map]
  rfl
theorem in_ok (hK : S.K = X.K) (hu : X.A.units + 65 < cLine) : OpR X (compareOp .In) (rGB S (cmp .inn)) := by
  intro pins s σ H x y v u Q I rx ry h
  obtain ⟨F, d1, d2, b, P1, P2, hs, r1, r2, hb, q⟩ := h
  by_cases hd : ∃ m t ks ds, d2 = .dic m t ks ds
  · obtain ⟨m, t, ks, ds, rfl⟩ := hd
    simp only [cmp] at hb
    split at hb
    · rename_i hk
      cases hb
      obtain ⟨a, rfl, h⟩ := dget_rep hs r2 r1 hk
      obtain rfl : u = Value.ref a := ry
      rcases h with ⟨h1, d, v, P1', h2, h3, _⟩ | ⟨h1, h2, h3⟩
      · exact d_in (by omega) I h3 rx fun s' I' => ⟨.bl _, H, I', rfl, by rw [h1] at q; exact q⟩
      · exact d_in (by omega) I h3 rx fun s' I' => ⟨.bl _, H, I', rfl, by rw [h1] at q; exact q⟩
    · cases hb
  have hb : ((itemsOf d2).bind fun ds => if (plain d1 && plains ds) = true then some (memD d1 ds) else none) = some b := by
    cases d2 <;> first | exact hb | exact absurd ⟨_, _, _, _, rfl⟩ hd
  simp only [Option.bind_eq_some_iff] at hb
  obtain ⟨ds, h1, h2⟩ := hb
  split at h2
  · rename_i hp
    cases h2
    simp only [Bool.and_eq_true] at hp
    obtain ⟨l1, l2, l3⟩ := plains_shaped hp.2
    obtain ⟨as, R1⟩ := Dp.reads I _ _ _ (by have := r1.dp hs d1 (plain_plain0 hp.1); rwa [hK] at this) rx
    cases d2 <;> simp only [itemsOf, Option.some.injEq, reduceCtorEq] at h1
    · subst h1
      obtain ⟨bs, R2⟩ := Dp.reads I _ _ _ (by have := r2.dp hs _ (by simp only [plain0]; exact l3); rwa [hK] at this) ry
      simp only [toPD] at R2
      exact SeqAt.in_tuple_reads R2 R1 l1 (lay_toPD d1 (plain_plain0 hp.1)) (PyProof.Rows.room_in_shaped (shaped_of hp.1) hu) ⟨.bl _, H, I, rfl, by rw [← memD_eq]; exact q⟩
    · subst h1
      obtain ⟨bs, R2⟩ := Dp.reads I _ _ _ (by have := r2.dp hs _ (by simp only [plain0]; exact l3); rwa [hK] at this) ry
      simp only [toPD] at R2
      exact SeqAt.in_list_reads R2 R1 l1 (lay_toPD d1 (plain_plain0 hp.1)) (PyProof.Rows.room_in_shaped (shaped_of hp.1) hu) ⟨.bl _, H, I, rfl, by rw [← memD_eq]; exact q⟩
  · cases h2
theorem nin_ok (hK : S.K = X.K) (hu : X.A.units + 65 < cLine) : OpR X (compareOp .NotIn) (rGB S (cmp .nin)) := by
  intro pins s σ H x y v u Q I rx ry h
  obtain ⟨F, d1, d2, b, P1, P2, hs, r1, r2, hb, q⟩ := h
  by_cases hd : ∃ m t ks ds, d2 = .dic m t ks ds
  · obtain ⟨m, t, ks, ds, rfl⟩ := hd
    simp only [cmp] at hb
    split at hb
    · rename_i hk
      cases hb
      obtain ⟨a, rfl, h⟩ := dget_rep hs r2 r1 hk
      obtain rfl : u = Value.ref a := ry
      rcases h with ⟨h1, d, v, P1', h2, h3, _⟩ | ⟨h1, h2, h3⟩
      · exact d_notIn (by omega) I h3 rx fun s' I' => ⟨.bl _, H, I', rfl, by rw [h1] at q; exact q⟩
      · exact d_notIn (by omega) I h3 rx fun s' I' => ⟨.bl _, H, I', rfl, by rw [h1] at q; exact q⟩
    · cases hb
  have hb : ((itemsOf d2).bind fun ds => if (plain d1 && plains ds) = true then some (!memD d1 ds) else none) = some b := by
    cases d2 <;> first | exact hb | exact absurd ⟨_, _, _, _, rfl⟩ hd
  simp only [Option.bind_eq_some_iff] at hb
  obtain ⟨ds, h1, h2⟩ := hb
  split at h2
  · rename_i hp
    cases h2
    simp only [Bool.and_eq_true] at hp
    obtain ⟨l1, l2, l3⟩ := plains_shaped hp.2
    obtain ⟨as, R1⟩ := Dp.reads I _ _ _ (by have := r1.dp hs d1 (plain_plain0 hp.1); rwa [hK] at this) rx
    cases d2 <;> simp only [itemsOf, Option.some.injEq, reduceCtorEq] at h1
    · subst h1
      obtain ⟨bs, R2⟩ := Dp.reads I _ _ _ (by have := r2.dp hs _ (by simp only [plain0]; exact l3); rwa [hK] at this) ry
      simp only [toPD] at R2
      exact SeqAt.notIn_tuple_reads R2 R1 l1 (lay_toPD d1 (plain_plain0 hp.1)) (PyProof.Rows.room_in_shaped (shaped_of hp.1) hu) ⟨.bl _, H, I, rfl, by rw [← memD_eq]; exact q⟩
    · subst h1
      obtain ⟨bs, R2⟩ := Dp.reads I _ _ _ (by have := r2.dp hs _ (by simp only [plain0]; exact l3); rwa [hK] at this) ry
      simp only [toPD] at R2
      exact SeqAt.notIn_list_reads R2 R1 l1 (lay_toPD d1 (plain_plain0 hp.1)) (PyProof.Rows.room_in_shaped (shaped_of hp.1) hu) ⟨.bl _, H, I, rfl, by rw [← memD_eq]; exact q⟩
  · cases h2

theorem eq_ok (hK : S.K = X.K) (hu : X.A.units + 64 < cLine) : OpR X (compareOp .Eq) (rGB S (cmp .eq)) := by
  intro pins s σ H x y v u Q I rx ry h
  obtain ⟨F, d1, d2, b, P1, P2, hs, r1, r2, hb, q⟩ := h
  simp only [cmp] at hb
  split at hb
  · rename_i hp
    cases hb
    simp only [Bool.and_eq_true] at hp
    have e1 := r1.dp hs d1 (plain_plain0 hp.1)
    have e2 := r2.dp hs d2 (plain_plain0 hp.2)
    rw [hK] at e1 e2
    exact op_eqD hu pins s σ H x y v u Q I rx ry ⟨_, _, e1, e2, shaped_of hp.1, shaped_of hp.2, q⟩
  · cases hb
theorem ne_ok (hK : S.K = X.K) (hu : X.A.units + 64 < cLine) : OpR X (compareOp .NotEq) (rGB S (cmp .ne)) := by
  intro pins s σ H x y v u Q I rx ry h
  obtain ⟨F, d1, d2, b, P1, P2, hs, r1, r2, hb, q⟩ := h
  simp only [cmp] at hb
  split at hb
  · rename_i hp
    cases hb
    simp only [Bool.and_eq_true] at hp
    have e1 := r1.dp hs d1 (plain_plain0 hp.1)
    have e2 := r2.dp hs d2 (plain_plain0 hp.2)
    rw [hK] at e1 e2
    exact op_neD hu pins s σ H x y v u Q I rx ry ⟨_, _, e1, e2, shaped_of hp.1, shaped_of hp.2, q⟩
  · cases hb
theorem lt_ok (hu : X.A.units < cLine) : OpR X (compareOp .Lt) (rGB S (cmp .lt)) := by
  intro pins s σ H x y v u Q I rx ry h
  obtain ⟨F, d1, d2, b, P1, P2, hs, r1, r2, hb, q⟩ := h
  simp only [cmp] at hb
  split at hb
  · cases hb
    obtain ⟨rfl, _⟩ := rep_int.mp r1
    obtain ⟨rfl, _⟩ := rep_int.mp r2
    exact op_lt pins s σ H _ _ v u Q I rx ry ⟨_, _, rfl, rfl, q⟩
  · simp only [Option.bind_eq_some_iff, Option.map_eq_some_iff] at hb
    obtain ⟨is, h1, js, h2, rfl⟩ := hb
    have e1 := intsOf_eq h1
    have e2 := intsOf_eq h2
    subst e1 e2
    obtain ⟨_, a, vs, rfl, ea, g1⟩ := rep_tup.mp r1
    obtain ⟨_, b, ws, rfl, eb, g2⟩ := rep_tup.mp r2
    obtain ⟨rfl, _⟩ := g1.ints
    obtain ⟨rfl, _⟩ := g2.ints
    exact op_ltT hu pins s σ H _ _ v u Q I rx ry ⟨a, b, is, js, rfl, rfl, SqT.of (hs _ _ ea), SqT.of (hs _ _ eb), q⟩
  · cases hb
theorem le_ok : OpR X (compareOp .LtE) (rGB S (cmp .le)) := by
  intro pins s σ H x y v u Q I rx ry h
  obtain ⟨F, d1, d2, b, P1, P2, hs, r1, r2, hb, q⟩ := h
  simp only [cmp] at hb
  split at hb
  · cases hb
    obtain ⟨rfl, _⟩ := rep_int.mp r1
    obtain ⟨rfl, _⟩ := rep_int.mp r2
    exact op_le pins s σ H _ _ v u Q I rx ry ⟨_, _, rfl, rfl, q⟩
  · cases hb
theorem gt_ok : OpR X (compareOp .Gt) (rGB S (cmp .gt)) := by
  intro pins s σ H x y v u Q I rx ry h
  obtain ⟨F, d1, d2, b, P1, P2, hs, r1, r2, hb, q⟩ := h
  simp only [cmp] at hb
  split at hb
  · cases hb
    obtain ⟨rfl, _⟩ := rep_int.mp r1
    obtain ⟨rfl, _⟩ := rep_int.mp r2
    exact op_gt pins s σ H _ _ v u Q I rx ry ⟨_, _, rfl, rfl, q⟩
  · cases hb
theorem ge_ok : OpR X (compareOp .GtE) (rGB S (cmp .ge)) := by
  intro pins s σ H x y v u Q I rx ry h
  obtain ⟨F, d1, d2, b, P1, P2, hs, r1, r2, hb, q⟩ := h
  simp only [cmp] at hb
  split at hb
  · cases hb
    obtain ⟨rfl, _⟩ := rep_int.mp r1
    obtain ⟨rfl, _⟩ := rep_int.mp r2
    exact op_ge pins s σ H _ _ v u Q I rx ry ⟨_, _, rfl, rfl, q⟩
  · cases hb
theorem cmp_ok (hK : S.K = X.K) (hu : X.A.units + 65 < cLine) : ∀ c : Cmp, OpR X (compareOp (opC c)) (rGB S (cmp c))
  | .eq => eq_ok hK (by omega)
  | .ne => ne_ok hK (by omega)
  | .lt => lt_ok (by omega)
  | .le => le_ok
  | .gt => gt_ok
  | .ge => ge_ok
  | .inn => in_ok hK hu
  | .nin => nin_ok hK hu

/-! ### subscripts, slices -/
theorem atI_rep {ds : List D} {vs : List V} {P : Fp} {k : Int} {d : D} (h : Reps S F H ds vs P) (e : atI ds k = some d) : ∃ v P1, atI vs k = some v ∧ Rep S F H d v P1 ∧ ∀ x, P1 x → P x := by
  unfold atI at e ⊢
  simp only [Option.bind_eq_some_iff] at e
  obtain ⟨j, e1, e2⟩ := e
  rw [Reps.len h, e1]
  have go : ∀ {ds : List D} {vs : List V} {P : Fp} {j : Nat}, Reps S F H ds vs P → ds[j]? = some d → ∃ v P1, vs[j]? = some v ∧ Rep S F H d v P1 ∧ ∀ x, P1 x → P x := by
    intro ds
    induction ds with
    | nil => intro vs P j _ e; simp at e
    | cons d0 ds ih =>
      intro vs P j h e
      simp only [Reps] at h
      obtain ⟨v, r, P1, P2, rfl, eP, _, h1, h2⟩ := h
      cases j with
      | zero => simp at e; subst e; exact ⟨v, P1, rfl, h1, fun x hx => by rw [eP]; exact .inl hx⟩
      | succ j =>
        obtain ⟨v', P', e', r', s'⟩ := ih h2 (by simpa using e)
        exact ⟨v', P', by simpa using e', r', fun x hx => by rw [eP]; exact .inr (s' x hx)⟩
  obtain ⟨v, P1, e3, r, s⟩ := go h e2
  exact ⟨v, P1, by simpa using e3, r, s⟩
/-- what an item is: within the whole, or new -/
def rIx (S : Sig) : R2 := fun x y H Q => ∃ F d1 d P1 k, Same F H ∧ Rep S F H d1 x P1 ∧ y = .int k ∧ getIx d1 k = some d ∧ ∀ v Pd, Rep S F H d v Pd → (∀ x, Pd x → P1 x) → Q v H
theorem ix_ok (hK : S.K = X.K) : IxR X (Ab.rIx S) := by
  intro value slice pins s σ H x y v u Q I rx ry h hpl
  obtain ⟨F, d1, d, P1, k, hs, r1, rfl, hb, q⟩ := h
  unfold getIx at hb
  split at hb
  · rename_i m ds
    simp only [Rep] at r1
    obtain ⟨a, vs, rfl, r1⟩ := r1
    split at r1
    · obtain ⟨ea, _, P', _, eP, h1⟩ := r1
      obtain ⟨w, Pw, e2, r, sb⟩ := atI_rep h1 hb
      exact ix_list value slice pins s σ H _ _ v u Q I rx ry ⟨a, vs, k, w, rfl, rfl, SqL.of ea, e2, q _ _ r fun x hx => by rw [eP]; exact .inr (sb x hx)⟩ hpl
    · obtain ⟨eP, ea, h1⟩ := r1
      obtain ⟨w, Pw, e2, r, sb⟩ := atI_rep h1 hb
      exact ix_list value slice pins s σ H _ _ v u Q I rx ry ⟨a, vs, k, w, rfl, rfl, SqL.of (hs _ _ ea), e2, q _ _ r fun x hx => (sb x hx).elim⟩ hpl
  · rename_i ds
    obtain ⟨_, a, vs, rfl, ea, h1⟩ := rep_tup.mp r1
    obtain ⟨w, Pw, e2, r, sb⟩ := atI_rep h1 hb
    exact ix_tup value slice pins s σ H _ _ v u Q I rx ry ⟨a, vs, k, w, rfl, rfl, SqT.of (hs _ _ ea), e2, q _ _ r fun x hx => (sb x hx).elim⟩ hpl
  · rename_i is
    simp only [Rep] at r1
    obtain ⟨_, a, rfl, hq⟩ := r1
    simp only [Option.map_eq_some_iff] at hb
    obtain ⟨i, e1, rfl⟩ := hb
    refine ix_list value slice pins s σ H _ _ v u Q I rx ry ⟨a, is.map V.int, k, .int i, rfl, rfl, by rw [← hK]; exact hs.seq hq, ?_, q _ Emp (rep_int.mpr ⟨rfl, rfl⟩) fun x hx => hx.elim⟩ hpl
    unfold atI at e1 ⊢
    simp only [Option.bind_eq_some_iff] at e1 ⊢
    obtain ⟨j, e1, e2⟩ := e1
    exact ⟨j, by rw [List.length_map]; exact e1, by rw [List.getElem?_map, e2]; rfl⟩
  · split at hb
    · rename_i z hz
      simp only [Option.map_eq_some_iff] at hb
      obtain ⟨c, e1, rfl⟩ := hb
      obtain ⟨rfl, _⟩ := rep_str.mp r1
      exact ix_str value slice pins s σ H _ _ v u Q I rx ry ⟨z, k, c, rfl, rfl, hz, e1, q _ Emp (rep_str.mpr ⟨rfl, rfl⟩) fun x hx => hx.elim⟩ hpl
    · cases hb
  · cases hb
def rSlG (S : Sig) : V → Option Int → Option Int → Hp → VK → Prop := fun x lo hi H Q => ∃ F d1 d P1, Same F H ∧ Rep S F H d1 x P1 ∧ cutD d1 lo hi = some d ∧ ∀ v F' H' Pd, New S F H d v F' H' Pd → Q v H'
theorem sl_ok : SlR X (rSlG S) := by
  have hL : SlR X (rSlL X.K) := sl_list
  have hT : SlR X (rSlA X.K) := sl_tupA
  intro pins s σ H x v vl vu lo hi sl Q I rx hs' pl pu h
  obtain ⟨F, d1, d, P1, hs, r1, hb, q⟩ := h
  unfold cutD at hb
  split at hb
  · split at hb
    · rename_i m ds hst
      cases hb
      obtain ⟨a, vs, P', rfl, ea, h1⟩ := r1.lst_at hs
      rw [Reps.still ds h1 hst] at h1
      exact hL pins s σ H _ v vl vu lo hi sl Q I rx hs' pl pu ⟨a, vs, rfl, SqL.of ea, fun p hp => q _ _ _ _ (.lst hs (h1.cutV lo hi) hp)⟩
    · cases hb
  · rename_i ds
    cases hb
    obtain ⟨_, a, vs, rfl, ea, h1⟩ := rep_tup.mp r1
    refine hT pins s σ H _ v vl vu lo hi sl Q I rx hs' pl pu ⟨a, vs, rfl, SqT.of (hs _ _ ea), fun e => ?_, fun _ p hp => q _ _ _ _ (.tup hs (h1.cutV lo hi) hp)⟩
    have e0 : cut ds lo hi = ds := by
      rw [Reps.len h1] at e
      unfold cut Ab.sIx
      rw [e.1, e.2]
      simp
    rw [e0] at q
    exact q _ _ _ _ (.flat hs (rep_tup.mpr ⟨rfl, a, vs, rfl, ea, h1⟩))
  · cases hb
end
end Ab
namespace Ab
open PySem L2

def rC1 (S : Sig) (f : D → Option D) : List V → Hp → VK → Prop := fun xs H Q => ∃ x F d1 d P1, xs = [x] ∧ Same F H ∧ Rep S F H d1 x P1 ∧ f d1 = some d ∧ ∀ v F' H' Pd, New S F H d v F' H' Pd → Q v H'
def rC2 (S : Sig) (f : D → D → Option D) : List V → Hp → VK → Prop := fun xs H Q => ∃ x y F d1 d2 d P1 P2, xs = [x, y] ∧ Same F H ∧ Rep S F H d1 x P1 ∧ Rep S F H d2 y P2 ∧ f d1 d2 = some d ∧ ∀ v F' H' Pd, New S F H d v F' H' Pd → Q v H'
section
variable {X : Cx} {S : Sig} {F H : Hp}
/-- a sequence that is read -/
theorem items_at {d : D} {ds : List D} {v : V} {P : Fp} (hs : Same F H) (r : Rep S F H d v P) (e : itemsOf d = some ds) :
    (∃ m, d = .lst m ds ∧ ∃ a vs P', v = .ref a ∧ H a = some (.lst vs) ∧ Reps S F H ds vs P') ∨ (d = .tup ds ∧ ∃ a vs, v = .ref a ∧ F a = some (.tup vs) ∧ Reps S F H ds vs Emp) := by
  cases d <;> simp only [itemsOf, Option.some.injEq, reduceCtorEq] at e
  · subst e
    obtain ⟨_, a, vs, rfl, ea, h⟩ := rep_tup.mp r
    exact .inr ⟨rfl, a, vs, rfl, ea, h⟩
  · subst e
    obtain ⟨a, vs, P', rfl, ea, h⟩ := r.lst_at hs
    exact .inl ⟨_, rfl, a, vs, P', rfl, ea, h⟩
theorem len_ok (hK : S.K = X.K) : CallR X (.builtin "len") (rC1 S (bi1 .len)) := by
  intro pins s σ H xs us Q I r h
  obtain ⟨x, F, d1, d, P1, rfl, hs, r1, hb, q⟩ := h
  cases d1 <;> simp only [bi1, Option.some.injEq, reduceCtorEq] at hb
  · rename_i z
    split at hb
    · rename_i hz
      cases hb
      obtain ⟨rfl, _⟩ := rep_str.mp r1
      exact call_len pins s σ H _ us Q I r ⟨_, _, rfl, ⟨hz, rfl⟩, q _ _ _ _ (.int hs)⟩
    · cases hb
  · subst hb
    obtain ⟨_, a, vs, rfl, ea, h⟩ := rep_tup.mp r1
    exact call_len pins s σ H _ us Q I r ⟨_, _, rfl, .inr ⟨vs, SqT.of (hs _ _ ea), by rw [Reps.len h]⟩, q _ _ _ _ (.int hs)⟩
  · subst hb
    obtain ⟨a, vs, P', rfl, ea, h⟩ := r1.lst_at hs
    exact call_len pins s σ H _ us Q I r ⟨_, _, rfl, .inl ⟨vs, SqL.of ea, by rw [Reps.len h]⟩, q _ _ _ _ (.int hs)⟩
  · subst hb
    simp only [Rep] at r1
    obtain ⟨_, a, rfl, hq⟩ := r1
    exact call_len pins s σ H _ us Q I r ⟨_, _, rfl, .inl ⟨_, by rw [← hK]; exact hs.seq hq, by rw [List.length_map]⟩, q _ _ _ _ (.int hs)⟩
theorem list_ok (hK : S.K = X.K) : CallR X (.type "list") (rC1 S (bi1 .list)) := by
  intro pins s σ H xs us Q I r h
  obtain ⟨x, F, d1, d, P1, rfl, hs, r1, hb, q⟩ := h
  have gen : ∀ ds, itemsOf d1 = some ds → (if stills ds = true then some (D.lst true ds) else none) = some d → wpAny (model X.prog X.w) X.A (call (.type "list") us) (EP X pins σ Q) X.xe s := fun ds e hb => by
    split at hb
    · rename_i hst
      cases hb
      rcases items_at hs r1 e with ⟨m, rfl, a, vs, P', rfl, ea, h⟩ | ⟨rfl, a, vs, rfl, ea, h⟩
      · rw [Reps.still ds h hst] at h
        exact call_list_of pins s σ H _ us Q I r ⟨a, vs, rfl, .inl (SqL.of ea), fun p hp => q _ _ _ _ (.lst hs h hp)⟩
      · exact call_list_of pins s σ H _ us Q I r ⟨a, vs, rfl, .inr (SqT.of (hs _ _ ea)), fun p hp => q _ _ _ _ (.lst hs h hp)⟩
    · cases hb
  cases d1
  all_goals try (simp only [bi1, itemsOf, Option.bind_none, reduceCtorEq] at hb; done)
  · exact gen _ rfl (by simpa [bi1, itemsOf] using hb)
  · exact gen _ rfl (by simpa [bi1, itemsOf] using hb)
  · simp only [bi1, Option.some.injEq] at hb
    subst hb
    simp only [Rep] at r1
    obtain ⟨_, a, rfl, hq⟩ := r1
    exact call_list_of pins s σ H _ us Q I r ⟨a, _, rfl, .inl (by rw [← hK]; exact hs.seq hq), fun p hp => q _ _ _ _ (.lst hs (Reps.ofInts _) hp)⟩
theorem tuple_ok (hK : S.K = X.K) : CallR X (.type "tuple") (rC1 S (bi1 .tuple)) := by
  intro pins s σ H xs us Q I r h
  obtain ⟨x, F, d1, d, P1, rfl, hs, r1, hb, q⟩ := h
  simp only [bi1, Option.bind_eq_some_iff] at hb
  obtain ⟨ds, e, hb⟩ := hb
  split at hb
  · rename_i hst
    cases hb
    rcases items_at hs r1 e with ⟨m, rfl, a, vs, P', rfl, ea, h⟩ | ⟨rfl, a, vs, rfl, ea, h⟩
    · rw [Reps.still ds h hst] at h
      exact call_tuple_of pins s σ H _ us Q I r ⟨a, vs, rfl, .inl ⟨SqL.of ea, fun p hp => q _ _ _ _ (.tup hs h hp)⟩⟩
    · exact call_tuple_of pins s σ H _ us Q I r ⟨a, vs, rfl, .inr ⟨SqT.of (hs _ _ ea), q _ _ _ _ (.flat hs (rep_tup.mpr ⟨rfl, a, vs, rfl, ea, h⟩))⟩⟩
  · cases hb
theorem int_ok : CallR X (.type "int") (rC1 S (bi1 .int)) := by
  intro pins s σ H xs us Q I r h
  obtain ⟨x, F, d1, d, P1, rfl, hs, r1, hb, q⟩ := h
  cases d1 <;> simp only [bi1, Option.some.injEq, reduceCtorEq] at hb
  · subst hb
    obtain ⟨rfl, _⟩ := rep_bl.mp r1
    exact call_int1 pins s σ H _ us Q I r (.inr ⟨_, rfl, q _ _ _ _ (.int hs)⟩)
  · subst hb
    obtain ⟨rfl, _⟩ := rep_int.mp r1
    exact call_int1 pins s σ H _ us Q I r (.inl ⟨_, rfl, q _ _ _ _ (.int hs)⟩)
theorem abs_ok : CallR X (.builtin "abs") (rC1 S (bi1 .abs)) := by
  intro pins s σ H xs us Q I r h
  obtain ⟨x, F, d1, d, P1, rfl, hs, r1, hb, q⟩ := h
  cases d1 <;> simp only [bi1, Option.some.injEq, reduceCtorEq] at hb
  subst hb
  obtain ⟨rfl, _⟩ := rep_int.mp r1
  exact call_abs pins s σ H _ us Q I r ⟨_, rfl, q _ _ _ _ (.int hs)⟩
theorem lst_ints {m : Bool} {ds : List D} {is : List Int} {v : V} {P : Fp} (hs : Same F H) (r : Rep S F H (.lst m ds) v P) (e : intsOf ds = some is) : ∃ a, v = .ref a ∧ H a = some (.lst (is.map V.int)) := by
  obtain ⟨a, vs, P', rfl, ea, h⟩ := r.lst_at hs
  rw [intsOf_eq e] at h
  obtain ⟨rfl, _⟩ := h.ints
  exact ⟨a, rfl, ea⟩
theorem sum_ok (hc : X.calm = true) : CallR X (.builtin "sum") (rC1 S (bi1 .sum)) := by
  intro pins s σ H xs us Q I r h
  obtain ⟨x, F, d1, d, P1, rfl, hs, r1, hb, q⟩ := h
  cases d1 <;> simp only [bi1, Option.map_eq_some_iff, reduceCtorEq] at hb
  obtain ⟨is, e, rfl⟩ := hb
  obtain ⟨a, rfl, ea⟩ := lst_ints hs r1 e
  exact cr_sum hc pins s σ H _ us Q I r ⟨a, is, rfl, SqL.of ea, q _ _ _ _ (.int hs)⟩
theorem fold_max : ∀ (xs : List Int) (x : Int), x ≤ xs.foldl (fun m y => if m < y then y else m) x ∧ (∀ y ∈ xs, y ≤ xs.foldl (fun m y => if m < y then y else m) x) ∧ (xs.foldl (fun m y => if m < y then y else m) x = x ∨ xs.foldl (fun m y => if m < y then y else m) x ∈ xs)
  | [], x => ⟨Int.le_refl _, fun y h => by simp at h, .inl rfl⟩
  | z :: xs, x => by
    simp only [List.foldl_cons]
    obtain ⟨h1, h2, h3⟩ := fold_max xs (if x < z then z else x)
    have e1 : x ≤ (if x < z then z else x) := by split <;> omega
    have e2 : z ≤ (if x < z then z else x) := by split <;> omega
    refine ⟨Int.le_trans e1 h1, fun y hy => ?_, ?_⟩
    · rcases List.mem_cons.mp hy with rfl | hy
      · exact Int.le_trans e2 h1
      · exact h2 y hy
    · rcases h3 with h3 | h3
      · rw [h3]; split
        · exact .inr List.mem_cons_self
        · exact .inl rfl
      · exact .inr (List.mem_cons_of_mem _ h3)
theorem fold_min : ∀ (xs : List Int) (x : Int), xs.foldl (fun m y => if y < m then y else m) x ≤ x ∧ (∀ y ∈ xs, xs.foldl (fun m y => if y < m then y else m) x ≤ y) ∧ (xs.foldl (fun m y => if y < m then y else m) x = x ∨ xs.foldl (fun m y => if y < m then y else m) x ∈ xs)
  | [], x => ⟨Int.le_refl _, fun y h => by simp at h, .inl rfl⟩
  | z :: xs, x => by
    simp only [List.foldl_cons]
    obtain ⟨h1, h2, h3⟩ := fold_min xs (if z < x then z else x)
    have e1 : (if z < x then z else x) ≤ x := by split <;> omega
    have e2 : (if z < x then z else x) ≤ z := by split <;> omega
    refine ⟨Int.le_trans h1 e1, fun y hy => ?_, ?_⟩
    · rcases List.mem_cons.mp hy with rfl | hy
      · exact Int.le_trans h1 e2
      · exact h2 y hy
    · rcases h3 with h3 | h3
      · rw [h3]; split
        · exact .inr List.mem_cons_self
        · exact .inl rfl
      · exact .inr (List.mem_cons_of_mem _ h3)
theorem max_ok (hc : X.calm = true) : CallR X (.builtin "max") (rC1 S (bi1 .max)) := by
  intro pins s σ H xs us Q I r h
  obtain ⟨x, F, d1, d, P1, rfl, hs, r1, hb, q⟩ := h
  cases d1 <;> simp only [bi1, Option.bind_eq_some_iff, Option.map_eq_some_iff, reduceCtorEq] at hb
  obtain ⟨is, e, m, hm, rfl⟩ := hb
  obtain ⟨a, rfl, ea⟩ := lst_ints hs r1 e
  cases is with
  | nil => simp [maxI] at hm
  | cons i is =>
    simp only [maxI, Option.some.injEq] at hm
    obtain ⟨h1, h2, h3⟩ := fold_max is i
    rw [hm] at h1 h2 h3
    refine cr_max hc pins s σ H _ us Q I r ⟨a, i :: is, rfl, SqL.of ea, by simp, fun n hn hle => ?_⟩
    have hmn : m ≤ n := by
      rcases h3 with rfl | h3
      · exact hle _ List.mem_cons_self
      · exact hle _ (List.mem_cons_of_mem _ h3)
    have hnm : n ≤ m := by
      rcases List.mem_cons.mp hn with rfl | hn
      · exact h1
      · exact h2 _ hn
    have e : n = m := by omega
    rw [e]
    exact q _ _ _ _ (.int hs)
theorem min_ok (hc : X.calm = true) : CallR X (.builtin "min") (rC1 S (bi1 .min)) := by
  intro pins s σ H xs us Q I r h
  obtain ⟨x, F, d1, d, P1, rfl, hs, r1, hb, q⟩ := h
  cases d1 <;> simp only [bi1, Option.bind_eq_some_iff, Option.map_eq_some_iff, reduceCtorEq] at hb
  obtain ⟨is, e, m, hm, rfl⟩ := hb
  obtain ⟨a, rfl, ea⟩ := lst_ints hs r1 e
  cases is with
  | nil => simp [minI] at hm
  | cons i is =>
    simp only [minI, Option.some.injEq] at hm
    obtain ⟨h1, h2, h3⟩ := fold_min is i
    rw [hm] at h1 h2 h3
    refine cr_min hc pins s σ H _ us Q I r ⟨a, i :: is, rfl, SqL.of ea, by simp, fun n hn hle => ?_⟩
    have hmn : n ≤ m := by
      rcases h3 with rfl | h3
      · exact hle _ List.mem_cons_self
      · exact hle _ (List.mem_cons_of_mem _ h3)
    have hnm : m ≤ n := by
      rcases List.mem_cons.mp hn with rfl | hn
      · exact h1
      · exact h2 _ hn
    have e : n = m := by omega
    rw [e]
    exact q _ _ _ _ (.int hs)
theorem max2_ok (hc : X.calm = true) : CallR X (.builtin "max") (rC2 S (bi2 .max)) := by
  intro pins s σ H xs us Q I r h
  obtain ⟨x, y, F, d1, d2, d, P1, P2, rfl, hs, r1, r2, hb, q⟩ := h
  cases d1 <;> cases d2 <;> simp only [bi2, Option.some.injEq, reduceCtorEq] at hb
  subst hb
  obtain ⟨rfl, _⟩ := rep_int.mp r1
  obtain ⟨rfl, _⟩ := rep_int.mp r2
  exact call_max2 hc pins s σ H _ us Q I r ⟨_, _, rfl, q _ _ _ _ (.int hs)⟩
theorem min2_ok (hc : X.calm = true) : CallR X (.builtin "min") (rC2 S (bi2 .min)) := by
  intro pins s σ H xs us Q I r h
  obtain ⟨x, y, F, d1, d2, d, P1, P2, rfl, hs, r1, r2, hb, q⟩ := h
  cases d1 <;> cases d2 <;> simp only [bi2, Option.some.injEq, reduceCtorEq] at hb
  subst hb
  obtain ⟨rfl, _⟩ := rep_int.mp r1
  obtain ⟨rfl, _⟩ := rep_int.mp r2
  exact call_min2 hc pins s σ H _ us Q I r ⟨_, _, rfl, q _ _ _ _ (.int hs)⟩
/-! ### isinstance -/
def tyName : Ty → String
  | .int => "int" | .bool => "bool" | .list => "list" | .tuple => "tuple" | .str => "str"
def rIsT (S : Sig) (t : Ty) : List V → Hp → VK → Prop := fun xs H Q => ∃ x F d P b, xs = [x, .ty (tyName t)] ∧ Same F H ∧ Rep S F H d x P ∧ isTy t d = some b ∧ Q (.bl b) H
theorem isi_ok (t : Ty) : CallR X (.builtin "isinstance") (rIsT S t) := by
  intro pins s σ H xs us Q I r h
  obtain ⟨x, F, d, P, b, rfl, hs, r1, hb, q⟩ := h
  have go : ∀ n : String, TyOf X.K H x (.type n) → kitB n (tyName t) = some b → wpAny (model X.prog X.w) X.A (call (.builtin "isinstance") us) (EP X pins σ Q) X.xe s := fun n ty e =>
    call_isi pins s σ H _ us Q I r ⟨x, _, .type n, .type (tyName t), b, rfl, .ty _, .base ty, kit_ty e, q⟩
  cases d <;> simp only [isTy, Option.some.injEq, reduceCtorEq] at hb
  · obtain ⟨rfl, _⟩ := rep_non.mp r1
    subst hb
    exact go "NoneType" .non (by cases t <;> decide +kernel)
  · obtain ⟨rfl, _⟩ := rep_bl.mp r1
    subst hb
    exact go "bool" (.bl _) (by cases t <;> decide +kernel)
  · obtain ⟨rfl, _⟩ := rep_int.mp r1
    subst hb
    exact go "int" (.int _) (by cases t <;> decide +kernel)
  · obtain ⟨rfl, _⟩ := rep_str.mp r1
    subst hb
    exact go "str" (.str _) (by cases t <;> decide +kernel)
  · obtain ⟨_, a, vs, rfl, ea, h⟩ := rep_tup.mp r1
    subst hb
    exact go "tuple" (.tup (hs _ _ ea)) (by cases t <;> decide +kernel)
  · obtain ⟨a, vs, P', rfl, ea, h⟩ := r1.lst_at hs
    subst hb
    exact go "list" (.lst ea) (by cases t <;> decide +kernel)
end
end Ab
namespace Ab
open PySem L2
variable {S : Sig} {Z : L2.St → Nat → Hp → Prop} {F F' H H' : Hp} {P : Fp} {σ : L2.St} {a a' : SA}

theorem Ext.eqP {F F' H H' : Hp} {P P1 P2 : Fp} (a : Ext F F' H H' P P1) (h : P1 = P2) : Ext F F' H H' P P2 := h ▸ a
theorem uni_left_comm (P Q R : Fp) : Uni P (Uni Q R) = Uni Q (Uni P R) := by rw [← uni_assoc, ← uni_assoc, uni_comm P Q]
/-- set aside, shared from now on -/
theorem shares {R Pa : Fp} (sr : SR S F H a σ Pa) (di : Dis R Pa) (fr : ∀ x, R x → F x = none) :
    SR S (take F H R) H a σ Pa ∧ Same F (take F H R) ∧ Ext F (take F H R) H H (Uni R Pa) Pa := by
  have sF := take_same (H := H) fr
  refine ⟨⟨sr.rep.keep sF fun x _ => rfl, fun x hx => ?_, take_sub sr.sub⟩, sF, ⟨sF, fun x o h _ => h, fun x hx => .inl (.inr hx), fun x o h => ?_⟩⟩
  · rw [take_out fun z => di x z hx]; exact sr.fr x hx
  · by_cases hR : R x
    · exact .inr (.inl (.inl hR))
    · rw [take_out hR] at h; exact .inl ⟨o, h⟩
theorem SR.keepF {Pa : Fp} {F' : Hp} (sr : SR S F H a σ Pa) (hF : Same F F') (hn : ∀ x o, F' x = some o → (∃ o, F x = some o) ∨ H x = none) (hs : Same F' H') (hH : Same H H') : SR S F' H' a σ Pa := by
  have held := sr.rep.held
  refine ⟨sr.rep.keep hF fun x hx => ?_, fun x hx => ?_, hs⟩
  · obtain ⟨o, q⟩ := held x hx
    rw [q, hH x o q]
  · cases q : F' x with
    | none => rfl
    | some o =>
      rcases hn x o q with ⟨o', z⟩ | z
      · rw [sr.fr x hx] at z; cases z
      · obtain ⟨o', q'⟩ := held x hx
        rw [z] at q'; cases q'
theorem New.ext {d : D} {v : V} {Pd Pa : Fp} (n : New S F H d v F' H' Pd) : Ext F F' H H' Pa (Uni Pd Pa) :=
  ⟨n.sF, fun x o h _ => n.sH x o h, fun x h => h.elim (fun z => .inr (n.fresh x z)) .inl, fun x o h => (n.frz x o h).elim .inl fun z => .inr (.inr z)⟩
/-- a new value, the slots as they are -/
theorem New.ok {F1 H1 : Hp} {d : D} {v : V} {Pd Pa : Fp} {kp : Bool} (sr : SR S F1 H1 a σ Pa) (e : Ext F F1 H H1 P Pa) (k : kp = true → Same H H1) (n : New S F1 H1 d v F' H' Pd) : Ok S F H P σ ⟨true, kp, none⟩ d a v F' H' Pd Pa where
  rep := n.rep
  sr := sr.keepF n.sF n.frz n.sub n.sH
  ext := (e.trans n.ext).less fun x h => .inr h
  ext2 := fun _ => e.trans n.ext
  dis := fun _ x h1 h2 => by
    obtain ⟨o, q⟩ := sr.rep.held x h2
    rw [n.fresh x h1] at q; cases q
  fr := fun _ => n.fr
  same := fun h => (k h).trans n.sH
  slot := fun i h => nomatch h
/-- a value that needs nothing of the heap -/
theorem Ok.flat {F1 H1 : Hp} {d : D} {v : V} {Pa : Fp} {t : At} (sr : SR S F1 H1 a σ Pa) (e : Ext F F1 H H1 P Pa) (k : t.kp = true → Same H H1) (hs : t.sl = none) (r : Rep S F1 H1 d v Emp) : Ok S F H P σ t d a v F1 H1 Emp Pa where
  rep := r
  sr := sr
  ext := e
  ext2 := fun _ => by rw [emp_uni]; exact e
  dis := fun _ => emp_dis
  fr := fun _ x h => h.elim
  same := k
  slot := fun i h => by rw [hs] at h; cases h
abbrev KV (S : Sig) (F H : Hp) (P : Fp) (σ : L2.St) (t : At) (Q : VK) : D → SA → Prop := fun d a' => ∀ v F' H' Pd Pa, Ok S F H P σ t d a' v F' H' Pd Pa → Q v H'
/-- two operands in a row -/
theorem tA_two {fa fb : SA → Er D} {k : D → D → SA → Er D} {t ta tb : At} {H : Hp} {Q : VK} {R : V → V → Hp → Prop}
    (h : tA S Z t (fun s => (fa s).bind fun d1 s1 => (fb s1).bind fun d2 s2 => k d1 d2 s2) σ H Q)
    (c : ∀ F P a d1 a1 v1 F1 H1 P1 Pa1 d2 a2 v2 F2 H2 P2 Pa2, SR S F H a σ P → Ok S F H P σ ta d1 a1 v1 F1 H1 P1 Pa1 → Ok S F1 H1 Pa1 σ tb d2 a2 v2 F2 H2 P2 Pa2 → Out S (Z σ) F H P σ (KV S F H P σ t Q) (k d1 d2 a2) → R v1 v2 H2) :
    tA S Z ta fa σ H (fun x H1 => tA S Z tb fb σ H1 fun y H2 => R x y H2) := by
  obtain ⟨F, P, a, sr, o⟩ := h
  refine ⟨F, P, a, sr, o.bind.imp fun d1 a1 e1 o1 v1 F1 H1 P1 Pa1 ok1 => ⟨F1, Pa1, a1, ok1.sr, (o1.bind.at ok1.ext).imp fun d2 a2 e2 o2 v2 F2 H2 P2 Pa2 ok2 => ?_⟩⟩
  exact c F P a d1 a1 v1 F1 H1 P1 Pa1 d2 a2 v2 F2 H2 P2 Pa2 sr ok1 ok2 o2
theorem tA_one {fa : SA → Er D} {k : D → SA → Er D} {t ta : At} {H : Hp} {Q : VK} {R : V → Hp → Prop}
    (h : tA S Z t (fun s => (fa s).bind fun d1 s1 => k d1 s1) σ H Q)
    (c : ∀ F P a d1 a1 v1 F1 H1 P1 Pa1, SR S F H a σ P → Ok S F H P σ ta d1 a1 v1 F1 H1 P1 Pa1 → Out S (Z σ) F H P σ (KV S F H P σ t Q) (k d1 a1) → R v1 H1) :
    tA S Z ta fa σ H (fun x H1 => R x H1) := by
  obtain ⟨F, P, a, sr, o⟩ := h
  exact ⟨F, P, a, sr, o.bind.imp fun d1 a1 e1 o1 v1 F1 H1 P1 Pa1 ok1 => c F P a d1 a1 v1 F1 H1 P1 Pa1 sr ok1 o1⟩
theorem atE_tmp {e : ME} {v : Bool} (h : (rootOf e).isNone = true) : (atE v e).tmp = true := by simp [atE, h]
/-- both operands as they may be shared -/
theorem both {ea eb : ME} {d1 d2 d1' : D} {a1 a2 : SA} {v1 v2 : V} {F1 H1 F2 H2 : Hp} {P1 Pa1 P2 Pa2 : Fp}
    (o1 : Ok S F H P σ (atE true ea) d1 a1 v1 F1 H1 P1 Pa1) (o2 : Ok S F1 H1 Pa1 σ (atE true eb) d2 a2 v2 F2 H2 P2 Pa2) (h : stay ea d1 (pureE eb) a2 = some d1') :
    ∃ F3 Q1 Q2, Rep S F3 H2 (tmpz ea d1') v1 Q1 ∧ Rep S F3 H2 (tmpz eb d2) v2 Q2 ∧ SR S F3 H2 a2 σ Pa2 ∧ Ext F F3 H H2 P Pa2 := by
  obtain ⟨P1', r1, q1⟩ := stayed o1 o2 h rfl rfl
  by_cases ha : (rootOf ea).isNone = true
  · obtain ⟨rfl, rfl, di, fr, e1, q2⟩ := q1 ha
    by_cases hb : (rootOf eb).isNone = true
    · have tb := atE_tmp (v := true) hb
      obtain ⟨d12, e12⟩ := q2 tb
      have hfr : ∀ x, Uni P1' P2 x → F2 x = none := fun x h => h.elim (fr x) (o2.fr tb x)
      obtain ⟨s1, s2, s3⟩ := shares (R := Uni P1' P2) o2.sr (di.uni (o2.dis tb)) hfr
      refine ⟨_, Emp, Emp, ?_, ?_, s1, (e12.eqP ?_).trans s3⟩
      · unfold tmpz; rw [if_pos ha]; exact r1.frz s2 _ fun x hx => take_in (.inl hx)
      · unfold tmpz; rw [if_pos hb]; exact o2.rep.frz s2 _ fun x hx => take_in (.inr hx)
      · rw [uni_left_comm, uni_assoc]
    · obtain ⟨s1, s2, s3⟩ := shares (R := P1') o2.sr di fr
      refine ⟨_, Emp, P2, ?_, ?_, s1, e1.trans s3⟩
      · unfold tmpz; rw [if_pos ha]; exact r1.frz s2 _ fun x hx => take_in hx
      · unfold tmpz; rw [if_neg hb]; exact o2.rep.keep s2 _ fun x hx => rfl
  · by_cases hb : (rootOf eb).isNone = true
    · have tb := atE_tmp (v := true) hb
      obtain ⟨s1, s2, s3⟩ := shares (R := P2) o2.sr (o2.dis tb) (o2.fr tb)
      refine ⟨_, P1', Emp, ?_, ?_, s1, (o1.ext.trans (o2.ext2 tb)).trans s3⟩
      · unfold tmpz; rw [if_neg ha]; exact r1.keep s2 _ fun x hx => rfl
      · unfold tmpz; rw [if_pos hb]; exact o2.rep.frz s2 _ fun x hx => take_in hx
    · refine ⟨F2, P1', P2, ?_, ?_, o2.sr, o1.ext.trans o2.ext⟩
      · unfold tmpz; rw [if_neg ha]; exact r1
      · unfold tmpz; rw [if_neg hb]; exact o2.rep
/-- one operand as it may be shared -/
theorem single {ea : ME} {d1 : D} {a1 : SA} {v1 : V} {F1 H1 : Hp} {P1 Pa1 : Fp} (o1 : Ok S F H P σ (atE true ea) d1 a1 v1 F1 H1 P1 Pa1) :
    ∃ F3 Q1, Rep S F3 H1 (tmpz ea d1) v1 Q1 ∧ SR S F3 H1 a1 σ Pa1 ∧ Ext F F3 H H1 P Pa1 := by
  by_cases ha : (rootOf ea).isNone = true
  · have ta := atE_tmp (v := true) ha
    obtain ⟨s1, s2, s3⟩ := shares (R := P1) o1.sr (o1.dis ta) (o1.fr ta)
    refine ⟨_, Emp, ?_, s1, (o1.ext2 ta).trans s3⟩
    unfold tmpz; rw [if_pos ha]; exact o1.rep.frz s2 _ fun x hx => take_in hx
  · refine ⟨F1, P1, ?_, o1.sr, o1.ext⟩
    unfold tmpz; rw [if_neg ha]; exact o1.rep
theorem pure2 {ea eb : ME} {d1 d2 : D} {a1 a2 : SA} {v1 v2 : V} {F1 H1 F2 H2 : Hp} {P1 Pa1 P2 Pa2 : Fp}
    (o1 : Ok S F H P σ (atE true ea) d1 a1 v1 F1 H1 P1 Pa1) (o2 : Ok S F1 H1 Pa1 σ (atE true eb) d2 a2 v2 F2 H2 P2 Pa2) : (pureE ea && pureE eb) = true → Same H H2 := fun h => by
  simp only [Bool.and_eq_true] at h
  exact (o1.same h.1).trans (o2.same h.2)

/-! ### the cases of an expression -/
section
variable {X : Cx} {G : Env0A} {W : Nat}
abbrev tE (S : Sig) (Z : L2.St → Nat → Hp → Prop) (G : Env0A) (W : Nat) (v : Bool) (e : ME) : TE := tA S Z (atE v e) (ev G W v e)
theorem slot_rd {i : Nat} {v : Bool} {H : Hp} {Q : VK} (h : tE S Z G W v (.slot i) σ H Q) : tVar i σ H Q := by
  obtain ⟨F, P, a, sr, o⟩ := h
  simp only [ev] at o
  cases e : rd a i with
  | none => rw [e] at o; exact o.elim
  | some d =>
    rw [e] at o
    simp only [own] at o
    split at o
    · rename_i hs
      obtain ⟨v0, P1, P2, e1, e2, di, r, _, _⟩ := sr.rep.focus (rd_some e)
      refine ⟨v0, e1, o v0 F H P1 P ⟨r, sr, .refl, fun ht => ?_, fun ht => ?_, fun ht x hx => ?_, fun _ _ _ z => z, fun j hj => ?_⟩⟩
      · have : P1 = Emp := by
          cases v with
          | true => simp [atE, rootOf] at ht
          | false => exact r.still d (by simpa using hs)
        rw [this, emp_uni]; exact .refl
      · have : P1 = Emp := by
          cases v with
          | true => simp [atE, rootOf] at ht
          | false => exact r.still d (by simpa using hs)
        rw [this]; exact emp_dis
      · exact sr.fr x (by rw [e2]; exact .inl hx)
      · have : i = j := by simpa [atE, slotOf] using hj
        rw [← this]; exact e1
    · simp only [e] at o
      obtain ⟨v0, F', P', e1, r, sr', ex⟩ := sr.freeze e
      refine ⟨v0, e1, o v0 F' H Emp P' ⟨r, sr', ex, fun _ => by rw [emp_uni]; exact ex, fun _ => emp_dis, fun _ x hx => hx.elim, fun _ _ _ z => z, fun j hj => ?_⟩⟩
      have : i = j := by simpa [atE, slotOf] using hj
      rw [← this]; exact e1
theorem c_slot {i : Nat} {x : Str} {pos : Pos} {v : Bool} (hN : X.N[i]? = some x) (hv : Vis X.env.scope x) (hd : (x == ("__debug__" : Str)) = false) (hcd : (x == ("__classdict__" : Str)) = false) : PE X (.Name x pos) (tE S Z G W v (.slot i)) :=
  (pe_var hN hv hd hcd).weak fun σ H Q h => slot_rd h
theorem c_flat {e : Expr} {me : ME} {d : D} {w : V} {v : Bool} (h : PE X e (tC w)) (hd : ∀ s, ev G W v me s = .ok d s) (hr : ∀ F H, Rep S F H d w Emp) (hs : slotOf me = none) : PE X e (tE S Z G W v me) := by
  refine h.weak fun σ H Q h => ?_
  obtain ⟨F, P, a, sr, o⟩ := h
  rw [hd] at o
  exact o w F H Emp P (.flat sr .refl (fun _ _ _ z => z) hs (hr F H))
theorem c_bin {o : Op2} {ea eb : ME} {x y : Expr} {pos : Pos} {v : Bool} (ha : PE X x (tE S Z G W true ea)) (hb : PE X y (tE S Z G W true eb)) : PE X (.BinOp x (opO o) y pos) (tE S Z G W v (.bin o ea eb)) := by
  refine (pe_op (bin_ok (S := S) o) ha hb).weak fun σ H Q h => ?_
  refine tA_two (ta := atE true ea) (tb := atE true eb) h fun F P a d1 a1 v1 F1 H1 P1 Pa1 d2 a2 v2 F2 H2 P2 Pa2 sr o1 o2 out => ?_
  obtain ⟨d, e, q⟩ := out.of
  simp only [Option.bind_eq_some_iff] at e
  obtain ⟨d1', es, e⟩ := e
  obtain ⟨F3, Q1, Q2, r1, r2, sr3, ex⟩ := both o1 o2 es
  refine ⟨F3, _, _, d, Q1, Q2, sr3.sub, r1, r2, e, fun v' F' H' Pd n => q v' F' H' Pd Pa2 ?_⟩
  have := n.ok (F := F) (P := P) (σ := σ) sr3 ex (pure2 o1 o2)
  simpa [atE, rootOf, slotOf, pureE] using this
theorem c_cmpO {c : Cmp} {ea eb : ME} {x y : Expr} {pos : Pos} {v : Bool} (hc : OpR X (compareOp (opC c)) (rGB S (cmp c))) (hm : behindInMarks (opC c) y = false) (ha : PE X x (tE S Z G W true ea)) (hb : PE X y (tE S Z G W true eb)) : PE X (.Compare x [opC c] [y] pos) (tE S Z G W v (.cmp c ea eb)) := by
  refine (pe_cmpR hc ha hb hm).weak fun σ H Q h => ?_
  refine tA_two (ta := atE true ea) (tb := atE true eb) h fun F P a d1 a1 v1 F1 H1 P1 Pa1 d2 a2 v2 F2 H2 P2 Pa2 sr o1 o2 out => ?_
  obtain ⟨d, e, q⟩ := out.of
  simp only [Option.bind_eq_some_iff, Option.map_eq_some_iff] at e
  obtain ⟨d1', es, b, e, rfl⟩ := e
  obtain ⟨P1', r1, _⟩ := stayed o1 o2 es rfl rfl
  refine ⟨F2, _, _, b, P1', P2, o2.sr.sub, r1, o2.rep, e, q _ F2 H2 Emp Pa2 (.flat o2.sr (o1.ext.trans o2.ext) ?_ rfl (rep_bl.mpr ⟨rfl, rfl⟩))⟩
  exact fun h => pure2 o1 o2 (by simpa [atE, pureE] using h)
theorem c_un {o : Un} {ea : ME} {x : Expr} {pos : Pos} {v : Bool} (ha : PE X x (tE S Z G W true ea)) : PE X (.UnaryOp (opU o) x pos) (tE S Z G W v (.un o ea)) := by
  refine (pe_un (un_ok (S := S) o) ha).weak fun σ H Q h => ?_
  refine tA_one (ta := atE true ea) h fun F P a d1 a1 v1 F1 H1 P1 Pa1 sr o1 out => ?_
  obtain ⟨d, e, q⟩ := out.of
  refine ⟨F1, _, d, P1, o1.sr.sub, o1.rep, e, fun v' F' H' Pd n => q v' F' H' Pd Pa1 ?_⟩
  have := n.ok (F := F) (P := P) (σ := σ) o1.sr o1.ext o1.same
  simpa [atE, rootOf, slotOf, pureE] using this
theorem c_nt {ea : ME} {x : Expr} {pos : Pos} {v : Bool} (ha : PE X x (tE S Z G W true ea)) : PE X (.UnaryOp .Not x pos) (tE S Z G W v (.nt ea)) := by
  refine (pe_not ha).weak fun σ H Q h => ?_
  refine tA_one (ta := atE true ea) h fun F P a d1 a1 v1 F1 H1 P1 Pa1 sr o1 out => ?_
  cases d1 <;> try exact out.elim
  rename_i b
  obtain ⟨rfl, _⟩ := rep_bl.mp o1.rep
  exact ⟨b, rfl, out _ F1 H1 Emp Pa1 (.flat o1.sr o1.ext o1.same rfl (rep_bl.mpr ⟨rfl, rfl⟩))⟩
theorem non_iff {d : D} {v : V} {P : Fp} (h : Rep S F H d v P) : decide (v = .non) = isNon d := by
  cases d <;> simp only [Rep] at h
  · rw [h.1]; rfl
  · rw [h.1]; rfl
  · rw [h.1]; rfl
  · rw [h.1]; rfl
  · obtain ⟨_, a, vs, e, _⟩ := h; rw [e]; rfl
  · obtain ⟨a, vs, e, _⟩ := h; rw [e]; rfl
  · obtain ⟨a, cl, dx, vs, e, _⟩ := h; rw [e]; rfl
  · obtain ⟨_, a, e, _⟩ := h; rw [e]; rfl
  · obtain ⟨a, vs, e, _⟩ := h; rw [e]; rfl
theorem c_isn {ea : ME} {x : Expr} {pos pos' : Pos} {j : Nat} {v n : Bool} (ha : PE X x (tE S Z G W true ea)) : PE X (.Compare x [if n then .IsNot else .Is] [.Constant .none j pos'] pos) (tE S Z G W v (.isn n ea)) := by
  have key : ∀ σ H Q, tE S Z G W v (.isn n ea) σ H Q → tE S Z G W true ea σ H fun x H1 => Q (.bl (if n then !decide (x = .non) else decide (x = .non))) H1 := fun σ H Q h => by
    refine tA_one (ta := atE true ea) h fun F P a d1 a1 v1 F1 H1 P1 Pa1 sr o1 out => ?_
    have hb : (if n then !decide (v1 = .non) else decide (v1 = .non)) = isn n d1 := by unfold isn; rw [non_iff o1.rep]
    rw [hb]
    exact out _ F1 H1 Emp Pa1 (.flat o1.sr o1.ext o1.same rfl (rep_bl.mpr ⟨rfl, rfl⟩))
  cases n with
  | true => exact (pe_cmp (pc_notN ha) rfl).weak fun σ H Q h => key σ H Q h
  | false => exact (pe_cmp (pc_isN ha) rfl).weak fun σ H Q h => key σ H Q h
end
end Ab
namespace Ab
open PySem L2
variable {S : Sig} {Z : L2.St → Nat → Hp → Prop} {F F' H H' : Hp} {P : Fp} {σ : L2.St} {a a' : SA}

/-! ### argument lists -/
structure OkL (S : Sig) (F H : Hp) (P : Fp) (σ : L2.St) (kp : Bool) (ds : List D) (a' : SA) (vs : List V) (F' H' : Hp) (Pd Pa : Fp) : Prop where
  rep : Reps S F' H' ds vs Pd
  sr : SR S F' H' a' σ Pa
  ext : Ext F F' H H' P Pa
  ext2 : Ext F F' H H' P (Uni Pd Pa)
  dis : Dis Pd Pa
  fr : ∀ x, Pd x → F' x = none
  same : kp = true → Same H H'
def tAL (S : Sig) (Z : L2.St → Nat → Hp → Prop) (kp : Bool) (f : SA → Er (List D)) : TA := fun σ H Q => ∃ F P a, SR S F H a σ P ∧
  Out S (Z σ) F H P σ (fun ds a' => ∀ vs F' H' Pd Pa, OkL S F H P σ kp ds a' vs F' H' Pd Pa → Q vs H') (f a)
theorem atE_false (e : ME) : (atE false e).tmp = true := rfl
theorem OkL.nil (sr : SR S F H a σ P) : OkL S F H P σ true [] a [] F H Emp P :=
  ⟨by simp only [Reps]; exact ⟨trivial, trivial⟩, sr, .refl, by rw [emp_uni]; exact .refl, emp_dis, fun x h => h.elim, fun _ _ _ z => z⟩
theorem OkL.cons {t : At} {d : D} {a1 a2 : SA} {v : V} {F1 H1 F2 H2 : Hp} {P1 Pa1 P2 Pa2 : Fp} {ds : List D} {vs : List V} {kp : Bool} (ht : t.tmp = true)
    (o1 : Ok S F H P σ t d a1 v F1 H1 P1 Pa1) (o2 : OkL S F1 H1 Pa1 σ kp ds a2 vs F2 H2 P2 Pa2) : OkL S F H P σ (t.kp && kp) (d :: ds) a2 (v :: vs) F2 H2 (Uni P1 P2) Pa2 := by
  have di := o1.dis ht
  have held := o1.rep.held d
  have r1 := o2.ext.aside o1.rep di
  have d2 := o2.ext2.dis di held
  refine ⟨?_, o2.sr, o1.ext.trans o2.ext, ?_, ?_, fun x h => h.elim (o2.ext.unf di held (o1.fr ht) x) (o2.fr x), same_trans' o1.same o2.same⟩
  · simp only [Reps]
    exact ⟨v, vs, P1, P2, rfl, rfl, fun x h1 h2 => d2 x h1 (.inl h2), r1, o2.rep⟩
  · have z := o2.ext2.frame (R := P1)
    rw [uni_comm Pa1 P1] at z
    refine ((o1.ext2 ht).trans z).eqP ?_
    rw [uni_comm (Uni P2 Pa2), ← uni_assoc]
  · exact Dis.uni (fun x h1 h2 => d2 x h1 (.inr h2)) o2.dis
section
variable {X : Cx} {G : Env0A} {W : Nat}
abbrev tEs (S : Sig) (Z : L2.St → Nat → Hp → Prop) (G : Env0A) (W : Nat) (es : MEs) : TA := tAL S Z (pureEs es) (evs G W es)
theorem c_nil : PA X [] (tEs S Z G W .nil) := pa_nil.weak fun σ H Q h => by
  obtain ⟨F, P, a, sr, o⟩ := h
  exact o [] F H Emp P (.nil sr)
theorem c_cons {e : Expr} {es : List Expr} {me : ME} {mes : MEs} (he : PE X e (tE S Z G W false me)) (hs : PA X es (tEs S Z G W mes)) (hst : starEach (e :: es) X.env = (false, eval e X.env) :: starEach es X.env) : PA X (e :: es) (tEs S Z G W (.cons me mes)) := by
  refine (pa_cons he hs hst).weak fun σ H Q h => ?_
  obtain ⟨F, P, a, sr, o⟩ := h
  refine ⟨F, P, a, sr, o.bind.imp fun d a1 e1 o1 v1 F1 H1 P1 Pa1 ok1 => ⟨F1, Pa1, a1, ok1.sr, (o1.bind.at ok1.ext).imp fun ds a2 e2 o2 vs F2 H2 P2 Pa2 ok2 => ?_⟩⟩
  exact o2 _ F2 H2 _ Pa2 (OkL.cons rfl ok1 ok2)
theorem c_tup {es : List Expr} {mes : MEs} {k : Nat} {pos : Pos} {v : Bool} (hs : PA X es (tEs S Z G W mes)) : PE X (.Tuple es k pos) (tE S Z G W v (.tup mes)) := by
  refine (pe_tup hs).weak fun σ H Q h => ?_
  obtain ⟨F, P, a, sr, o⟩ := h
  refine ⟨F, P, a, sr, o.bind.imp fun ds a1 e1 o1 vs F1 H1 P1 Pa1 ok1 => ?_⟩
  split at o1
  · rename_i hl
    refine ⟨by rw [Reps.len ok1.rep]; exact hl, fun p hp => ?_⟩
    obtain ⟨s1, s2, s3⟩ := shares (R := P1) ok1.sr ok1.dis ok1.fr
    have r : Reps S (take F1 H1 P1) H1 (frzs ds) vs Emp := Reps.frz s2 ds ok1.rep fun x hx => take_in hx
    have n := New.tup s1.sub r hp
    exact o1 _ _ _ _ Pa1 (by simpa [atE, rootOf, slotOf, pureE] using n.ok (F := F) (P := P) s1 (ok1.ext2.trans s3) ok1.same)
  · exact o1.elim
theorem New.lstO {ds : List D} {vs : List V} {p : Addr} {Pd : Fp} (hs : Same F H) (h : Reps S F H ds vs Pd) (hp : H p = none) : Rep S F (upd H p (.lst vs)) (.lst true ds) (.ref p) (Uni (fun x => x = p) Pd) := by
  have nP : ¬ Pd p := fun z => by
    obtain ⟨o, q⟩ := Reps.held ds h p z
    rw [hp] at q; cases q
  simp only [Rep]
  refine ⟨p, vs, rfl, ?_⟩
  rw [if_pos trivial]
  refine ⟨upd_same, .inl rfl, Pd, nP, rfl, Reps.keep (fun _ _ z => z) ds h fun x z => upd_ne fun e => nP (e ▸ z)⟩
theorem c_lst {es : List Expr} {mes : MEs} {pos : Pos} {v : Bool} (hs : PA X es (tEs S Z G W mes)) : PE X (.List es pos) (tE S Z G W v (.lst mes)) := by
  refine (pe_lst hs).weak fun σ H Q h => ?_
  obtain ⟨F, P, a, sr, o⟩ := h
  refine ⟨F, P, a, sr, o.bind.imp fun ds a1 e1 o1 vs F1 H1 P1 Pa1 ok1 => ?_⟩
  split at o1
  · rename_i hl
    refine ⟨by rw [Reps.len ok1.rep]; exact hl, fun p hp => ?_⟩
    have up := same_up (o := .lst vs) hp
    have nP : ∀ Q : Fp, (∀ x, Q x → ∃ o, H1 x = some o) → ¬ Q p := fun Q hq z => by
      obtain ⟨o, q⟩ := hq p z
      rw [hp] at q; cases q
    have pa1 := nP Pa1 ok1.sr.rep.held
    have ex : ∀ Q, Ext F1 F1 H1 (upd H1 p (.lst vs)) Q (Uni (fun x => x = p) Q) := fun Q => ⟨fun _ _ z => z, fun x o h _ => up x o h, fun x h => h.elim (fun e => .inr (by rw [e]; exact hp)) .inl, fun x o h => .inl ⟨o, h⟩⟩
    refine o1 _ F1 _ _ Pa1 ⟨New.lstO ok1.sr.sub ok1.rep hp, ok1.sr.keepF (fun _ _ z => z) (fun x o h => .inl ⟨o, h⟩) (ok1.sr.sub.trans up) up, ?_, fun _ => ?_, fun _ => ?_, fun _ x h => ?_, fun h => ?_, fun i h => by simp [atE, slotOf] at h⟩
    · exact (ok1.ext.trans (ex Pa1)).less fun x h => .inr h
    · refine (ok1.ext2.trans (ex _)).eqP ?_
      rw [uni_assoc]
    · exact Dis.uni (fun x h1 h2 => pa1 (h1 ▸ h2)) ok1.dis
    · rcases h with h | h
      · rw [h]; exact ok1.sr.sub.free hp
      · exact ok1.fr x h
    · exact (ok1.same (by simpa [atE, pureE] using h)).trans up
  · exact o1.elim

/-! ### subscripts, slices, fields -/
theorem c_sub {ea ei : ME} {x i : Expr} {pos : Pos} {v : Bool} (hK : S.K = X.K) (ha : PE X x (tE S Z G W true ea)) (hi : PE X i (tE S Z G W true ei)) (hp : PlainIx i) : PE X (.Subscript x i pos) (tE S Z G W v (.sub ea ei)) := by
  refine (pe_ix (ix_ok hK) ha hi hp).weak fun σ H Q h => ?_
  refine tA_two (ta := atE true ea) (tb := atE true ei) h fun F P a d1 a1 v1 F1 H1 P1 Pa1 d2 a2 v2 F2 H2 P2 Pa2 sr o1 o2 out => ?_
  cases d2 <;> try exact out.elim
  rename_i k
  simp only at out
  split at out
  · rename_i d ed
    simp only [Option.bind_eq_some_iff] at ed
    obtain ⟨d1', es, ed⟩ := ed
    obtain ⟨P1', r1, q1⟩ := stayed o1 o2 es rfl rfl
    obtain ⟨rfl, _⟩ := rep_int.mp o2.rep
    refine ⟨F2, d1', d, P1', k, o2.sr.sub, r1, rfl, ed, fun w Pd r sb => ?_⟩
    unfold own at out
    split at out
    · rename_i hv
      refine out w F2 H2 Pd Pa2 ⟨r, o2.sr, o1.ext.trans o2.ext, fun ht => ?_, fun ht => ?_, fun ht x hx => ?_, fun h => pure2 o1 o2 (by simpa [atE, pureE] using h), fun j h => by simp [atE, slotOf] at h⟩
      all_goals
        by_cases hst : still d = true
        · have e0 := r.still d hst
          subst e0
          first
            | (rw [emp_uni]; exact o1.ext.trans o2.ext)
            | exact emp_dis
            | exact hx.elim
        · have hvt : v = true := by simpa [hst] using hv
          subst hvt
          have hr : (rootOf ea).isNone = true := by simpa [atE, rootOf] using ht
          obtain ⟨rfl, rfl, di, fr, e1, _⟩ := q1 hr
          first
            | exact e1.less fun x h => h.elim (fun z => .inl (sb x z)) .inr
            | exact fun x h1 h2 => di x (sb x h1) h2
            | exact fr x (sb x hx)
    · exact out.elim
  · exact out.elim
/-- a part of a slice -/
def tAO (S : Sig) (Z : L2.St → Nat → Hp → Prop) (kp : Bool) (f : SA → Er (Option Int)) : TO := fun σ H Q => ∃ F P a, SR S F H a σ P ∧
  Out S (Z σ) F H P σ (fun o a' => ∀ F' H' Pa, SR S F' H' a' σ Pa → Ext F F' H H' P Pa → (kp = true → Same H H') → Q o H') (f a)
theorem _root_.L2.PO.weak {X : Cx} {e : Option Expr} {t t' : TO} (h : PO X e t) (w : ∀ σ H Q, t' σ H Q → t σ H Q) : PO X e t' :=
  ⟨fun pins s σ H Q I q => h.run pins s σ H Q I (w σ H Q q)⟩
abbrev tEO (S : Sig) (Z : L2.St → Nat → Hp → Prop) (G : Env0A) (W : Nat) (o : MO) : TO := tAO S Z (pureO o) (evO G W o)
theorem c_onone : PO X none (tEO S Z G W .none) := po_none.weak fun σ H Q h => by
  obtain ⟨F, P, a, sr, o⟩ := h
  exact o F H P sr .refl fun _ _ _ z => z
theorem c_osome {e : Expr} {me : ME} (h : PE X e (tE S Z G W true me)) : PO X (some e) (tEO S Z G W (.some me)) := (po_some h).weak fun σ H Q h => by
  obtain ⟨F, P, a, sr, o⟩ := h
  refine ⟨F, P, a, sr, o.bind.imp fun d a1 e1 o1 v1 F1 H1 P1 Pa1 ok1 => ?_⟩
  cases d <;> try exact o1.elim
  obtain ⟨rfl, _⟩ := rep_int.mp ok1.rep
  exact ⟨_, rfl, o1 F1 H1 Pa1 ok1.sr ok1.ext ok1.same⟩
end
end Ab
namespace Ab
open PySem L2
variable {S : Sig} {Z : L2.St → Nat → Hp → Prop} {F F' H H' : Hp} {P : Fp} {σ : L2.St} {a a' : SA}
section
variable {X : Cx} {G : Env0A} {W : Nat}
/-- an operand behind what was reckoned later, both as a state -/
theorem stayed' {e : ME} {d1 d1' : D} {a1 a2 : SA} {v1 : V} {F1 H1 F2 H2 : Hp} {P1 Pa1 Pa2 : Fp} {pb : Bool}
    (o1 : Ok S F H P σ (atE true e) d1 a1 v1 F1 H1 P1 Pa1) (sr : SR S F2 H2 a2 σ Pa2) (ex : Ext F1 F2 H1 H2 Pa1 Pa2) (sm : pb = true → Same H1 H2) (h : stay e d1 pb a2 = some d1') :
    ∃ P1', Rep S F2 H2 d1' v1 P1' := by
  have o2 : Ok S F1 H1 Pa1 σ ⟨true, pb, none⟩ .non a2 .non F2 H2 Emp Pa2 := .flat sr ex sm rfl (rep_non.mpr ⟨rfl, rfl⟩)
  obtain ⟨P1', r, _⟩ := stayed o1 o2 h rfl rfl
  exact ⟨P1', r⟩
theorem c_slc {ea : ME} {lo hi : MO} {x : Expr} {el eh : Option Expr} {p2 pos : Pos} {v : Bool} (ha : PE X x (tE S Z G W true ea)) (hl : PO X el (tEO S Z G W lo)) (hh : PO X eh (tEO S Z G W hi)) : PE X (.Subscript x (.Slice el eh none p2) pos) (tE S Z G W v (.slc ea lo hi)) := by
  refine (pe_slice (sl_ok (S := S)) ha hl hh).weak fun σ H Q h => ?_
  obtain ⟨F, P, a, sr, o⟩ := h
  refine ⟨F, P, a, sr, o.bind.imp fun d1 a1 e1 o1 v1 F1 H1 P1 Pa1 ok1 => ⟨F1, Pa1, a1, ok1.sr, (o1.bind.at ok1.ext).imp fun l a2 e2 o2 F2 H2 Pa2 sr2 ex2 sm2 => ⟨F2, Pa2, a2, sr2, (o2.bind.at (ok1.ext.trans ex2)).imp fun u a3 e3 o3 F3 H3 Pa3 sr3 ex3 sm3 => ?_⟩⟩⟩
  obtain ⟨d, e, q⟩ := o3.of
  simp only [Option.bind_eq_some_iff] at e
  obtain ⟨d1', es, e⟩ := e
  obtain ⟨P1', r1⟩ := stayed' ok1 sr3 (ex2.trans ex3) (same_trans' sm2 sm3) es
  refine ⟨F3, d1', d, P1', sr3.sub, r1, e, fun v' F' H' Pd n => q v' F' H' Pd Pa3 ?_⟩
  have := n.ok (F := F) (P := P) (σ := σ) sr3 (ok1.ext.trans (ex2.trans ex3)) (same_trans' ok1.same (same_trans' sm2 sm3))
  simpa [atE, rootOf, slotOf, pureE, Bool.and_assoc] using this
theorem c_rev {ea : ME} {x : Expr} {k : Nat} {p1 p2 p3 pos : Pos} {v : Bool} (ha : PE X x (tE S Z G W true ea)) : PE X (.Subscript x (.Slice none none (some (.UnaryOp .USub (.Constant (.int 1) k p1) p2)) p3) pos) (tE S Z G W v (.rev ea)) := by
  refine (pe_revL ha).weak fun σ H Q h => ?_
  refine tA_one (ta := atE true ea) h fun F P a d1 a1 v1 F1 H1 P1 Pa1 sr o1 out => ?_
  cases d1 <;> try exact out.elim
  rename_i m ds
  simp only at out
  split at out
  · rename_i hst
    obtain ⟨p, vs, P', rfl, ea', h1⟩ := o1.rep.lst_at o1.sr.sub
    rw [Reps.still ds h1 hst] at h1
    refine ⟨p, vs, rfl, SqL.of ea', fun q hq => out _ F1 _ (fun x => x = q) Pa1 ?_⟩
    have n := New.lst o1.sr.sub h1.rev hq
    simpa [atE, rootOf, slotOf, pureE] using n.ok (F := F) (P := P) (σ := σ) o1.sr o1.ext o1.same
  · exact out.elim
/-- what a class of the signature must be in the module -/
structure ClsOk (K : PySem.W.Frag) (att : Nat → Str) (S : Sig) : Prop where
  cls : ∀ c cl, S.cls c = some cl → Cls K cl.addr ∧ cl.fields = (CF c).map att ∧ cl.fields.Nodup ∧ cl.fields.length < 900 ∧ ∀ f ∈ cl.fields, NoAttr K cl.addr f
theorem lookup_zip {N : List Str} {vs : List V} {j : Nat} {f : Str} {v : V} (nd : N.Nodup) (h1 : N[j]? = some f) (h2 : vs[j]? = some v) : (N.zip vs).lookup f = some v := by
  induction N generalizing vs j with
  | nil => simp at h1
  | cons x N ih =>
    cases vs with
    | nil => simp at h2
    | cons w vs =>
      cases j with
      | zero => simp at h1 h2; subst h1 h2; simp
      | succ j =>
        have hx : f ≠ x := fun e => by
          subst e
          exact (List.nodup_cons.mp nd).1 (List.mem_of_getElem? (by simpa using h1))
        rw [List.zip_cons_cons, List.lookup_cons, show (f == x) = false from by simpa using hx]
        exact ih (List.nodup_cons.mp nd).2 (by simpa using h1) (by simpa using h2)
theorem fldIx_at {c k j : Nat} (h : fldIx c k = some j) : (CF c)[j]? = some k := by
  unfold fldIx at h
  rw [List.findIdx?_eq_some_iff_getElem] at h
  obtain ⟨hl, he, _⟩ := h
  rw [List.getElem?_eq_getElem hl]
  simpa using he
/-- the item of a row of values -/
theorem Reps.item : ∀ {ds : List D} {vs : List V} {P : Fp} {j : Nat} {d : D}, Reps S F H ds vs P → ds[j]? = some d → ∃ v P1, vs[j]? = some v ∧ Rep S F H d v P1 ∧ ∀ x, P1 x → P x
  | [], vs, P, j, d, h, e => by simp at e
  | d0 :: ds, vs, P, j, d, h, e => by
    simp only [Reps] at h
    obtain ⟨v, r, P1, P2, rfl, eP, _, h1, h2⟩ := h
    cases j with
    | zero => simp at e; subst e; exact ⟨v, P1, rfl, h1, fun x hx => by rw [eP]; exact .inl hx⟩
    | succ j =>
      obtain ⟨v', P', e', r', s'⟩ := Reps.item (j := j) h2 (by simpa using e)
      exact ⟨v', P', by simpa using e', r', fun x hx => by rw [eP]; exact .inr (s' x hx)⟩
/-- an instance that is read -/
theorem Rep.ins_at {m : Bool} {c : Nat} {ds : List D} {v : V} {P : Fp} (hs : Same F H) (h : Rep S F H (.ins m c ds) v P) :
    ∃ p cl dx vs P', v = .ref p ∧ S.cls c = some cl ∧ ds.length ≤ cl.fields.length ∧ H p = some (.ins cl.addr dx (cl.fields.zip vs)) ∧ Reps S F H ds vs P' ∧ ∀ x, P' x → P x := by
  simp only [Rep] at h
  obtain ⟨p, cl, dx, vs, rfl, hc, hl, h⟩ := h
  split at h
  · obtain ⟨ea, _, P', _, eP, h⟩ := h
    exact ⟨p, cl, dx, vs, P', rfl, hc, hl, ea, h, fun x hx => by rw [eP]; exact .inr hx⟩
  · exact ⟨p, cl, dx, vs, Emp, rfl, hc, hl, hs _ _ h.2.1, h.2.2, fun x hx => hx.elim⟩
theorem c_fld {ea : ME} {k : Nat} {x : Expr} {att : Nat → Str} {pos : Pos} {v : Bool} (hC : ClsOk X.K att S) (hb : attributeBase x (att k) X.env (eval x X.env) = eval x X.env) (ha : PE X x (tE S Z G W true ea)) : PE X (.Attribute x (att k) pos) (tE S Z G W v (.fld ea k)) := by
  refine (pe_fld ha hb).weak fun σ H Q h => ?_
  refine tA_one (ta := atE true ea) h fun F P a d1 a1 v1 F1 H1 P1 Pa1 sr o1 out => ?_
  split at out
  · rename_i d ed
    unfold getFd at ed
    cases d1 <;> simp only [reduceCtorEq] at ed
    rename_i m c ds
    simp only [Option.bind_eq_some_iff] at ed
    obtain ⟨j, ej, ed⟩ := ed
    obtain ⟨p, cl, dx, vs, P', rfl, hc, hl, ep, hr, sb0⟩ := o1.rep.ins_at o1.sr.sub
    obtain ⟨k1, k2, k3, _, k4⟩ := hC.cls c cl hc
    obtain ⟨w, Pd, ew, r, sb⟩ := hr.item ed
    have ef : cl.fields[j]? = some (att k) := by rw [k2, List.getElem?_map, fldIx_at ej]; rfl
    refine ⟨p, cl.addr, dx, _, w, rfl, ep, k1, k4 _ (List.mem_of_getElem? ef), lookup_zip k3 ef ew, ?_⟩
    unfold own at out
    split at out
    · rename_i hv
      refine out w F1 H1 Pd Pa1 ⟨r, o1.sr, o1.ext, fun ht => ?_, fun ht => ?_, fun ht x hx => ?_, fun h => o1.same (by simpa [atE, pureE] using h), fun j h => by simp [atE, slotOf] at h⟩
      all_goals
        by_cases hst : still d = true
        · have e0 := r.still d hst
          subst e0
          first
            | (rw [emp_uni]; exact o1.ext)
            | exact emp_dis
            | exact hx.elim
        · have hvt : v = true := by simpa [hst] using hv
          subst hvt
          have ht1 : (atE true ea).tmp = true := by simpa [atE, rootOf] using ht
          first
            | exact (o1.ext2 ht1).less fun x h => h.elim (fun z => .inl (sb0 x (sb x z))) .inr
            | exact fun x h1 h2 => o1.dis ht1 x (sb0 x (sb x h1)) h2
            | exact o1.fr ht1 x (sb0 x (sb x hx))
    · exact out.elim
  · exact out.elim
/-! ### built-in calls -/
theorem c_callB1 {f : Bi1} {ea : ME} {x : Expr} {nm : Str} {id : String} {p pos : Pos} {v : Bool} (hc : CallR X (.builtin id) (rC1 S (bi1 f))) (hg : Gl X nm) (hm : X.mg nm = none) (hv : bootBuiltins nm = some (.builtin id)) (hn : nm ≠ "__name__") (hdb : (nm == ("__debug__" : Str)) = false)
    (hst : starEach [x] X.env = (false, eval x X.env) :: starEach [] X.env) (ha : PE X x (tE S Z G W true ea)) : PE X (.Call (.Name nm p) [x] [] pos) (tE S Z G W v (.bi1 f ea)) := by
  refine (pe_callB hc hg hm hv (pa_cons ha pa_nil hst) hn hdb hst rfl).weak fun σ H Q h => ?_
  refine tA_one (ta := atE true ea) h fun F P a d1 a1 v1 F1 H1 P1 Pa1 sr o1 out => ?_
  obtain ⟨d, e, q⟩ := out.of
  obtain ⟨F3, Q1, r1, sr3, ex⟩ := single o1
  refine ⟨v1, F3, _, d, Q1, rfl, sr3.sub, r1, e, fun v' F' H' Pd n => q v' F' H' Pd Pa1 ?_⟩
  simpa [atE, rootOf, slotOf, pureE] using n.ok (F := F) (P := P) (σ := σ) sr3 ex o1.same
theorem c_callT1 {f : Bi1} {ea : ME} {x : Expr} {nm : Str} {T : String} {p pos : Pos} {v : Bool} (hc : CallR X (.type T) (rC1 S (bi1 f))) (hg : Gl X nm) (hm : X.mg nm = none) (hv : bootBuiltins nm = some (.type T)) (hn : nm ≠ "__name__") (hdb : (nm == ("__debug__" : Str)) = false)
    (hst : starEach [x] X.env = (false, eval x X.env) :: starEach [] X.env) (ha : PE X x (tE S Z G W true ea)) : PE X (.Call (.Name nm p) [x] [] pos) (tE S Z G W v (.bi1 f ea)) := by
  refine (pe_callTy hc hg hm hv (pa_cons ha pa_nil hst) hn hdb hst rfl).weak fun σ H Q h => ?_
  refine tA_one (ta := atE true ea) h fun F P a d1 a1 v1 F1 H1 P1 Pa1 sr o1 out => ?_
  obtain ⟨d, e, q⟩ := out.of
  obtain ⟨F3, Q1, r1, sr3, ex⟩ := single o1
  refine ⟨v1, F3, _, d, Q1, rfl, sr3.sub, r1, e, fun v' F' H' Pd n => q v' F' H' Pd Pa1 ?_⟩
  simpa [atE, rootOf, slotOf, pureE] using n.ok (F := F) (P := P) (σ := σ) sr3 ex o1.same
theorem c_callB2 {f : Bi2} {ea eb : ME} {x y : Expr} {nm : Str} {id : String} {p pos : Pos} {v : Bool} (hc : CallR X (.builtin id) (rC2 S (bi2 f))) (hg : Gl X nm) (hm : X.mg nm = none) (hv : bootBuiltins nm = some (.builtin id)) (hn : nm ≠ "__name__") (hdb : (nm == ("__debug__" : Str)) = false)
    (hf : ∀ d, rcv f d = true) (hst : starEach [x, y] X.env = (false, eval x X.env) :: starEach [y] X.env) (hst2 : starEach [y] X.env = (false, eval y X.env) :: starEach [] X.env) (ha : PE X x (tE S Z G W true ea)) (hb : PE X y (tE S Z G W true eb)) : PE X (.Call (.Name nm p) [x, y] [] pos) (tE S Z G W v (.bi2 f ea eb)) := by
  refine (pe_callB hc hg hm hv (pa_cons ha (pa_cons hb pa_nil hst2) hst) hn hdb hst (by rw [hst2]; rfl)).weak fun σ H Q h => ?_
  simp only [tE, ev, hf, if_true] at h
  refine tA_two (ta := atE true ea) (tb := atE true eb) h fun F P a d1 a1 v1 F1 H1 P1 Pa1 d2 a2 v2 F2 H2 P2 Pa2 sr o1 o2 out => ?_
  obtain ⟨d, e, q⟩ := out.of
  simp only [Option.bind_eq_some_iff] at e
  obtain ⟨d1', es, e⟩ := e
  obtain ⟨P1', r1, _⟩ := stayed o1 o2 es rfl rfl
  refine ⟨v1, v2, F2, _, _, d, P1', P2, rfl, o2.sr.sub, r1, o2.rep, e, fun v' F' H' Pd n => q v' F' H' Pd Pa2 ?_⟩
  have := n.ok (F := F) (P := P) (σ := σ) o2.sr (o1.ext.trans o2.ext) (pure2 o1 o2)
  simpa [atE, rootOf, slotOf, pureE] using this
theorem c_isi {t : Ty} {ea : ME} {x y : Expr} {p pos : Pos} {v : Bool} (hg : Gl X "isinstance") (hm : X.mg "isinstance" = none) (hy : PE X y (tC (.ty (tyName t))))
    (hst : starEach [x, y] X.env = (false, eval x X.env) :: starEach [y] X.env) (hst2 : starEach [y] X.env = (false, eval y X.env) :: starEach [] X.env) (ha : PE X x (tE S Z G W true ea)) : PE X (.Call (.Name "isinstance" p) [x, y] [] pos) (tE S Z G W v (.isi ea t)) := by
  refine (pe_callB (isi_ok (S := S) t) hg hm (by decide +kernel) (pa_cons ha (pa_cons hy pa_nil hst2) hst) (by decide) (by decide) hst (by rw [hst2]; rfl)).weak fun σ H Q h => ?_
  refine tA_one (ta := atE true ea) h fun F P a d1 a1 v1 F1 H1 P1 Pa1 sr o1 out => ?_
  obtain ⟨d, e, q⟩ := out.of
  simp only [Option.map_eq_some_iff] at e
  obtain ⟨b, e, rfl⟩ := e
  exact ⟨v1, F1, _, P1, b, rfl, o1.sr.sub, o1.rep, e, q _ F1 H1 Emp Pa1 (.flat o1.sr o1.ext (fun h => o1.same (by simpa [atE, pureE] using h)) rfl (rep_bl.mpr ⟨rfl, rfl⟩))⟩
end
end Ab
namespace Ab
open PySem L2
variable {S : Sig} {Z : L2.St → Nat → Hp → Prop} {F F' H H' : Hp} {P : Fp} {σ : L2.St} {a a' : SA}
section
variable {X : Cx} {G : Env0A} {W : Nat}
abbrev tT (S : Sig) (Z : L2.St → Nat → Hp → Prop) (G : Env0A) (W : Nat) (t : MT) : TT := tAT S Z (pureT t) (evT G W t)
theorem c_and2 {ea eb : ME} {x y : Expr} {r : List Expr} {pos : Pos} {v : Bool} (ha : PE X x (tE S Z G W true ea)) (hb : PE X (.BoolOp .And (y :: r) pos) (tE S Z G W true eb)) : PE X (.BoolOp .And (x :: y :: r) pos) (tE S Z G W v (.and2 ea eb)) := by
  refine (pe_and ha hb).weak fun σ H Q h => ?_
  obtain ⟨F, P, a, sr, o⟩ := h
  refine ⟨F, P, a, sr, o.bind.imp fun d1 a1 e1 o1 v1 F1 H1 P1 Pa1 ok1 => ?_⟩
  cases d1 <;> try exact o1.elim
  rename_i b
  obtain ⟨rfl, _⟩ := rep_bl.mp ok1.rep
  refine ⟨b, rfl, ?_⟩
  cases b with
  | true =>
    rw [if_pos rfl]
    refine ⟨F1, Pa1, a1, ok1.sr, (o1.bind.at ok1.ext).imp fun d2 a2 e2 o2 v2 F2 H2 P2 Pa2 ok2 => ?_⟩
    cases d2 <;> try exact o2.elim
    rename_i c
    obtain ⟨rfl, rfl⟩ := rep_bl.mp ok2.rep
    exact o2 _ F2 H2 Emp Pa2 (.flat ok2.sr (ok1.ext.trans ok2.ext) (fun h => pure2 ok1 ok2 (by simpa [atE, pureE] using h)) rfl (rep_bl.mpr ⟨rfl, rfl⟩))
  | false =>
    rw [if_neg (by decide)]
    exact o1 _ F1 H1 Emp Pa1 (.flat ok1.sr ok1.ext (fun h => ok1.same (by simp [atE, pureE] at h ⊢; exact h.1)) rfl (rep_bl.mpr ⟨rfl, rfl⟩))
theorem c_or2 {ea eb : ME} {x y : Expr} {r : List Expr} {pos : Pos} {v : Bool} (ha : PE X x (tE S Z G W true ea)) (hb : PE X (.BoolOp .Or (y :: r) pos) (tE S Z G W true eb)) : PE X (.BoolOp .Or (x :: y :: r) pos) (tE S Z G W v (.or2 ea eb)) := by
  refine (pe_or ha hb).weak fun σ H Q h => ?_
  obtain ⟨F, P, a, sr, o⟩ := h
  refine ⟨F, P, a, sr, o.bind.imp fun d1 a1 e1 o1 v1 F1 H1 P1 Pa1 ok1 => ?_⟩
  cases d1 <;> try exact o1.elim
  rename_i b
  obtain ⟨rfl, _⟩ := rep_bl.mp ok1.rep
  refine ⟨b, rfl, ?_⟩
  cases b with
  | false =>
    rw [if_neg (by decide)]
    refine ⟨F1, Pa1, a1, ok1.sr, (o1.bind.at ok1.ext).imp fun d2 a2 e2 o2 v2 F2 H2 P2 Pa2 ok2 => ?_⟩
    cases d2 <;> try exact o2.elim
    rename_i c
    obtain ⟨rfl, rfl⟩ := rep_bl.mp ok2.rep
    exact o2 _ F2 H2 Emp Pa2 (.flat ok2.sr (ok1.ext.trans ok2.ext) (fun h => pure2 ok1 ok2 (by simpa [atE, pureE] using h)) rfl (rep_bl.mpr ⟨rfl, rfl⟩))
  | true =>
    rw [if_pos rfl]
    exact o1 _ F1 H1 Emp Pa1 (.flat ok1.sr ok1.ext (fun h => ok1.same (by simp [atE, pureE] at h ⊢; exact h.1)) rfl (rep_bl.mpr ⟨rfl, rfl⟩))
/-- an expression's outcome is told for another mark, where the value stands in no slot -/
theorem Ok.re {t : At} {d : D} {v : V} {Pd Pa : Fp} {e : ME} {w : Bool} {kp : Bool} {F' H' : Hp} (o : Ok S F H P σ (atE false e) d a' v F' H' Pd Pa) (hk : kp = true → Same H H') : Ok S F H P σ ⟨w, kp, none⟩ d a' v F' H' Pd Pa :=
  ⟨o.rep, o.sr, o.ext, fun _ => o.ext2 rfl, fun _ => o.dis rfl, fun _ => o.fr rfl, hk, fun i h => nomatch h⟩
theorem Ok.later {t : At} {d : D} {v : V} {Pd Pa P1 : Fp} {F1 H1 F' H' : Hp} {kp : Bool} (ex : Ext F F1 H H1 P P1) (k : kp = true → Same H H1) (o : Ok S F1 H1 P1 σ t d a' v F' H' Pd Pa) : Ok S F H P σ ⟨t.tmp, kp && t.kp, t.sl⟩ d a' v F' H' Pd Pa :=
  ⟨o.rep, o.sr, ex.trans o.ext, fun h => ex.trans (o.ext2 h), o.dis, o.fr, same_trans' k o.same, o.slot⟩
theorem c_ifx {t : MT} {ea eb : ME} {c x y : Expr} {pos : Pos} {v : Bool} (hc : PT X c (tT S Z G W t)) (ha : PE X x (tE S Z G W false ea)) (hb : PE X y (tE S Z G W false eb)) : PE X (.IfExp c x y pos) (tE S Z G W v (.ifx t ea eb)) := by
  refine (pe_ifExp hc ha hb).weak fun σ H Q h => ?_
  obtain ⟨F, P, a, sr, o⟩ := h
  refine ⟨F, P, a, sr, o.bind.imp fun b a1 e1 o1 F1 H1 Pa1 sr1 ex1 sm1 => ?_⟩
  cases b with
  | true =>
    rw [if_pos rfl] at o1 ⊢
    refine ⟨F1, Pa1, a1, sr1, (o1.at ex1).imp fun d2 a2 e2 o2 v2 F2 H2 P2 Pa2 ok2 => o2 v2 F2 H2 P2 Pa2 ?_⟩
    have := ok2.later ex1 sm1
    exact ⟨this.rep, this.sr, this.ext, fun _ => this.ext2 rfl, fun _ => this.dis rfl, fun _ => this.fr rfl, fun h => this.same (by simp [atE, pureE] at h ⊢; exact ⟨h.1.1, h.1.2⟩), fun i h => by simp [atE, slotOf] at h⟩
  | false =>
    rw [if_neg (by decide)] at o1 ⊢
    refine ⟨F1, Pa1, a1, sr1, (o1.at ex1).imp fun d2 a2 e2 o2 v2 F2 H2 P2 Pa2 ok2 => o2 v2 F2 H2 P2 Pa2 ?_⟩
    have := ok2.later ex1 sm1
    exact ⟨this.rep, this.sr, this.ext, fun _ => this.ext2 rfl, fun _ => this.dis rfl, fun _ => this.fr rfl, fun h => this.same (by simp [atE, pureE] at h ⊢; exact ⟨h.1.1, h.2⟩), fun i h => by simp [atE, slotOf] at h⟩
/-- a chain of two comparisons of ints -/
theorem chain_go {c e : Cmp} {ea eb ed : ME} {K : Bool → SA → Er α} {Kw : α → SA → Prop} {f : Bool → SA → Er α} :  True := trivial
theorem c_chain {c e : Cmp} {ea eb ed : ME} {x y z : Expr} {pos : Pos} {v : Bool} (hc : OpR X (compareOp (opC c)) (rGB S (cmp c))) (he : OpR X (compareOp (opC e)) (rGB S (cmp e))) (hm : lastMarks [opC c, opC e] [y, z] = false)
    (ha : PE X x (tE S Z G W true ea)) (hb : PE X y (tE S Z G W true eb)) (hd : PE X z (tE S Z G W true ed)) : PE X (.Compare x [opC c, opC e] [y, z] pos) (tE S Z G W v (.chain c e ea eb ed)) := by
  refine (pe_chain hc he ha hb hd hm).weak fun σ H Q h => ?_
  obtain ⟨F, P, a, sr, o⟩ := h
  refine ⟨F, P, a, sr, o.bind.imp fun d1 a1 e1 o1 v1 F1 H1 P1 Pa1 ok1 => ⟨F1, Pa1, a1, ok1.sr, (o1.bind.at ok1.ext).imp fun d2 a2 e2 o2 v2 F2 H2 P2 Pa2 ok2 => ?_⟩⟩
  cases d1 <;> try exact o2.elim
  rename_i i
  cases d2 <;> try exact o2.elim
  rename_i j
  obtain ⟨rfl, rfl⟩ := rep_int.mp ok1.rep
  obtain ⟨rfl, rfl⟩ := rep_int.mp ok2.rep
  have r1 : Rep S F2 H2 (.int i) (.int i) Emp := rep_int.mpr ⟨rfl, rfl⟩
  have r2 : Rep S F2 H2 (.int j) (.int j) Emp := rep_int.mpr ⟨rfl, rfl⟩
  simp only at o2
  split at o2
  · rename_i ec
    refine ⟨F2, .int i, .int j, true, Emp, Emp, ok2.sr.sub, r1, r2, ec, true, rfl, ?_⟩
    rw [if_pos rfl]
    refine ⟨F2, Pa2, a2, ok2.sr, (o2.bind.at (ok1.ext.trans ok2.ext)).imp fun d3 a3 e3 o3 v3 F3 H3 P3 Pa3 ok3 => ?_⟩
    cases d3 <;> try exact o3.elim
    rename_i k
    obtain ⟨d, ed', q⟩ := o3.of
    simp only [Option.map_eq_some_iff] at ed'
    obtain ⟨b, ed', rfl⟩ := ed'
    refine ⟨F3, .int j, .int k, b, Emp, P3, ok3.sr.sub, rep_int.mpr ⟨rfl, rfl⟩, ok3.rep, ed', q _ F3 H3 Emp Pa3 (.flat ok3.sr (ok1.ext.trans (ok2.ext.trans ok3.ext)) (fun h => ?_) rfl (rep_bl.mpr ⟨rfl, rfl⟩))⟩
    simp only [atE, pureE, Bool.and_eq_true] at h
    exact (ok1.same h.1.1).trans ((ok2.same h.1.2).trans (ok3.same h.2))
  · rename_i ec
    refine ⟨F2, .int i, .int j, false, Emp, Emp, ok2.sr.sub, r1, r2, ec, false, rfl, ?_⟩
    rw [if_neg (by decide)]
    refine o2 _ F2 H2 Emp Pa2 (.flat ok2.sr (ok1.ext.trans ok2.ext) (fun h => ?_) rfl (rep_bl.mpr ⟨rfl, rfl⟩))
    simp only [atE, pureE, Bool.and_eq_true] at h
    exact (ok1.same h.1.1).trans (ok2.same h.1.2)
  · exact o2.elim

/-! ### tests -/
theorem t_val {ea : ME} {x : Expr} (ha : PE X x (tE S Z G W true ea)) (he : ∀ whole, isTrue x X.env whole = (do let v ← whole; standAt x.pos; holding [v] (truthy v))) : PT X x (tT S Z G W (.val ea)) := by
  refine (pt_val ha he).weak fun σ H Q h => ?_
  obtain ⟨F, P, a, sr, o⟩ := h
  refine ⟨F, P, a, sr, o.bind.imp fun d1 a1 e1 o1 v1 F1 H1 P1 Pa1 ok1 => ?_⟩
  cases d1 <;> try exact o1.elim
  obtain ⟨rfl, _⟩ := rep_bl.mp ok1.rep
  exact ⟨_, rfl, o1 F1 H1 Pa1 ok1.sr ok1.ext ok1.same⟩
theorem empty_len {α β : Type} {xs : List α} {ys : List β} (h : xs.length = ys.length) : ys.isEmpty = xs.isEmpty := by
  cases xs <;> cases ys <;> simp_all
theorem t_tru {ea : ME} {x : Expr} (ha : PE X x (tE S Z G W true ea)) (he : ∀ whole, isTrue x X.env whole = (do let v ← whole; standAt x.pos; holding [v] (truthy v))) : PT X x (tT S Z G W (.tru ea)) := by
  refine (pt_truth ha he).weak fun σ H Q h => ?_
  obtain ⟨F, P, a, sr, o⟩ := h
  refine ⟨F, P, a, sr, o.bind.imp fun d1 a1 e1 o1 v1 F1 H1 P1 Pa1 ok1 => ?_⟩
  obtain ⟨b, e, q⟩ := o1.of
  refine ⟨b, ?_, q F1 H1 Pa1 ok1.sr ok1.ext ok1.same⟩
  have r := ok1.rep
  cases d1 <;> simp only [truD, Option.some.injEq, reduceCtorEq] at e
  · obtain ⟨rfl, _⟩ := rep_non.mp r; exact e.symm
  · obtain ⟨rfl, _⟩ := rep_bl.mp r; exact e.symm
  · obtain ⟨rfl, _⟩ := rep_int.mp r; exact e.symm
  · obtain ⟨_, p, vs, rfl, ep, h1⟩ := rep_tup.mp r
    exact .inr (.inl ⟨vs, SqT.of (ok1.sr.sub _ _ ep), by rw [← e, empty_len (Reps.len h1)]⟩)
  · obtain ⟨p, vs, P', rfl, ep, h1⟩ := r.lst_at ok1.sr.sub
    exact .inl ⟨vs, SqL.of ep, by rw [← e, empty_len (Reps.len h1)]⟩
theorem t_cmp {c : Cmp} {ea eb : ME} {x y : Expr} {pos : Pos} (hc : OpR X (compareOp (opC c)) (rGB S (cmp c))) (hm : behindInMarks (opC c) y = false) (ha : PE X x (tE S Z G W true ea)) (hb : PE X y (tE S Z G W true eb)) : PT X (.Compare x [opC c] [y] pos) (tT S Z G W (.cmp c ea eb)) := by
  refine (pt_cmpR hc ha hb hm).weak fun σ H Q h => ?_
  obtain ⟨F, P, a, sr, o⟩ := h
  refine ⟨F, P, a, sr, o.bind.imp fun d1 a1 e1 o1 v1 F1 H1 P1 Pa1 ok1 => ⟨F1, Pa1, a1, ok1.sr, (o1.bind.at ok1.ext).imp fun d2 a2 e2 o2 v2 F2 H2 P2 Pa2 ok2 => ?_⟩⟩
  obtain ⟨b, e, q⟩ := o2.of
  simp only [Option.bind_eq_some_iff] at e
  obtain ⟨d1', es, e⟩ := e
  obtain ⟨P1', r1, _⟩ := stayed ok1 ok2 es rfl rfl
  exact ⟨F2, _, _, b, P1', P2, ok2.sr.sub, r1, ok2.rep, e, b, rfl, q F2 H2 Pa2 ok2.sr (ok1.ext.trans ok2.ext) (fun h => pure2 ok1 ok2 (by simpa [pureT] using h))⟩
theorem t_chain {c e : Cmp} {ea eb ed : ME} {x y z : Expr} {pos : Pos} (hc : OpR X (compareOp (opC c)) (rGB S (cmp c))) (he : OpR X (compareOp (opC e)) (rGB S (cmp e))) (hm : lastMarks [opC c, opC e] [y, z] = false)
    (ha : PE X x (tE S Z G W true ea)) (hb : PE X y (tE S Z G W true eb)) (hd : PE X z (tE S Z G W true ed)) : PT X (.Compare x [opC c, opC e] [y, z] pos) (tT S Z G W (.chain c e ea eb ed)) := by
  refine (pt_chain hc he ha hb hd hm).weak fun σ H Q h => ?_
  obtain ⟨F, P, a, sr, o⟩ := h
  refine ⟨F, P, a, sr, o.bind.imp fun d1 a1 e1 o1 v1 F1 H1 P1 Pa1 ok1 => ⟨F1, Pa1, a1, ok1.sr, (o1.bind.at ok1.ext).imp fun d2 a2 e2 o2 v2 F2 H2 P2 Pa2 ok2 => ?_⟩⟩
  cases d1 <;> try exact o2.elim
  rename_i i
  cases d2 <;> try exact o2.elim
  rename_i j
  obtain ⟨rfl, rfl⟩ := rep_int.mp ok1.rep
  obtain ⟨rfl, rfl⟩ := rep_int.mp ok2.rep
  have r1 : Rep S F2 H2 (.int i) (.int i) Emp := rep_int.mpr ⟨rfl, rfl⟩
  have r2 : Rep S F2 H2 (.int j) (.int j) Emp := rep_int.mpr ⟨rfl, rfl⟩
  simp only at o2
  split at o2
  · rename_i ec
    refine ⟨F2, .int i, .int j, true, Emp, Emp, ok2.sr.sub, r1, r2, ec, true, rfl, ?_⟩
    rw [if_pos rfl]
    refine ⟨F2, Pa2, a2, ok2.sr, (o2.bind.at (ok1.ext.trans ok2.ext)).imp fun d3 a3 e3 o3 v3 F3 H3 P3 Pa3 ok3 => ?_⟩
    cases d3 <;> try exact o3.elim
    rename_i k
    obtain ⟨b, ed', q⟩ := o3.of
    refine ⟨F3, .int j, .int k, b, Emp, P3, ok3.sr.sub, rep_int.mpr ⟨rfl, rfl⟩, ok3.rep, ed', b, rfl, q F3 H3 Pa3 ok3.sr (ok1.ext.trans (ok2.ext.trans ok3.ext)) (fun h => ?_)⟩
    simp only [pureT, Bool.and_eq_true] at h
    exact (ok1.same h.1.1).trans ((ok2.same h.1.2).trans (ok3.same h.2))
  · rename_i ec
    refine ⟨F2, .int i, .int j, false, Emp, Emp, ok2.sr.sub, r1, r2, ec, false, rfl, ?_⟩
    rw [if_neg (by decide)]
    refine ⟨false, rfl, o2 F2 H2 Pa2 ok2.sr (ok1.ext.trans ok2.ext) (fun h => ?_)⟩
    simp only [pureT, Bool.and_eq_true] at h
    exact (ok1.same h.1.1).trans (ok2.same h.1.2)
  · exact o2.elim
theorem t_isn {ea : ME} {x : Expr} {pos pos' : Pos} {j : Nat} {n : Bool} (ha : PE X x (tE S Z G W true ea)) : PT X (.Compare x [if n then .IsNot else .Is] [.Constant .none j pos'] pos) (tT S Z G W (.isn n ea)) := by
  have key : ∀ σ H (Q : Bool → Hp → Prop), tT S Z G W (.isn n ea) σ H Q → tE S Z G W true ea σ H fun x H1 => Q (if n then !decide (x = .non) else decide (x = .non)) H1 := fun σ H Q h => by
    obtain ⟨F, P, a, sr, o⟩ := h
    refine ⟨F, P, a, sr, o.bind.imp fun d1 a1 e1 o1 v1 F1 H1 P1 Pa1 ok1 => ?_⟩
    have hb : (if n then !decide (v1 = .non) else decide (v1 = .non)) = isn n d1 := by unfold isn; rw [non_iff ok1.rep]
    show Q (if n then !decide (v1 = .non) else decide (v1 = .non)) H1
    rw [hb]
    exact o1 F1 H1 Pa1 ok1.sr ok1.ext ok1.same
  have imp : ∀ σ H (R R' : VK), (∀ x H1, R x H1 → R' x H1) → tE S Z G W true ea σ H R → tE S Z G W true ea σ H R' := fun σ H R R' i h => by
    obtain ⟨F, P, a, sr, o⟩ := h
    exact ⟨F, P, a, sr, o.imp fun d a' _ k v F' H' Pd Pa ok => i _ _ (k v F' H' Pd Pa ok)⟩
  cases n with
  | true => exact (pt_cmp (pc_notN ha) rfl).weak fun σ H Q h => imp σ H _ _ (fun x H1 q => ⟨_, rfl, q⟩) (key σ H Q h)
  | false => exact (pt_cmp (pc_isN ha) rfl).weak fun σ H Q h => imp σ H _ _ (fun x H1 q => ⟨_, rfl, q⟩) (key σ H Q h)
theorem t_not {t : MT} {x : Expr} {pos : Pos} (h : PT X x (tT S Z G W t)) : PT X (.UnaryOp .Not x pos) (tT S Z G W (.not t)) := by
  refine (pt_not h).weak fun σ H Q h => ?_
  obtain ⟨F, P, a, sr, o⟩ := h
  exact ⟨F, P, a, sr, o.bind.imp fun b a1 e1 o1 F1 H1 Pa1 sr1 ex1 sm1 => o1 F1 H1 Pa1 sr1 ex1 sm1⟩
theorem _root_.L2.PW.weak {X : Cx} {e : Expr} {t t' : TT} (h : PW X e t) (w : ∀ σ H Q, t' σ H Q → t σ H Q) : PW X e t' :=
  ⟨fun wh pins s σ H Q I q => h.run wh pins s σ H Q I (w σ H Q q)⟩
theorem t_and {t u : MT} {x y : Expr} {r : List Expr} {pos : Pos} (ha : PT X x (tT S Z G W t)) (hb : PW X (.BoolOp .And (y :: r) pos) (tT S Z G W u)) : PW X (.BoolOp .And (x :: y :: r) pos) (tT S Z G W (.and t u)) := by
  refine (pw_and ha hb).weak fun σ H Q h => ?_
  obtain ⟨F, P, a, sr, o⟩ := h
  refine ⟨F, P, a, sr, o.bind.imp fun b a1 e1 o1 F1 H1 Pa1 sr1 ex1 sm1 => ?_⟩
  cases b with
  | true =>
    rw [if_pos rfl] at o1 ⊢
    exact ⟨F1, Pa1, a1, sr1, (o1.at ex1).imp fun c a2 e2 o2 F2 H2 Pa2 sr2 ex2 sm2 => o2 F2 H2 Pa2 sr2 (ex1.trans ex2) (same_trans' sm1 sm2)⟩
  | false =>
    rw [if_neg (by decide)] at o1 ⊢
    exact o1 F1 H1 Pa1 sr1 ex1 fun h => sm1 (by simp [pureT] at h; exact h.1)
theorem t_or {t u : MT} {x y : Expr} {r : List Expr} {pos : Pos} (ha : PT X x (tT S Z G W t)) (hb : PW X (.BoolOp .Or (y :: r) pos) (tT S Z G W u)) : PW X (.BoolOp .Or (x :: y :: r) pos) (tT S Z G W (.or t u)) := by
  refine (pw_or ha hb).weak fun σ H Q h => ?_
  obtain ⟨F, P, a, sr, o⟩ := h
  refine ⟨F, P, a, sr, o.bind.imp fun b a1 e1 o1 F1 H1 Pa1 sr1 ex1 sm1 => ?_⟩
  cases b with
  | true =>
    rw [if_pos rfl] at o1 ⊢
    exact o1 F1 H1 Pa1 sr1 ex1 fun h => sm1 (by simp [pureT] at h; exact h.1)
  | false =>
    rw [if_neg (by decide)] at o1 ⊢
    exact ⟨F1, Pa1, a1, sr1, (o1.at ex1).imp fun c a2 e2 o2 F2 H2 Pa2 sr2 ex2 sm2 => o2 F2 H2 Pa2 sr2 (ex1.trans ex2) (same_trans' sm1 sm2)⟩
theorem pw_of {op : PySem.BoolOp} {vs : List Expr} {pos : Pos} {t : TT} (h : PT X (.BoolOp op vs pos) t) : PW X (.BoolOp op vs pos) t :=
  ⟨fun wh pins s σ H Q I q => by
    have := h.run pins s σ H Q I q
    simp only [PySem.isTrue] at this ⊢
    exact this⟩
end
end Ab
namespace Ab
open PySem L2
variable {S : Sig} {Z : L2.St → Nat → Hp → Prop} {F F' H H' : Hp} {P : Fp} {σ : L2.St} {a a' : SA}

/-! ### handing on: several slots taken out, put back -/
def clr : List Nat → SA → SA
  | [], s => s
  | i :: is, s => clr is (s.set i none)
def mvD : List Nat → SA → Option (List D)
  | [], _ => some []
  | i :: is, s => (rd s i).bind fun d => (mvD is s).map (d :: ·)
def slotVs (σ : L2.St) : List Nat → List V → Prop
  | [], vs => vs = []
  | i :: is, vs => ∃ v r, vs = v :: r ∧ σ[i]? = some (some v) ∧ slotVs σ is r
theorem rd_set_ne {s : SA} {i j : Nat} {o : Option D} (h : i ≠ j) : rd (s.set i o) j = rd s j := by unfold rd; rw [List.getElem?_set_ne h]
theorem rd_clr : ∀ {is : List Nat} {s : SA} {j : Nat}, ¬ j ∈ is → rd (clr is s) j = rd s j
  | [], s, j, h => rfl
  | i :: is, s, j, h => by
    simp only [List.mem_cons, not_or] at h
    show rd (clr is (s.set i none)) j = rd s j
    rw [rd_clr h.2, rd_set_ne (fun e => h.1 e.symm)]
theorem nodupB_cons {i : Nat} {is : List Nat} (h : nodupB (i :: is) = true) : ¬ i ∈ is ∧ nodupB is = true := by
  simp only [nodupB, Bool.and_eq_true, Bool.not_eq_true', List.contains_eq_mem, decide_eq_false_iff_not] at h
  exact h
theorem mvD_set {is : List Nat} {s : SA} {i : Nat} {o : Option D} (h : ¬ i ∈ is) : mvD is (s.set i o) = mvD is s := by
  induction is with
  | nil => rfl
  | cons j js ih =>
    simp only [List.mem_cons, not_or] at h
    simp only [mvD]
    rw [rd_set_ne h.1, ih h.2]
/-- slots taken out -/
theorem RepS.out : ∀ {is : List Nat} {a : SA} {P : Fp} {ms : List D}, RepS S F H a σ P → nodupB is = true → mvD is a = some ms →
    ∃ vs Pm Pr, slotVs σ is vs ∧ Reps S F H ms vs Pm ∧ RepS S F H (clr is a) σ Pr ∧ P = Uni Pm Pr ∧ Dis Pm Pr
  | [], a, P, ms, h, nd, e => by
    simp only [mvD, Option.some.injEq] at e
    subst e
    exact ⟨[], Emp, P, rfl, by simp only [Reps]; exact ⟨trivial, trivial⟩, h, (emp_uni P).symm, emp_dis⟩
  | i :: is, a, P, ms, h, nd, e => by
    obtain ⟨n1, n2⟩ := nodupB_cons nd
    simp only [mvD, Option.bind_eq_some_iff, Option.map_eq_some_iff] at e
    obtain ⟨d, e1, ms', e2, rfl⟩ := e
    obtain ⟨v, P1, P2, ev, eP, di, r, h2, _⟩ := h.focus (rd_some e1)
    obtain ⟨vs, Pm, Pr, sv, rs, h3, e3, d3⟩ := RepS.out (is := is) h2 n2 (by rw [mvD_set n1]; exact e2)
    subst e3
    refine ⟨v :: vs, Uni P1 Pm, Pr, ⟨v, vs, rfl, ev, sv⟩, ?_, h3, by rw [eP, uni_assoc], Dis.uni (fun x h1 h2 => di x h1 (.inr h2)) d3⟩
    simp only [Reps]
    exact ⟨v, vs, P1, Pm, rfl, rfl, fun x h1 h2 => di x h1 (.inl h2), r, rs⟩
theorem clr_get {is : List Nat} {s : SA} {i : Nat} (h : s[i]? = some none) : (clr is s)[i]? = some none := by
  induction is generalizing s with
  | nil => exact h
  | cons j js ih =>
    refine ih ?_
    by_cases e : j = i
    · subst e
      have hl := (List.getElem?_eq_some_iff.mp h).1
      rw [List.getElem?_set_self hl]
    · rw [List.getElem?_set_ne e]; exact h
theorem clr_set {is : List Nat} {s : SA} {i : Nat} {o : Option D} (h : ¬ i ∈ is) : clr is (s.set i o) = (clr is s).set i o := by
  induction is generalizing s with
  | nil => rfl
  | cons j js ih =>
    simp only [List.mem_cons, not_or] at h
    show clr js ((s.set i o).set j none) = (clr js (s.set j none)).set i o
    rw [List.set_comm _ _ h.1, ih h.2]
theorem clr_len {is : List Nat} {s : SA} : (clr is s).length = s.length := by
  induction is generalizing s with
  | nil => rfl
  | cons j js ih => show (clr js (s.set j none)).length = _; rw [ih, List.length_set]
/-- a slot told anew, where the machine's slot holds that value -/
theorem RepS.tell {a : SA} {P : Fp} {i : Nat} {d : D} {v : V} {Pd : Fp} (h : RepS S F H a σ P) (e : a[i]? = some none) (ev : σ[i]? = some (some v)) (r : Rep S F H d v Pd) (n : Dis Pd P) : RepS S F H (a.set i (some d)) σ (Uni Pd P) := by
  have := h.put (i := i) (List.getElem?_eq_some_iff.mp e).1 e r n
  have e2 : σ.set i (some v) = σ := by
    apply List.ext_getElem?
    intro j
    by_cases hj : i = j
    · subst hj
      rw [List.getElem?_set_self (List.getElem?_eq_some_iff.mp ev).1, ev]
    · rw [List.getElem?_set_ne hj]
  rwa [e2] at this
theorem RepS.back : ∀ {is : List Nat} {a a2 : SA} {P : Fp} {ms : List D} {vs : List V} {Pm : Fp}, RepS S F H (clr is a) σ P → nodupB is = true → (∀ i ∈ is, i < a.length) → slotVs σ is vs → Reps S F H ms vs Pm → Dis Pm P → setMs is ms a = some a2 →
    RepS S F H a2 σ (Uni Pm P)
  | [], a, a2, P, ms, vs, Pm, h, nd, hl, sv, r, di, e => by
    cases ms with
    | nil =>
      simp only [setMs, Option.some.injEq] at e
      subst e
      simp only [Reps] at r
      rw [r.2, emp_uni]
      exact h
    | cons m ms => simp [setMs] at e
  | i :: is, a, a2, P, ms, vs, Pm, h, nd, hl, sv, r, di, e => by
    obtain ⟨n1, n2⟩ := nodupB_cons nd
    cases ms with
    | nil => simp [setMs] at e
    | cons m ms =>
      simp only [setMs] at e
      obtain ⟨v, vr, rfl, ev, sv⟩ := sv
      simp only [Reps] at r
      obtain ⟨v', r', P1, P2, e1, eP, d12, h1, h2⟩ := r
      cases e1
      subst eP
      have h' : RepS S F H (clr is (a.set i none)) σ P := h
      have hi : i < a.length := hl i List.mem_cons_self
      have hn : (clr is (a.set i none))[i]? = some none := clr_get (List.getElem?_set_self hi)
      have t := h'.tell hn ev h1 fun x p q => di x (.inl p) q
      rw [← clr_set n1, List.set_set] at t
      have := RepS.back (is := is) t n2 (fun j hj => by rw [List.length_set]; exact hl j (List.mem_cons_of_mem _ hj)) sv h2 (Dis.uni' (fun x p q => d12 x q p) fun x p q => di x (.inr p) q) e
      rwa [← uni_assoc, uni_comm P2 P1] at this
/-! ### what is held is no tuple -/
def notTup : HO → Prop
  | .tup _ => False
  | _ => True
mutual
theorem Rep.nt : ∀ (d : D) {v : V} {P : Fp}, Rep S F H d v P → ∀ x, P x → ∃ o, H x = some o ∧ notTup o
  | .non, v, P, h, x, hx => by simp only [Rep] at h; rw [h.2] at hx; exact hx.elim
  | .bl b, v, P, h, x, hx => by simp only [Rep] at h; rw [h.2] at hx; exact hx.elim
  | .int i, v, P, h, x, hx => by simp only [Rep] at h; rw [h.2] at hx; exact hx.elim
  | .str s, v, P, h, x, hx => by simp only [Rep] at h; rw [h.2] at hx; exact hx.elim
  | .tup ds, v, P, h, x, hx => by simp only [Rep] at h; rw [h.1] at hx; exact hx.elim
  | .lst m ds, v, P, h, x, hx => by
    simp only [Rep] at h
    obtain ⟨a, vs, ev, h⟩ := h
    split at h
    · obtain ⟨ea, pa, P', np, eP, h⟩ := h
      rw [eP] at hx
      rcases hx with hx | hx
      · exact ⟨.lst vs, hx ▸ ea, trivial⟩
      · exact Reps.nt ds h x hx
    · rw [h.1] at hx; exact hx.elim
  | .ins m c ds, v, P, h, x, hx => by
    simp only [Rep] at h
    obtain ⟨a, cl, dx, vs, ev, hc, hl, h⟩ := h
    split at h
    · obtain ⟨ea, pa, P', np, eP, h⟩ := h
      rw [eP] at hx
      rcases hx with hx | hx
      · exact ⟨.ins cl.addr dx (cl.fields.zip vs), hx ▸ ea, trivial⟩
      · exact Reps.nt ds h x hx
    · rw [h.1] at hx; exact hx.elim
  | .dic m t ks ds, v, P, h, x, hx => by
    simp only [Rep] at h
    obtain ⟨a, vs, ev, hk, hl, h⟩ := h
    split at h
    · obtain ⟨ea, pa, P', np, eP, h⟩ := h
      rw [eP] at hx
      rcases hx with hx | hx
      · refine ⟨dO t ks vs, hx ▸ ea, ?_⟩
        unfold dO; split <;> trivial
      · exact Reps.nt ds h x hx
    · rw [h.1] at hx; exact hx.elim
  | .scr is, v, P, h, x, hx => by simp only [Rep] at h; rw [h.1] at hx; exact hx.elim
theorem Reps.nt : ∀ (ds : List D) {vs : List V} {P : Fp}, Reps S F H ds vs P → ∀ x, P x → ∃ o, H x = some o ∧ notTup o
  | [], vs, P, h, x, hx => by simp only [Reps] at h; rw [h.2] at hx; exact hx.elim
  | d :: ds, vs, P, h, x, hx => by
    simp only [Reps] at h
    obtain ⟨v, r, P1, P2, e1, e2, di, h1, h2⟩ := h
    rw [e2] at hx
    exact hx.elim (Rep.nt d h1 x) (Reps.nt ds h2 x)
end
theorem RepS.nt : ∀ {a : SA} {σ : L2.St} {P : Fp}, RepS S F H a σ P → ∀ x, P x → ∃ o, H x = some o ∧ notTup o
  | [], σ, P, h, x, hx => by rw [h.2] at hx; exact hx.elim
  | none :: r, σ, P, h, x, hx => by obtain ⟨o, σ', e, h⟩ := h; exact RepS.nt h x hx
  | some d :: r, σ, P, h, x, hx => by
    obtain ⟨v, σ', P1, P2, e, e2, di, h1, h⟩ := h
    rw [e2] at hx
    exact hx.elim (h1.nt d x) (RepS.nt h x)
-- a value without shared lists: its tuples alone are looked at
mutual
theorem Rep.noL (hT : ∀ x vs, F x = some (.tup vs) → F' x = some (.tup vs)) : ∀ (d : D) {v : V} {P : Fp}, Rep S F H d v P → noL d = true → Rep S F' H d v P
  | .non, v, P, h, k => h
  | .bl b, v, P, h, k => h
  | .int i, v, P, h, k => h
  | .str s, v, P, h, k => h
  | .tup ds, v, P, h, k => by
    simp only [Rep] at h ⊢
    simp only [Ab.noL] at k
    obtain ⟨e, a, vs, ev, ea, h⟩ := h
    exact ⟨e, a, vs, ev, hT _ _ ea, Reps.noL hT ds h k⟩
  | .lst m ds, v, P, h, k => by
    simp only [Ab.noL, Bool.and_eq_true] at k
    simp only [Rep, k.1, if_pos] at h ⊢
    obtain ⟨a, vs, ev, ea, pa, P', np, eP, h⟩ := h
    exact ⟨a, vs, ev, ea, pa, P', np, eP, Reps.noL hT ds h k.2⟩
  | .ins m c ds, v, P, h, k => by
    simp only [Ab.noL, Bool.and_eq_true] at k
    simp only [Rep, k.1, if_pos] at h ⊢
    obtain ⟨a, cl, dx, vs, ev, hc, hl, ea, pa, P', np, eP, h⟩ := h
    exact ⟨a, cl, dx, vs, ev, hc, hl, ea, pa, P', np, eP, Reps.noL hT ds h k.2⟩
  | .dic m t ks ds, v, P, h, k => by
    simp only [Ab.noL, Bool.and_eq_true] at k
    simp only [Rep, k.1, if_pos] at h ⊢
    obtain ⟨a, vs, ev, hk, hl, ea, pa, P', np, eP, h⟩ := h
    exact ⟨a, vs, ev, hk, hl, ea, pa, P', np, eP, Reps.noL hT ds h k.2⟩
  | .scr is, v, P, h, k => by simp [Ab.noL] at k
theorem Reps.noL (hT : ∀ x vs, F x = some (.tup vs) → F' x = some (.tup vs)) : ∀ (ds : List D) {vs : List V} {P : Fp}, Reps S F H ds vs P → noLs ds = true → Reps S F' H ds vs P
  | [], vs, P, h, k => h
  | d :: ds, vs, P, h, k => by
    simp only [noLs, Bool.and_eq_true] at k
    simp only [Reps] at h ⊢
    obtain ⟨v, r, P1, P2, e1, e2, di, h1, h2⟩ := h
    exact ⟨v, r, P1, P2, e1, e2, di, Rep.noL hT d h1 k.1, Reps.noL hT ds h2 k.2⟩
end
end Ab
namespace Ab
open PySem L2
open Classical
variable {S : Sig} {Z : L2.St → Nat → Hp → Prop} {F F' H H' : Hp} {P : Fp} {σ : L2.St} {a a' : SA}

def RepAV (S : Sig) (F H : Hp) (σ : L2.St) : List AV → List V → Fp → Prop
  | [], vs, P => vs = [] ∧ P = Emp
  | .val d :: r, vs, P => ∃ v vr P1 P2, vs = v :: vr ∧ P = Uni P1 P2 ∧ Dis P1 P2 ∧ Rep S F H d v P1 ∧ RepAV S F H σ r vr P2
  | .bor i :: r, vs, P => ∃ v vr, vs = v :: vr ∧ σ[i]? = some (some v) ∧ RepAV S F H σ r vr P
  | .mv i :: r, vs, P => ∃ v vr, vs = v :: vr ∧ σ[i]? = some (some v) ∧ RepAV S F H σ r vr P
structure OkA (S : Sig) (F H : Hp) (P : Fp) (σ : L2.St) (avs : List AV) (a' : SA) (vs : List V) (F' H' : Hp) (Pd Pa : Fp) : Prop where
  rep : RepAV S F' H' σ avs vs Pd
  sr : SR S F' H' a' σ Pa
  ext : Ext F F' H H' P Pa
  ext2 : Ext F F' H H' P (Uni Pd Pa)
  dis : Dis Pd Pa
  fr : ∀ x, Pd x → F' x = none
theorem RepAV.keep (hF : Same F F') : ∀ {avs : List AV} {vs : List V} {P : Fp}, RepAV S F H σ avs vs P → (∀ x, P x → H' x = H x) → RepAV S F' H' σ avs vs P
  | [], vs, P, h, k => h
  | .val d :: r, vs, P, h, k => by
    obtain ⟨v, vr, P1, P2, e1, e2, di, h1, h2⟩ := h
    exact ⟨v, vr, P1, P2, e1, e2, di, h1.keep hF d fun x hx => k x (by rw [e2]; exact .inl hx), RepAV.keep hF h2 fun x hx => k x (by rw [e2]; exact .inr hx)⟩
  | .bor i :: r, vs, P, h, k => by
    obtain ⟨v, vr, e1, e2, h2⟩ := h
    exact ⟨v, vr, e1, e2, RepAV.keep hF h2 k⟩
  | .mv i :: r, vs, P, h, k => by
    obtain ⟨v, vr, e1, e2, h2⟩ := h
    exact ⟨v, vr, e1, e2, RepAV.keep hF h2 k⟩
/-- the reading of an argument list -/
def tAV (S : Sig) (Z : L2.St → Nat → Hp → Prop) (kp : Bool) (f : SA → Er (List AV)) : TA := fun σ H Q => ∃ F P a, SR S F H a σ P ∧
  Out S (Z σ) F H P σ (fun avs a' => ∀ vs F' H' Pd Pa, OkA S F H P σ avs a' vs F' H' Pd Pa → (kp = true → Same H H') → Q vs H') (f a)
def mvsA : MAs → List Nat
  | .nil => []
  | .cons (.mv i) as => i :: mvsA as
  | .cons _ as => mvsA as
def posA (k : Nat) : MAs → List Nat
  | .nil => []
  | .cons (.mv _) as => k :: posA (k + 1) as
  | .cons _ as => posA (k + 1) as
def posV (k : Nat) : List AV → List Nat
  | [] => []
  | .mv _ :: as => k :: posV (k + 1) as
  | _ :: as => posV (k + 1) as
/-- what is pure but for what is handed on -/
def calmA : MA → Bool
  | .rd e => pureE e
  | _ => true
def calmAs : MAs → Bool
  | .nil => true
  | .cons a as => calmA a && calmAs as
section
variable {X : Cx} {G : Env0A} {W : Nat}
abbrev tAVs (S : Sig) (Z : L2.St → Nat → Hp → Prop) (G : Env0A) (W : Nat) (as : MAs) : TA := tAV S Z (calmAs as) (evAs G W as)
theorem OkA.nil (sr : SR S F H a σ P) : OkA S F H P σ [] a [] F H Emp P :=
  ⟨⟨rfl, rfl⟩, sr, .refl, by rw [emp_uni]; exact .refl, emp_dis, fun x h => h.elim⟩
theorem a_nil : PA X [] (tAVs S Z G W .nil) := pa_nil.weak fun σ H Q h => by
  obtain ⟨F, P, a, sr, o⟩ := h
  exact o [] F H Emp P (.nil sr) fun _ _ _ z => z
theorem a_rd {e : Expr} {es : List Expr} {me : ME} {as : MAs} (he : PE X e (tE S Z G W false me)) (hs : PA X es (tAVs S Z G W as)) (hst : starEach (e :: es) X.env = (false, eval e X.env) :: starEach es X.env) : PA X (e :: es) (tAVs S Z G W (.cons (.rd me) as)) := by
  refine (pa_cons he hs hst).weak fun σ H Q h => ?_
  obtain ⟨F, P, a, sr, o⟩ := h
  have e0 : evAs G W (.cons (.rd me) as) a = ((ev G W false me a).bind fun d s1 => (evAs G W as s1).bind fun xs s2 => .ok (.val d :: xs) s2) := by
    simp only [evAs, evA]
    cases ev G W false me a <;> rfl
  rw [e0] at o
  refine ⟨F, P, a, sr, o.bind.imp fun d a1 e1 o1 v1 F1 H1 P1 Pa1 ok1 => ⟨F1, Pa1, a1, ok1.sr, (o1.bind.at ok1.ext).imp fun avs a2 e2 o2 vs F2 H2 P2 Pa2 ok2 sm2 => ?_⟩⟩
  have di := ok1.dis rfl
  have held := ok1.rep.held d
  have d2 := ok2.ext2.dis di held
  refine o2 (v1 :: vs) F2 H2 (Uni P1 P2) Pa2 ⟨⟨v1, vs, P1, P2, rfl, rfl, fun x h1 h2 => d2 x h1 (.inl h2), ok2.ext.aside ok1.rep di, ok2.rep⟩, ok2.sr, ok1.ext.trans ok2.ext, ?_, Dis.uni (fun x h1 h2 => d2 x h1 (.inr h2)) ok2.dis, fun x h => h.elim (ok2.ext.unf di held (ok1.fr rfl) x) (ok2.fr x)⟩ fun h => ?_
  · have z := ok2.ext2.frame (R := P1)
    rw [uni_comm Pa1 P1] at z
    refine ((ok1.ext2 rfl).trans z).eqP ?_
    rw [uni_comm (Uni P2 Pa2), ← uni_assoc]
  · simp only [calmAs, calmA, Bool.and_eq_true] at h
    exact (ok1.same h.1).trans (sm2 h.2)
theorem a_slot {i : Nat} {x : Str} {pos : Pos} {es : List Expr} {as : MAs} {m : MA} (hm : m = .bor i ∨ m = .mv i) (hN : X.N[i]? = some x) (hv : Vis X.env.scope x) (hd : (x == ("__debug__" : Str)) = false) (hcd : (x == ("__classdict__" : Str)) = false)
    (hs : PA X es (tAVs S Z G W as)) (hst : starEach (.Name x pos :: es) X.env = (false, eval (.Name x pos) X.env) :: starEach es X.env) : PA X (.Name x pos :: es) (tAVs S Z G W (.cons m as)) := by
  refine (pa_cons (pe_var hN hv hd hcd) hs hst).weak fun σ H Q h => ?_
  obtain ⟨F, P, a, sr, o⟩ := h
  cases e : rd a i with
  | none =>
    rcases hm with rfl | rfl <;> (simp only [evAs, evA, e] at o; exact o.elim)
  | some d =>
    obtain ⟨v, P1, P2, e1, e2, di, r, h2, _⟩ := sr.rep.focus (rd_some e)
    refine ⟨v, e1, F, P, a, sr, ?_⟩
    rcases hm with rfl | rfl
    · simp only [evAs, evA, e] at o
      refine Out.imp (Out.bind o) fun avs a2 e2 o2 vs F2 H2 P2 Pa2 ok2 sm2 => ?_
      exact o2 (v :: vs) F2 H2 P2 Pa2 ⟨⟨v, vs, rfl, e1, ok2.rep⟩, ok2.sr, ok2.ext, ok2.ext2, ok2.dis, ok2.fr⟩ fun h => sm2 (by simp only [calmAs, calmA, Bool.and_eq_true] at h; exact h.2)
    · simp only [evAs, evA, e] at o
      refine Out.imp (Out.bind o) fun avs a2 e2 o2 vs F2 H2 P2 Pa2 ok2 sm2 => ?_
      exact o2 (v :: vs) F2 H2 P2 Pa2 ⟨⟨v, vs, rfl, e1, ok2.rep⟩, ok2.sr, ok2.ext, ok2.ext2, ok2.dis, ok2.fr⟩ fun h => sm2 (by simp only [calmAs, calmA, Bool.and_eq_true] at h; exact h.2)
/-- what an argument list's outcome tells of its marks -/
theorem evAs_pos : ∀ {as : MAs} {a a' : SA} {avs : List AV} (k : Nat), evAs G W as a = .ok avs a' → posV k avs = posA k as ∧ mvs avs = mvsA as
  | .nil, a, a', avs, k, h => by
    simp only [evAs, Er.ok.injEq] at h
    rw [← h.1]; exact ⟨rfl, rfl⟩
  | .cons m as, a, a', avs, k, h => by
    simp only [evAs] at h
    cases hm : evA G W m a with
    | bad => rw [hm] at h; cases h
    | rz c s => rw [hm] at h; cases h
    | ok av s =>
      rw [hm] at h
      simp only [Er.bind] at h
      cases ha : evAs G W as s with
      | bad => rw [ha] at h; cases h
      | rz c s => rw [ha] at h; cases h
      | ok xs s2 =>
        rw [ha] at h
        simp only [Er.ok.injEq] at h
        obtain ⟨rfl, _⟩ := h
        obtain ⟨q1, q2⟩ := evAs_pos (k + 1) ha
        cases m with
        | rd e =>
          simp only [evA] at hm
          cases he : ev G W false e a with
          | bad => rw [he] at hm; cases hm
          | rz c s => rw [he] at hm; cases hm
          | ok d s' =>
            rw [he] at hm
            simp only [Er.bind, Er.ok.injEq] at hm
            obtain ⟨rfl, _⟩ := hm
            exact ⟨q1, q2⟩
        | bor i =>
          simp only [evA] at hm
          split at hm
          · simp only [Er.ok.injEq] at hm
            obtain ⟨rfl, _⟩ := hm
            exact ⟨q1, q2⟩
          · cases hm
        | mv i =>
          simp only [evA] at hm
          split at hm
          · simp only [Er.ok.injEq] at hm
            obtain ⟨rfl, _⟩ := hm
            exact ⟨by simp only [posV, posA, q1], by simp only [mvs, mvsA, q2]⟩
          · cases hm
end
/-! ### what a def promises -/
def RzOk (S : Sig) (F H : Hp) (P : Fp) (fix : List Nat) (vs : List V) (Q : VK) (E : XK) : Res → Prop
  | .ok d ms => ∀ v ws F' H' Pd Pm, slotVs (vs.map some) fix ws → Rep S F' H' d v Pd → Reps S F' H' ms ws Pm → Dis Pd Pm → (∀ x, Uni Pd Pm x → F' x = none) → Same F' H' → Ext F F' H H' P (Uni Pd Pm) → Q v H'
  | .rz c ms => ∀ ws F' H' Pm, slotVs (vs.map some) fix ws → Reps S F' H' ms ws Pm → (∀ x, Pm x → F' x = none) → Same F' H' → Ext F F' H H' P Pm → E (S.exn c) none H'
  | .bad => False
def spA (S : Sig) (fix : List Nat) (g : Callee) : Sp := fun vs H Q E => ∃ F ds P, Reps S F H ds vs P ∧ (∀ x, P x → F x = none) ∧ Same F H ∧ RzOk S F H P fix vs Q E (g ds)
theorem avDs_mvD {a : SA} : ∀ {avs : List AV} {ds : List D}, avDs a avs = some ds → ∃ ms, mvD (mvs avs) a = some ms
  | [], ds, h => ⟨[], rfl⟩
  | .val d :: r, ds, h => by
    simp only [avDs, Option.bind_eq_some_iff, Option.map_eq_some_iff] at h
    obtain ⟨d', _, ds', h2, _⟩ := h
    obtain ⟨ms, h3⟩ := avDs_mvD (avs := r) h2
    exact ⟨ms, h3⟩
  | .bor i :: r, ds, h => by
    simp only [avDs, Option.bind_eq_some_iff, Option.map_eq_some_iff] at h
    obtain ⟨d', _, ds', h2, _⟩ := h
    obtain ⟨ms, h3⟩ := avDs_mvD (avs := r) h2
    exact ⟨ms, h3⟩
  | .mv i :: r, ds, h => by
    simp only [avDs, avD, Option.bind_eq_some_iff, Option.map_eq_some_iff] at h
    obtain ⟨d', h1, ds', h2, _⟩ := h
    obtain ⟨ms, h3⟩ := avDs_mvD h2
    exact ⟨d' :: ms, by simp only [mvs, mvD, h1, h3]; rfl⟩
theorem av_reps {F1 H1 Fc : Hp} {a : SA} (sF : Same F1 Fc) : ∀ {avs : List AV} {vs : List V} {Pd : Fp} {ds ms : List D} {vs0 : List V} {Pm : Fp}, RepAV S F1 H1 σ avs vs Pd → avDs a avs = some ds → mvD (mvs avs) a = some ms → slotVs σ (mvs avs) vs0 → Reps S F1 H1 ms vs0 Pm → (∀ x, Pd x → Fc x = H1 x) →
    (∀ i ∈ bors avs, ∀ d v, rd a i = some d → σ[i]? = some (some v) → Rep S Fc H1 (frz d) v Emp) → Reps S Fc H1 ds vs Pm
  | [], vs, Pd, ds, ms, vs0, Pm, r, e1, e2, sv, rm, hp, hb => by
    simp only [avDs, Option.some.injEq] at e1
    simp only [mvs, mvD, Option.some.injEq] at e2
    subst e1; subst e2
    simp only [Reps] at rm ⊢
    exact ⟨r.1, rm.2⟩
  | .val d :: r, vs, Pd, ds, ms, vs0, Pm, ra, e1, e2, sv, rm, hp, hb => by
    simp only [avDs, avD, Option.bind_eq_some_iff, Option.map_eq_some_iff] at e1
    obtain ⟨d', h1, ds', h2, rfl⟩ := e1
    cases h1
    obtain ⟨v, vr, P1, P2, rfl, rfl, di, rv, rr⟩ := ra
    simp only [Reps]
    exact ⟨v, vr, Emp, Pm, rfl, (emp_uni _).symm, emp_dis, rv.frz sF d fun x hx => hp x (.inl hx), av_reps sF rr h2 e2 sv rm (fun x hx => hp x (.inr hx)) hb⟩
  | .bor i :: r, vs, Pd, ds, ms, vs0, Pm, ra, e1, e2, sv, rm, hp, hb => by
    simp only [avDs, avD, Option.bind_eq_some_iff, Option.map_eq_some_iff] at e1
    obtain ⟨d', ⟨d0, h0, rfl⟩, ds', h2, rfl⟩ := e1
    obtain ⟨v, vr, rfl, ev, rr⟩ := ra
    simp only [Reps]
    exact ⟨v, vr, Emp, Pm, rfl, (emp_uni _).symm, emp_dis, hb i (by simp [bors]) d0 v h0 ev, av_reps sF rr h2 e2 sv rm hp fun j hj => hb j (by simp [bors, hj])⟩
  | .mv i :: r, vs, Pd, ds, ms, vs0, Pm, ra, e1, e2, sv, rm, hp, hb => by
    simp only [avDs, avD, Option.bind_eq_some_iff, Option.map_eq_some_iff] at e1
    obtain ⟨d', h1, ds', h2, rfl⟩ := e1
    simp only [mvs, mvD, Option.bind_eq_some_iff, Option.map_eq_some_iff] at e2
    obtain ⟨d2, k1, ms', k2, rfl⟩ := e2
    rw [h1] at k1; cases k1
    obtain ⟨v, vr, rfl, ev, rr⟩ := ra
    obtain ⟨v', vr', rfl, ev', sv⟩ := sv
    rw [ev] at ev'; cases ev'
    simp only [Reps] at rm ⊢
    obtain ⟨v2, r2, P1, P2, e3, rfl, di, rv, rs⟩ := rm
    cases e3
    exact ⟨v, vr, P1, P2, rfl, rfl, di, rv.keep sF d' fun _ _ => rfl, av_reps sF rr h2 k2 sv rs hp hb⟩
theorem slots_of {F1 H1 : Hp} : ∀ {avs : List AV} {vs pre ws : List V} {Pd : Fp}, RepAV S F1 H1 σ avs vs Pd → slotVs ((pre ++ vs).map some) (posV pre.length avs) ws → slotVs σ (mvs avs) ws
  | [], vs, pre, ws, Pd, ra, h => h
  | .val d :: r, vs, pre, ws, Pd, ra, h => by
    obtain ⟨v, vr, P1, P2, rfl, rfl, di, rv, rr⟩ := ra
    show slotVs σ (mvs r) ws
    refine slots_of (avs := r) (pre := pre ++ [v]) rr ?_
    rw [List.append_assoc, List.length_append]; exact h
  | .bor i :: r, vs, pre, ws, Pd, ra, h => by
    obtain ⟨v, vr, rfl, ev, rr⟩ := ra
    show slotVs σ (mvs r) ws
    refine slots_of (avs := r) (pre := pre ++ [v]) rr ?_
    rw [List.append_assoc, List.length_append]; exact h
  | .mv i :: r, vs, pre, ws, Pd, ra, h => by
    obtain ⟨v, vr, rfl, ev, rr⟩ := ra
    obtain ⟨w, wr, rfl, ew, h⟩ := h
    have : w = v := by
      rw [List.getElem?_map, List.getElem?_append_right (Nat.le_refl _), Nat.sub_self] at ew
      simpa using ew.symm
    subst this
    refine ⟨w, wr, rfl, ev, slots_of (pre := pre ++ [w]) rr ?_⟩
    rw [List.append_assoc, List.length_append]; exact h
end Ab
namespace Ab
open PySem L2
open Classical
variable {S : Sig} {Z : L2.St → Nat → Hp → Prop} {F F' H H' : Hp} {P : Fp} {σ : L2.St} {a a' : SA}

structure Came (S : Sig) (F1 F' F2 H1 H' : Hp) (Pm N Pr R : Fp) (b : SA) (σ : L2.St) : Prop where
  same : Same F1 F2
  tup : ∀ x vs, F' x = some (.tup vs) → F2 x = some (.tup vs)
  lent : (∀ x, R x → ¬ Pr x) → F2 = F'
  rep : RepS S F2 H' b σ Pr
  fr : ∀ x, Uni N Pr x → F2 x = none
  sub : Same F2 H'
  dis : Dis N Pr
  ext : ∀ Pd, (∀ x, R x → Uni Pd Pr x) → Ext F1 F2 H1 H' (Uni Pd (Uni Pm Pr)) (Uni N Pr)
theorem came {F1 F' H1 H' : Hp} {Pm N Pr R : Fp} {b : SA} (rep : RepS S F1 H1 b σ Pr) (sub : Same F1 H1) (fr : ∀ x, Uni Pm Pr x → F1 x = none) (hR : ∀ x, R x → F1 x = none) (dPm : Dis Pm Pr)
    (ex : Ext (take F1 H1 R) F' H1 H' Pm N) (nf : ∀ x, N x → F' x = none) (sub' : Same F' H') : ∃ F2, Came S F1 F' F2 H1 H' Pm N Pr R b σ := by
  have held := rep.held
  have kept : ∀ x, Pr x → H' x = H1 x := fun x hx => by
    obtain ⟨o, q⟩ := held x hx
    rw [q]; exact ex.kept x o q fun z => dPm x z hx
  have sF := (take_same (H := H1) hR).trans ex.same
  have f2 : ∀ x, ¬ Pr x → (if Pr x then (none : Option HO) else F' x) = F' x := fun x h => if_neg h
  have f0 : ∀ x, Pr x → (if Pr x then (none : Option HO) else F' x) = none := fun x h => if_pos h
  have s12 : Same F1 fun x => if Pr x then none else F' x := fun x o e => by
    have : ¬ Pr x := fun z => by rw [fr x (.inr z)] at e; cases e
    show (if Pr x then none else F' x) = some o
    rw [f2 x this]; exact sF x o e
  refine ⟨fun x => if Pr x then none else F' x, s12, fun x vs e => ?_, fun h => ?_, rep.keep s12 kept, fun x h => ?_, fun x o e => ?_, fun x hn hp => ?_, fun Pd hPd => ⟨s12, fun x o e n => ?_, fun x h => ?_, fun x o e => ?_⟩⟩
  · have : ¬ Pr x := fun z => by
      obtain ⟨o, q, t⟩ := rep.nt x z
      have := sub' x _ e
      rw [kept x z, q] at this
      cases this
      exact t
    show (if Pr x then none else F' x) = _
    rw [f2 x this, e]
  · funext x
    show (if Pr x then none else F' x) = _
    by_cases hp : Pr x
    · rw [f0 x hp]
      cases q : F' x with
      | none => rfl
      | some o =>
        rcases ex.frz x o q with ⟨o', z⟩ | z | z
        · rw [take_out fun z => h x z hp, fr x (.inr hp)] at z; cases z
        · exact (dPm x z hp).elim
        · obtain ⟨o', q'⟩ := held x hp
          rw [z] at q'; cases q'
    · rw [f2 x hp]
  · show (if Pr x then none else F' x) = none
    by_cases hp : Pr x
    · exact f0 x hp
    · rw [f2 x hp]
      exact nf x (h.elim id fun z => (hp z).elim)
  · have e : (if Pr x then none else F' x) = some o := e
    by_cases hp : Pr x
    · rw [f0 x hp] at e; cases e
    · rw [f2 x hp] at e; exact sub' x o e
  · rcases ex.own x hn with z | z
    · exact dPm x z hp
    · obtain ⟨o', q'⟩ := held x hp
      rw [z] at q'; cases q'
  · exact ex.kept x o e fun z => n (.inr (.inl z))
  · rcases h with h | h
    · exact (ex.own x h).elim (fun z => .inl (.inr (.inl z))) .inr
    · exact .inl (.inr (.inr h))
  · have e : (if Pr x then none else F' x) = some o := e
    by_cases hp : Pr x
    · rw [f0 x hp] at e; cases e
    · rw [f2 x hp] at e
      rcases ex.frz x o e with ⟨o', z⟩ | z | z
      · by_cases hr : R x
        · exact .inr (.inl ((hPd x hr).elim .inl fun z => .inr (.inr z)))
        · rw [take_out hr] at z; exact .inl ⟨o', z⟩
      · exact .inr (.inl (.inr (.inl z)))
      · exact .inr (.inr z)
theorem rd_lt {s : SA} {i : Nat} {d : D} (h : rd s i = some d) : i < s.length := (List.getElem?_eq_some_iff.mp (rd_some h)).1
theorem mvD_lt : ∀ {is : List Nat} {s : SA} {ms : List D}, mvD is s = some ms → ∀ i ∈ is, i < s.length
  | [], s, ms, h, i, hi => by simp at hi
  | j :: js, s, ms, h, i, hi => by
    simp only [mvD, Option.bind_eq_some_iff, Option.map_eq_some_iff] at h
    obtain ⟨d, h1, ms', h2, _⟩ := h
    rcases List.mem_cons.mp hi with rfl | hi
    · exact rd_lt h1
    · exact mvD_lt h2 i hi
theorem lent_still {as : List AV} {s : SA} (h : lent as s = true) : ∀ i ∈ bors as, ∀ d, rd s i = some d → still d = true := fun i hi d e => by
  unfold lent at h
  have := List.all_eq_true.mp h i hi
  rw [e] at this
  exact this
theorem slotVs_nil {σ : L2.St} {ws : List V} (h : slotVs σ [] ws) : ws = [] := h
/-- a call: what is handed on is taken out of the slots, and put back behind it -/
theorem called_ok {g : Callee} {avs : List AV} {vs : List V} {F1 H1 : Hp} {Pd Pa : Fp} {kp : Bool} {Q : VK} {E : XK} (ok : OkA S F H P σ avs a vs F1 H1 Pd Pa) (o : Out S (Z σ) F H P σ (KV S F H P σ ⟨true, kp, none⟩ Q) (called g avs a))
    (hk : kp = true → mvs avs = [] ∧ Same H H1) (hE : ∀ c H', Z σ c H' → E (S.exn c) none H') : spA S (posV 0 avs) g vs H1 Q E := by
  unfold called at o
  cases ed : avDs a avs with
  | none => rw [ed] at o; exact o.elim
  | some ds =>
    rw [ed] at o
    simp only at o
    split at o
    case isFalse => exact o.elim
    rename_i hok
    unfold okAV at hok
    simp only [Bool.and_eq_true] at hok
    obtain ⟨nd, hnb⟩ := hok
    obtain ⟨ms0, em⟩ := avDs_mvD ed
    obtain ⟨vs0, Pm, Pr, sv, rm, rr, eP, dmr⟩ := ok.sr.rep.out nd em
    have nb : ∀ i ∈ bors avs, ¬ i ∈ mvs avs := fun i hi hm => by
      have := List.all_eq_true.mp hnb i hm
      simp only [Bool.not_eq_true', List.contains_eq_mem, decide_eq_false_iff_not] at this
      exact this hi
    have hPa : ∀ x, Pa x → F1 x = none := ok.sr.fr
    have hPm : ∀ x, Pm x → F1 x = none := fun x hx => hPa x (by rw [eP]; exact .inl hx)
    have hPr : ∀ x, Pr x → F1 x = none := fun x hx => hPa x (by rw [eP]; exact .inr hx)
    have dPd : Dis Pd Pm ∧ Dis Pd Pr := ⟨fun x h1 h2 => ok.dis x h1 (by rw [eP]; exact .inl h2), fun x h1 h2 => ok.dis x h1 (by rw [eP]; exact .inr h2)⟩
    -- what is shared for the callee
    have main : ∀ R : Fp, (∀ x, Pd x → R x) → (∀ x, R x → Uni Pd Pr x) → (∀ i ∈ bors avs, ∀ d v P1, rd a i = some d → Rep S F1 H1 d v P1 → (∀ x, P1 x → Pr x) → ∀ x, P1 x → R x) →
        (∀ d ms, g ds = .ok d ms → (∀ x, R x → ¬ Pr x) ∨ (noL d = true ∧ noLs ms = true)) → (∀ c ms, g ds = .rz c ms → (∀ x, R x → ¬ Pr x) ∨ noLs ms = true) → spA S (posV 0 avs) g vs H1 Q E := fun R hR1 hR2 hR3 hn1 hn2 => by
      have hR : ∀ x, R x → F1 x = none := fun x h => (hR2 x h).elim (ok.fr x) (hPr x)
      have sF := take_same (H := H1) hR
      have rb : ∀ i ∈ bors avs, ∀ d v, rd a i = some d → σ[i]? = some (some v) → Rep S (take F1 H1 R) H1 (frz d) v Emp := fun i hi d v e1 e2 => by
        have e3 : rd (clr (mvs avs) a) i = some d := by rw [rd_clr (nb i hi)]; exact e1
        obtain ⟨v', P1, P2, q1, q2, di, r, _, _⟩ := rr.focus (rd_some e3)
        rw [e2] at q1; cases q1
        exact r.frz sF d fun x hx => take_in (hR3 i hi d v P1 e1 r (fun x hx => by rw [q2]; exact .inl hx) x hx)
      have reps := av_reps (Fc := take F1 H1 R) sF ok.rep ed em sv rm (fun x hx => take_in (hR1 x hx)) rb
      have fPm : ∀ x, Pm x → take F1 H1 R x = none := fun x hx => by
        rw [take_out fun z => (hR2 x z).elim (fun q => dPd.1 x q hx) fun q => dmr x hx q]
        exact hPm x hx
      refine ⟨take F1 H1 R, ds, Pm, reps, fPm, take_sub ok.sr.sub, ?_⟩
      have lt := mvD_lt em
      cases eg : g ds with
      | bad => rw [eg] at o; exact o.elim
      | ok d ms =>
        rw [eg] at o
        simp only at o
        split at o
        case isFalse => exact o.elim
        split at o
        case h_2 => exact o.elim
        rename_i s' es
        intro v ws F' H' Pd' Pm' sw rd' rms dd nf sub' ex
        have sw' : slotVs σ (mvs avs) ws := slots_of (pre := []) ok.rep sw
        obtain ⟨F2, c⟩ := came (b := clr (mvs avs) a) (σ := σ) (R := R) rr ok.sr.sub (fun x h => h.elim (hPm x) (hPr x)) hR dmr ex nf sub'
        have rr2 : Rep S F2 H' d v Pd' ∧ Reps S F2 H' ms ws Pm' := by
          rcases hn1 d ms eg with h | h
          · rw [c.lent h]; exact ⟨rd', rms⟩
          · exact ⟨rd'.noL c.tup d h.1, Reps.noL c.tup ms rms h.2⟩
        have bk := RepS.back (is := mvs avs) c.rep nd lt sw' rr2.2 (fun x h1 h2 => c.dis x (.inr h1) h2) es
        have ex2 := c.ext Pd hR2
        rw [← eP] at ex2
        have exx := (ok.ext2.trans ex2)
        refine o v F2 H' Pd' (Uni Pm' Pr) ⟨rr2.1, ⟨bk, fun x h => c.fr x (h.elim (fun z => .inl (.inr z)) .inr), c.sub⟩, exx.less fun x h => h.elim (fun z => .inl (.inr z)) .inr, fun _ => exx.eqP (uni_assoc _ _ _), fun _ => dd.uni' fun x h1 h2 => c.dis x (.inl h1) h2, fun _ x h => c.fr x (.inl (.inl h)), fun h => ?_, fun i h => nomatch h⟩
        obtain ⟨hm, sH⟩ := hk h
        refine sH.trans fun x o e => ex.kept x o e fun z => ?_
        have hm0 : ms0 = [] := by rw [hm] at em; simpa [mvD] using em.symm
        subst hm0
        simp only [Reps] at rm
        rw [rm.2] at z
        exact z
      | rz cc ms =>
        rw [eg] at o
        simp only at o
        split at o
        case isFalse => exact o.elim
        split at o
        case h_2 => exact o.elim
        rename_i s' es
        intro ws F' H' Pm' sw rms nf sub' ex
        have sw' : slotVs σ (mvs avs) ws := slots_of (pre := []) ok.rep sw
        obtain ⟨F2, c⟩ := came (b := clr (mvs avs) a) (σ := σ) (R := R) rr ok.sr.sub (fun x h => h.elim (hPm x) (hPr x)) hR dmr ex nf sub'
        have rr2 : Reps S F2 H' ms ws Pm' := by
          rcases hn2 cc ms eg with h | h
          · rw [c.lent h]; exact rms
          · exact Reps.noL c.tup ms rms h
        have bk := RepS.back (is := mvs avs) c.rep nd lt sw' rr2 c.dis es
        have ex2 := c.ext Pd hR2
        rw [← eP] at ex2
        exact hE _ _ (o F2 H' _ ⟨bk, c.fr, c.sub⟩ (ok.ext2.trans ex2))
    by_cases hl : lent avs a = true
    · refine main Pd (fun x h => h) (fun x h => .inl h) (fun i hi d v P1 e r _ x hx => ?_) (fun d ms _ => .inl fun x h1 h2 => dPd.2 x h1 h2) fun c ms _ => .inl fun x h1 h2 => dPd.2 x h1 h2
      have := r.still d (lent_still hl i hi d e)
      rw [this] at hx; exact hx.elim
    · refine main (Uni Pd Pr) (fun x h => .inl h) (fun x h => h) (fun i hi d v P1 e r hs x hx => .inr (hs x hx)) (fun d ms eg => ?_) fun c ms eg => ?_
      · rw [eg] at o
        simp only [hl, Bool.false_or, Bool.and_eq_true] at o
        split at o
        · rename_i h; exact .inr h
        · exact o.elim
      · rw [eg] at o
        simp only [hl, Bool.false_or] at o
        split at o
        · rename_i h; exact .inr h
        · exact o.elim
end Ab
namespace Ab
open PySem L2
open Classical
variable {S : Sig} {Z : L2.St → Nat → Hp → Prop} {F F' H H' : Hp} {P : Fp} {σ : L2.St} {a a' : SA}

def noStar : Expr → Bool
  | .Starred _ _ => false
  | _ => true
theorem star_cons {e : Expr} {es : List Expr} {env : Env} (h : noStar e = true) : starEach (e :: es) env = (false, eval e env) :: starEach es env := by
  cases e <;> first | rfl | (simp [noStar] at h)
theorem star_any {es : List Expr} {env : Env} {pos : Pos} (h : es.all noStar = true) : (backTo pos (starEach es env)).any (·.1) = false := by
  induction es with
  | nil => rfl
  | cons e es ih =>
    simp only [List.all_cons, Bool.and_eq_true] at h
    rw [star_cons h.1]
    have := ih h.2
    simp only [backTo, List.map_cons, List.any_cons, Bool.false_or] at this ⊢
    exact this
theorem star_len {es : List Expr} {env : Env} (h : es.all noStar = true) : (starEach es env).length = es.length := by
  induction es with
  | nil => rfl
  | cons e es ih =>
    simp only [List.all_cons, Bool.and_eq_true] at h
    rw [star_cons h.1, List.length_cons, List.length_cons, ih h.2]
/-- an object whose attribute is asked: no call -/
def baseOk : Expr → Bool
  | .Name _ _ => true
  | .Subscript _ _ _ => true
  | .Attribute _ _ _ => true
  | _ => false
theorem base_of {o : Expr} {m : Str} {env : Env} {w : Sem Value} (h : baseOk o = true) : attributeBase o m env w = w := by
  cases o <;> first | rfl | (simp [baseOk] at h)
def plOf (o : Expr) (env : Env) : Sem Bool := do return (← importBound o env).getD true
theorem meth_eq {o : Expr} {m : Str} {apos pos : Pos} {es : List Expr} {env : Env} (hb : baseOk o = true) (hs : es.all noStar = true) (hl : es.length < 30) (hp : (apos.endLine == pos.line) = true) :
    eval (.Call (.Attribute o m apos) es [] pos) env = (do
      let u ← eval o env
      standAt apos.atName
      let (g, ws) ← holding [u] (getMethod u m (plOf o env))
      callWith pos g ws (backTo pos (starEach es env)) (backToKw pos (keywordEach [] env))) := by
  have hf : methodCallForm (es.length + ([] : List Keyword).length) (backTo pos (starEach es env)) (backToKw pos (keywordEach [] env)) = true := by
    have h1 := star_any (env := env) (pos := pos) hs
    have h2 : (backTo pos (starEach es env)).all (!·.1) = true := by
      rw [List.all_eq_true]
      intro x hx
      have := List.any_eq_false.mp h1 x hx
      simpa using this
    have h3 : backToKw pos (keywordEach [] env) = [] := rfl
    simp only [methodCallForm, h2, h3, List.all_nil, List.length_nil, Nat.add_zero, List.isEmpty_nil, if_true, Bool.true_and, decide_eq_true_eq]
    exact hl
  show (do
    let ov ← attributeBase o m env (eval o env)
    standAt apos.atName
    methodCall o m apos pos env ov (es.length + ([] : List Keyword).length) (backTo pos (starEach es env)) (backToKw pos (keywordEach [] env))) = _
  rw [base_of hb]
  unfold methodCall
  rw [hf]
  simp only [calleeOf, methodCallPos, hp, Bool.not_true, Bool.false_or, if_true, pure_bind, plOf]
end Ab
namespace Ab
open PySem L2
open Classical
variable {S : Sig} {Z : L2.St → Nat → Hp → Prop} {F F' H H' : Hp} {P : Fp} {σ : L2.St} {a a' : SA}

/-- the wish for raises, out of the machine's -/
def ZW (S : Sig) (Wd : WX) : L2.St → Nat → Hp → Prop := fun σ c H => Wd (S.exn c) none σ H
section
variable {X : Cx}
theorem pe_no {e : Expr} {t : TE} (h : ∀ σ H Q, ¬ t σ H Q) : PE X e t := ⟨fun _ _ σ H Q _ q => (h σ H Q q).elim⟩
/-- a call, with or without arguments -/
theorem pe_callA {k : Nat} {f : Addr} {fd : FuncData} {ps : List Str} {sp : Sp} {Wd : WX} {x : Str} {p pos : Pos} {es : List Expr} {t : TA} (Fn : FnOk X.prog X.w X.K X.mg X.base (L2.CX X.prog X.w) k f fd ps sp) (hr : Room k X.A) (hg : Gl X x) (hm : X.mg x = some (.ref f)) (hk : PySem.W.keepIn X.K (.ref f) = true) (hb : Binds X.K fd ps [])
    (tk : Takes X Wd) (ha : PA X es t) (hdb : (x == ("__debug__" : Str)) = false) (hs : es.all noStar = true) (h0 : es = [] → ∀ σ H Q, t σ H Q → Q [] H) : PE X (.Call (.Name x p) es [] pos) (tCallS sp (WE Wd) t) := by
  cases es with
  | cons e es =>
    have hs' := hs
    simp only [List.all_cons, Bool.and_eq_true] at hs'
    exact pe_callS Fn hr hg hm hk hb (fun σ => passAt tk σ) ha hdb (star_cons hs'.1) (star_any hs'.2)
  | nil =>
    refine ⟨fun pins s σ H Q I h => wpAny_Call_Name_kw (ld_glob I hg hm ?_ hdb)⟩
    exact PySem.W.callWith_K0 I.kIn hk (run_fnS (us := []) Fn hr hb (passAt tk σ) I .nil (h0 rfl σ H _ h))
/-- o.m(..), the class found as it runs -/
def tMethA (X : Cx) (m : Str) (Wd : WX) (ta : TE) (t : TA) : TE := fun σ H Q => ta σ H fun x H1 => ∃ (p C dx : Addr) (fs : List (Str × V)) (k : Nat) (f : Addr) (fd : FuncData) (ps : List Str) (sp : Sp), x = .ref p ∧ H1 p = some (.ins C dx fs) ∧ fs.lookup m = none ∧ Cls X.K C ∧ Meth X.K C m f ∧
  FnOk X.prog X.w X.K X.mg X.base (L2.CX X.prog X.w) k f fd ps sp ∧ Room k X.A ∧ Binds X.K fd ps [] ∧ t σ H1 fun vs H2 => sp (x :: vs) H2 Q (WE Wd σ)
theorem pe_methA {m : Str} {Wd : WX} {o : Expr} {apos pos : Pos} {es : List Expr} {ta : TE} {t : TA} (tk : Takes X Wd) (ho : PE X o ta) (ha : PA X es t) (hb : baseOk o = true) (hs : es.all noStar = true) (hl : es.length < 30) (hp : (apos.endLine == pos.line) = true) (h0 : es = [] → ∀ σ H Q, t σ H Q → Q [] H) :
    PE X (.Call (.Attribute o m apos) es [] pos) (tMethA X m Wd ta t) := by
  refine ⟨fun pins s σ H Q I h => PySem.W.methodCall_KW (pl := plOf o X.env) (thn (ho.run pins s σ H _ I h) ?_) (meth_eq hb hs hl hp)⟩
  rintro u s1 ⟨x, H1, I1, rx, p, C, dx, fs, k, f, fd, ps, sp, rfl, ep, hn, hC, hM, Fn, hr, hB, q⟩
  cases rx
  refine getmeth_ok I1 ep hC hM hn ?_
  cases es with
  | nil => exact PySem.W.callWith_K0 (first := [.ref p]) I1.kIn hM.kp (run_fnS (us := [.ref p]) (vs := [.ref p]) Fn hr hB (passAt tk σ) I1 (.cons rfl .nil) (h0 rfl σ H1 _ q))
  | cons e es =>
    have hs' := hs
    simp only [List.all_cons, Bool.and_eq_true] at hs'
    exact PySem.W.callWith_K (first := [.ref p]) (h₀ := X.base) I1.ok.mod.kin hM.kp (thn (ha.run pos pins s1 σ H1 _ I1 q) fun us s2 ⟨vs, H2, I2, r, q2⟩ => ⟨I2.kIn, run_fnS (us := .ref p :: us) (vs := .ref p :: vs) Fn hr hB (passAt tk σ) I2 (.cons rfl r) q2⟩) (star_cons hs'.1) (star_any hs'.2)
/-- C(..) -/
def tMakeA (X : Cx) (C : Addr) (sp : Sp) (Wd : WX) (t : TA) : TE := fun σ H Q => t σ H fun vs H1 => ∀ x dx, H1 x = none → H1 dx = none → dx ≠ x →
  sp (.ref x :: vs) (upd (upd H1 dx (.own x)) x (.ins C dx [])) (fun v H2 => v = .non ∧ Q (.ref x) H2) (WE Wd σ)
theorem run_makeA {pins : List (Addr × Obj)} {σ : L2.St} {H : Hp} {s : Shared} {Q : VK} {us : List Value} {vs : List V} {k : Nat} {f C : Addr} {fd : FuncData} {ps : List Str} {sp : Sp} {Wd : WX} (tk : Takes X Wd) (M : Mk X.K C f)
    (Fn : FnOk X.prog X.w X.K X.mg X.base (L2.CX X.prog X.w) k f fd ps sp) (hr : Room (k + 1) X.A) (hb : Binds X.K fd ps []) (I : Inv X pins σ H s) (r : Vals vs us)
    (h : ∀ x dx, H x = none → H dx = none → dx ≠ x → sp (.ref x :: vs) (upd (upd H dx (.own x)) x (.ins C dx [])) (fun v H2 => v = .non ∧ Q (.ref x) H2) (WE Wd σ)) :
    wpAny (model X.prog X.w) X.A (call (.ref C) us) (EP X pins σ Q) X.xe s := by
  have n0 := s.heap.objs.size
  have I2 := Inv.made (C := C) I
  have want := h (s.heap.objs.size + 1) s.heap.objs.size (I.hok.fresh (Nat.le_succ _)) (I.hok.fresh (Nat.le_refl _)) (Nat.ne_of_lt (Nat.lt_succ_self _))
  have rr : Vals (V.ref (s.heap.objs.size + 1) :: vs) (Value.ref (s.heap.objs.size + 1) :: us) := .cons rfl r
  have len : (Value.ref (s.heap.objs.size + 1) :: us ++ []).length = ps.length := by
    rw [List.append_nil, ← rr.length]; exact Fn.len _ _ _ _ want
  have bb := hb _ (Value.ref (s.heap.objs.size + 1) :: us) I2.kIn len
  rw [List.append_nil] at bb
  refine wpAny_call (make_map (f := f) I.kIn M.makes M.init (beq_iff_eq.mp M.fn) (codeAny_mono (Fn.run _ X.stack _ _ _ _ _ _ _ (hr.make C us []) (I2.env0.make C us []) bb rr want) ?_))
  intro out s2 hq
  match out, hq with
  | .error e, hq => exact passAt tk σ pins _ _ e s2 I2 hq
  | .ok (.ret u), hq =>
    obtain ⟨v, H3, I3, rv, ev, q⟩ := I2.after hq
    subst ev
    exact ⟨rv, ⟨V.ref (s.heap.objs.size + 1), H3, I3, rfl, q⟩⟩
  | .ok .next, hq => exact False.elim hq
  | .ok .brk, hq => exact False.elim hq
  | .ok .cont, hq => exact False.elim hq
theorem pe_makeA {k : Nat} {f C : Addr} {fd : FuncData} {ps : List Str} {sp : Sp} {Wd : WX} {x : Str} {p pos : Pos} {es : List Expr} {t : TA} (tk : Takes X Wd) (M : Mk X.K C f) (Fn : FnOk X.prog X.w X.K X.mg X.base (L2.CX X.prog X.w) k f fd ps sp) (hr : Room (k + 1) X.A)
    (hg : Gl X x) (hm : X.mg x = some (.ref C)) (hb : Binds X.K fd ps []) (ha : PA X es t) (hdb : (x == ("__debug__" : Str)) = false) (hs : es.all noStar = true) (h0 : es = [] → ∀ σ H Q, t σ H Q → Q [] H) :
    PE X (.Call (.Name x p) es [] pos) (tMakeA X C sp Wd t) := by
  refine ⟨fun pins s σ H Q I h => wpAny_Call_Name_kw (ld_glob I hg hm ?_ hdb)⟩
  cases es with
  | nil => exact PySem.W.callWith_K0 I.kIn M.kp (run_makeA (us := []) tk M Fn hr hb I .nil (h0 rfl σ H _ h))
  | cons e es =>
    have hs' := hs
    simp only [List.all_cons, Bool.and_eq_true] at hs'
    exact PySem.W.callWith_K (h₀ := X.base) I.ok.mod.kin M.kp (thn (ha.run pos pins s σ H _ I h) fun us s1 ⟨vs, H1, I1, r, q⟩ => ⟨I1.kIn, run_makeA tk M Fn hr hb I1 r q⟩) (star_cons hs'.1) (star_any hs'.2)
end
end Ab
namespace Ab
open PySem L2
open Classical
variable {S : Sig} {F F' H H' : Hp} {P : Fp} {σ : L2.St} {a a' : SA}

theorem pureAs_mv : ∀ {as : MAs}, pureAs as = true → mvsA as = [] ∧ calmAs as = true
  | .nil, h => ⟨rfl, rfl⟩
  | .cons (.rd e) as, h => by
    simp only [pureAs, pureA, Bool.and_eq_true] at h
    obtain ⟨h1, h2⟩ := pureAs_mv h.2
    exact ⟨h1, by simp only [calmAs, calmA, h.1, h2, Bool.and_self]⟩
  | .cons (.bor i) as, h => by
    simp only [pureAs, pureA, Bool.and_eq_true] at h
    obtain ⟨h1, h2⟩ := pureAs_mv h.2
    exact ⟨h1, by simp only [calmAs, calmA, h2, Bool.and_self]⟩
  | .cons (.mv i) as, h => by simp [pureAs, pureA] at h
theorem OkA.cons {Z : L2.St → Nat → Hp → Prop} {av : AV} {avs : List AV} {a1 a2 : SA} {v : V} {vs : List V} {F1 H1 F2 H2 : Hp} {P1 Pa1 P2 Pa2 : Fp}
    (o1 : OkA S F H P σ [av] a1 [v] F1 H1 P1 Pa1) (o2 : OkA S F1 H1 Pa1 σ avs a2 vs F2 H2 P2 Pa2) : OkA S F H P σ (av :: avs) a2 (v :: vs) F2 H2 (Uni P1 P2) Pa2 := by
  have held : ∀ x, P1 x → ∃ o, H1 x = some o := fun x hx => by
    have r := o1.rep
    cases av with
    | val d =>
      obtain ⟨w, wr, Q1, Q2, e1, rfl, di, r1, r2⟩ := r
      rcases hx with hx | hx
      · exact r1.held d x hx
      · rw [r2.2] at hx; exact hx.elim
    | bor i =>
      obtain ⟨w, wr, e1, ev, r2⟩ := r
      rw [r2.2] at hx; exact hx.elim
    | mv i =>
      obtain ⟨w, wr, e1, ev, r2⟩ := r
      rw [r2.2] at hx; exact hx.elim
  have di := o1.dis
  have d2 := o2.ext2.dis di held
  refine ⟨?_, o2.sr, o1.ext.trans o2.ext, ?_, Dis.uni (fun x h1 h2 => d2 x h1 (.inr h2)) o2.dis, fun x h => h.elim (o2.ext.unf di held o1.fr x) (o2.fr x)⟩
  · have r := o1.rep
    cases av with
    | val d =>
      obtain ⟨w, wr, Q1, Q2, e1, rfl, dq, r1, r2⟩ := r
      cases e1
      rw [r2.2, uni_emp] at d2 di ⊢
      exact ⟨v, vs, Q1, P2, rfl, rfl, fun x h1 h2 => d2 x h1 (.inl h2), o2.ext.aside r1 di, o2.rep⟩
    | bor i =>
      obtain ⟨w, wr, e1, ev, r2⟩ := r
      cases e1
      rw [r2.2, emp_uni]
      exact ⟨v, vs, rfl, ev, o2.rep⟩
    | mv i =>
      obtain ⟨w, wr, e1, ev, r2⟩ := r
      cases e1
      rw [r2.2, emp_uni]
      exact ⟨v, vs, rfl, ev, o2.rep⟩
  · have z := o2.ext2.frame (R := P1)
    rw [uni_comm Pa1 P1] at z
    refine (o1.ext2.trans z).eqP ?_
    rw [uni_comm (Uni P2 Pa2), ← uni_assoc]
section
variable {X : Cx} {G : Env0A} {W : Nat} {Z : L2.St → Nat → Hp → Prop}
/-- the receiver of a method -/
def tAr (S : Sig) (Z : L2.St → Nat → Hp → Prop) (kp : Bool) (f : SA → Er AV) : TE := fun σ H Q => ∃ F P a, SR S F H a σ P ∧
  Out S (Z σ) F H P σ (fun av a' => ∀ v F' H' Pd Pa, OkA S F H P σ [av] a' [v] F' H' Pd Pa → (kp = true → Same H H') → Q v H') (f a)
theorem r_rd {e : Expr} {me : ME} (he : PE X e (tE S Z G W false me)) : PE X e (tAr S Z (calmA (.rd me)) (evA G W (.rd me))) := by
  refine he.weak fun σ H Q h => ?_
  obtain ⟨F, P, a, sr, o⟩ := h
  simp only [evA] at o
  refine ⟨F, P, a, sr, o.bind.imp fun d a1 e1 o1 v1 F1 H1 P1 Pa1 ok1 => ?_⟩
  exact o1 v1 F1 H1 P1 Pa1 ⟨⟨v1, [], P1, Emp, rfl, (uni_emp _).symm, dis_emp, ok1.rep, rfl, rfl⟩, ok1.sr, ok1.ext, ok1.ext2 rfl, ok1.dis rfl, ok1.fr rfl⟩ fun h => ok1.same h
theorem r_slot {i : Nat} {x : Str} {pos : Pos} {m : MA} (hm : m = .bor i ∨ m = .mv i) (hN : X.N[i]? = some x) (hv : Vis X.env.scope x) (hd : (x == ("__debug__" : Str)) = false) (hcd : (x == ("__classdict__" : Str)) = false) : PE X (.Name x pos) (tAr S Z (calmA m) (evA G W m)) := by
  refine (pe_var hN hv hd hcd).weak fun σ H Q h => ?_
  obtain ⟨F, P, a, sr, o⟩ := h
  cases e : rd a i with
  | none => rcases hm with rfl | rfl <;> (simp only [evA, e] at o; exact o.elim)
  | some d =>
    obtain ⟨v, P1, P2, e1, e2, di, r, h2, _⟩ := sr.rep.focus (rd_some e)
    refine ⟨v, e1, ?_⟩
    rcases hm with rfl | rfl
    · simp only [evA, e] at o
      exact o v F H Emp P ⟨⟨v, [], rfl, e1, rfl, rfl⟩, sr, .refl, by rw [emp_uni]; exact .refl, emp_dis, fun x h => h.elim⟩ fun _ _ _ z => z
    · simp only [evA, e] at o
      exact o v F H Emp P ⟨⟨v, [], rfl, e1, rfl, rfl⟩, sr, .refl, by rw [emp_uni]; exact .refl, emp_dis, fun x h => h.elim⟩ fun _ _ _ z => z
theorem methOf_frz {d : D} {c : Nat} (h : methOf (frz d) = some c) : ∃ m ds, d = .ins m c ds := by
  cases d <;> simp only [frz, methOf, reduceCtorEq, Option.some.injEq] at h
  subst h
  exact ⟨_, _, rfl⟩
theorem methOf_ins {d : D} {c : Nat} (h : methOf d = some c) : ∃ m ds, d = .ins m c ds := by
  cases d <;> simp only [methOf, reduceCtorEq, Option.some.injEq] at h
  subst h
  exact ⟨_, _, rfl⟩
/-- the receiver's class -/
theorem OkA.cls {av : AV} {v : V} {c : Nat} {F1 H1 : Hp} {Pd Pa : Fp} (o : OkA S F H P σ [av] a [v] F1 H1 Pd Pa) (h : (avD a av).bind methOf = some c) :
    ∃ p cl dx vs, v = .ref p ∧ S.cls c = some cl ∧ H1 p = some (.ins cl.addr dx (cl.fields.zip vs)) := by
  have r := o.rep
  cases av with
  | val d =>
    obtain ⟨w, wr, Q1, Q2, e1, e2, dq, r1, r2⟩ := r
    cases e1
    obtain ⟨m, ds, rfl⟩ := methOf_frz (d := d) (by simpa [avD] using h)
    obtain ⟨p, cl, dx, vs, P', rfl, hc, hl, ep, _⟩ := r1.ins_at o.sr.sub
    exact ⟨p, cl, dx, vs, rfl, hc, ep⟩
  | bor i =>
    obtain ⟨w, wr, e1, ev, r2⟩ := r
    cases e1
    simp only [avD, Option.bind_eq_some_iff, Option.map_eq_some_iff] at h
    obtain ⟨d0, ⟨d, e, rfl⟩, hm⟩ := h
    obtain ⟨m, ds, rfl⟩ := methOf_frz hm
    obtain ⟨v', P1, P2, e1, e2, di, r1, _⟩ := o.sr.rep.focus (rd_some e)
    rw [ev] at e1; cases e1
    obtain ⟨p, cl, dx, vs, P', rfl, hc, hl, ep, _⟩ := r1.ins_at o.sr.sub
    exact ⟨p, cl, dx, vs, rfl, hc, ep⟩
  | mv i =>
    obtain ⟨w, wr, e1, ev, r2⟩ := r
    cases e1
    simp only [avD, Option.bind_eq_some_iff] at h
    obtain ⟨d, e, hm⟩ := h
    obtain ⟨m, ds, rfl⟩ := methOf_ins hm
    obtain ⟨v', P1, P2, e1, e2, di, r1, _⟩ := o.sr.rep.focus (rd_some e)
    rw [ev] at e1; cases e1
    obtain ⟨p, cl, dx, vs, P', rfl, hc, hl, ep, _⟩ := r1.ins_at o.sr.sub
    exact ⟨p, cl, dx, vs, rfl, hc, ep⟩
end
section
variable {X : Cx} {G : Env0A} {W : Nat} {Wd : WX}
theorem tAVs_nil {Z : L2.St → Nat → Hp → Prop} {σ : L2.St} {H : Hp} {Q : List V → Hp → Prop} (h : tAVs S Z G W .nil σ H Q) : Q [] H := by
  obtain ⟨F, P, a, sr, o⟩ := h
  exact o [] F H Emp P (.nil sr) fun _ _ _ z => z
theorem c_call {fi : Nat} {g : Callee} {as : MAs} {k : Nat} {f : Addr} {fd : FuncData} {ps : List Str} {x : Str} {p pos : Pos} {es : List Expr} {v : Bool} (hG : G fi = some g) (tk : Takes X Wd)
    (Fn : FnOk X.prog X.w X.K X.mg X.base (L2.CX X.prog X.w) k f fd ps (spA S (posA 0 as) g)) (hr : Room k X.A) (hg : Gl X x) (hm : X.mg x = some (.ref f)) (hk : PySem.W.keepIn X.K (.ref f) = true) (hb : Binds X.K fd ps [])
    (hdb : (x == ("__debug__" : Str)) = false) (hs : es.all noStar = true) (hz : es = [] → as = .nil) (ha : PA X es (tAVs S (ZW S Wd) G W as)) : PE X (.Call (.Name x p) es [] pos) (tE S (ZW S Wd) G W v (.call fi as)) := by
  refine (pe_callA Fn hr hg hm hk hb tk ha hdb hs fun h σ H Q q => by rw [hz h] at q; exact tAVs_nil q).weak fun σ H Q h => ?_
  obtain ⟨F, P, a, sr, o⟩ := h
  simp only [ev, hG] at o
  refine ⟨F, P, a, sr, o.bind.imp fun avs a1 e1 o1 vs F1 H1 Pd Pa ok sm => ?_⟩
  obtain ⟨q1, q2⟩ := evAs_pos 0 e1
  rw [← q1]
  refine called_ok (Z := ZW S Wd) (kp := pureAs as) ok (by simpa [atE, rootOf, slotOf, pureE] using o1) (fun h => ?_) fun c H' z => z
  obtain ⟨z1, z2⟩ := pureAs_mv h
  exact ⟨by rw [q2, z1], sm z2⟩
/-- what is known of a method -/
structure MethOk (X : Cx) (S : Sig) (fix : List Nat) (g : Callee) (k : Nat) (mn : Str) (cl : Cl) : Prop where
  ex : ∃ (f : Addr) (fd : FuncData) (ps : List Str), Meth X.K cl.addr mn f ∧ FnOk X.prog X.w X.K X.mg X.base (L2.CX X.prog X.w) k f fd ps (spA S fix g) ∧ Binds X.K fd ps []
  nf : ∀ f ∈ cl.fields, f ≠ mn
theorem zip_none {N : List Str} {vs : List V} {m : Str} (h : ∀ f ∈ N, f ≠ m) : (N.zip vs).lookup m = none := by
  induction N generalizing vs with
  | nil => rfl
  | cons x N ih =>
    cases vs with
    | nil => rfl
    | cons v vs =>
      rw [List.zip_cons_cons, List.lookup_cons, show (m == x) = false from by
        have := h x List.mem_cons_self
        simpa using fun e : m = x => this e.symm]
      exact ih fun f hf => h f (List.mem_cons_of_mem _ hf)
theorem c_meth {m : Nat} {mn : Str} {mo : MA} {as : MAs} {k : Nat} {att : Nat → Str} {o : Expr} {apos pos : Pos} {es : List Expr} {v : Bool} (hC : ClsOk X.K att S) (tk : Takes X Wd)
    (hM : ∀ c f g cl, MTD c m = some f → G f = some g → S.cls c = some cl → MethOk X S (posA 0 (.cons mo as)) g k mn cl) (hr : Room k X.A)
    (hb : baseOk o = true) (hs : es.all noStar = true) (hl : es.length < 30) (hp : (apos.endLine == pos.line) = true) (hz : es = [] → as = .nil) (ho : PE X o (tAr S (ZW S Wd) (calmA mo) (evA G W mo))) (ha : PA X es (tAVs S (ZW S Wd) G W as)) :
    PE X (.Call (.Attribute o mn apos) es [] pos) (tE S (ZW S Wd) G W v (.meth m mo as)) := by
  refine (pe_methA tk ho ha hb hs hl hp fun h σ H Q q => by rw [hz h] at q; exact tAVs_nil q).weak fun σ H Q h => ?_
  obtain ⟨F, P, a, sr, o⟩ := h
  simp only [ev] at o
  refine ⟨F, P, a, sr, o.bind.imp fun av a1 e1 o1 v1 F1 H1 P1 Pa1 ok1 sm1 => ?_⟩
  split at o1
  case h_2 => exact o1.elim
  rename_i c ec
  split at o1
  case h_2 => exact o1.elim
  rename_i g eg
  simp only [Option.bind_eq_some_iff] at eg
  obtain ⟨f, ef, eg⟩ := eg
  obtain ⟨p, cl, dx, vs, rfl, hc, ep⟩ := ok1.cls ec
  obtain ⟨⟨fa, fd, ps, hMe, Fn, hB⟩, hnf⟩ := hM c f g cl ef eg hc
  refine ⟨p, cl.addr, dx, _, k, fa, fd, ps, _, rfl, ep, zip_none hnf, (hC.cls c cl hc).1, hMe, Fn, hr, hB, F1, Pa1, a1, ok1.sr, (o1.bind.at ok1.ext).imp fun avs a2 e2 o2 vs F2 H2 P2 Pa2 ok2 sm2 => ?_⟩
  obtain ⟨q1, q2⟩ := evAs_pos 1 e2
  have ok := OkA.cons (Z := ZW S Wd) ok1 ok2
  have hpos : posV 0 (av :: avs) = posA 0 (.cons mo as) ∧ mvs (av :: avs) = mvsA (.cons mo as) := by
    have q : evAs G W (.cons mo .nil) a = .ok [av] a1 := by simp only [evAs, e1, Er.bind]
    have z := evAs_pos 0 q
    cases av <;> cases mo <;> simp_all [posV, posA, mvs, mvsA]
  rw [← hpos.1]
  refine called_ok (Z := ZW S Wd) (kp := pureA mo && pureAs as) ok (by simpa [atE, rootOf, slotOf, pureE] using o2) (fun h => ?_) fun c H' z => z
  have h' : pureAs (.cons mo as) = true := by simpa [pureAs] using h
  obtain ⟨z1, z2⟩ := pureAs_mv h'
  simp only [calmAs, Bool.and_eq_true] at z2
  exact ⟨by rw [hpos.2, z1], (sm1 z2.1).trans (sm2 z2.2)⟩
end
end Ab
namespace Ab
open PySem L2
open Classical
variable {S : Sig} {F F' H H' : Hp} {P : Fp} {σ : L2.St} {a a' : SA}

theorem OkA.up {avs : List AV} {vs : List V} {F1 H1 H2 : Hp} {Pd Pa : Fp} (o : OkA S F H P σ avs a vs F1 H1 Pd Pa) (up : Same H1 H2) (held : ∀ x, Pd x → ∃ q, H1 x = some q) : OkA S F H P σ avs a vs F1 H2 Pd Pa := by
  have g : ∀ Q, Ext F F1 H H1 P Q → Ext F F1 H H2 P Q := fun Q e => ⟨e.same, fun x q h n => up x q (e.kept x q h n), e.own, e.frz⟩
  refine ⟨o.rep.keep (fun _ _ z => z) fun x hx => ?_, ⟨o.sr.rep.keep (fun _ _ z => z) fun x hx => ?_, o.sr.fr, o.sr.sub.trans up⟩, g _ o.ext, g _ o.ext2, o.dis, o.fr⟩
  · obtain ⟨q, h⟩ := held x hx
    rw [h, up x q h]
  · obtain ⟨q, h⟩ := o.sr.rep.held x hx
    rw [h, up x q h]
theorem RepAV.held {F H : Hp} : ∀ {avs : List AV} {vs : List V} {P : Fp}, RepAV S F H σ avs vs P → ∀ x, P x → ∃ o, H x = some o
  | [], vs, P, h, x, hx => by rw [h.2] at hx; exact hx.elim
  | .val d :: r, vs, P, h, x, hx => by
    obtain ⟨v, vr, P1, P2, e1, rfl, di, h1, h2⟩ := h
    exact hx.elim (h1.held d x) (RepAV.held h2 x)
  | .bor i :: r, vs, P, h, x, hx => by
    obtain ⟨v, vr, e1, e2, h2⟩ := h
    exact RepAV.held h2 x hx
  | .mv i :: r, vs, P, h, x, hx => by
    obtain ⟨v, vr, e1, e2, h2⟩ := h
    exact RepAV.held h2 x hx
def One (p : Addr) : Fp := fun x => x = p
theorem Ext.plus {F F1 H H1 H2 : Hp} {P Q : Fp} {p : Addr} (e : Ext F F1 H H1 P Q) (hp : H1 p = none) (e2 : Ext F F1 H H2 P Q) : Ext F F1 H H2 P (Uni (One p) Q) := by
  refine ⟨e2.same, e2.kept, fun x h => h.elim (fun z => ?_) (e2.own x), e2.frz⟩
  by_cases hP : P x
  · exact .inl hP
  · cases q : H x with
    | none => exact .inr rfl
    | some o =>
      have := e.kept x o q hP
      have z : x = p := z
      rw [z, hp] at this; cases this
theorem made_ok {Z : L2.St → Nat → Hp → Prop} {g : Callee} {c : Nat} {cl : Cl} {avs : List AV} {vs : List V} {F1 H1 : Hp} {Pd Pa : Fp} {kp : Bool} {Q : VK} {E : XK} {x dx : Addr} (hc : S.cls c = some cl) (ok : OkA S F H P σ avs a vs F1 H1 Pd Pa)
    (o : Out S (Z σ) F H P σ (KV S F H P σ ⟨true, kp, none⟩ Q) (made g c avs a)) (hk : kp = true → Same H H1) (hE : ∀ c H', Z σ c H' → E (S.exn c) none H') (hx : H1 x = none) (hd : H1 dx = none) (hn : dx ≠ x) :
    spA S [0] g (.ref x :: vs) (upd (upd H1 dx (.own x)) x (.ins cl.addr dx [])) (fun v H2 => v = .non ∧ Q (.ref x) H2) E := by
  unfold made at o
  cases ed : avDs a avs with
  | none => rw [ed] at o; exact o.elim
  | some ds =>
    rw [ed] at o
    simp only at o
    split at o
    case isFalse => exact o.elim
    rename_i hm
    have hm : mvs avs = [] := by simpa using hm
    obtain ⟨H2, rfl⟩ : ∃ H2, H2 = upd (upd H1 dx (.own x)) x (.ins cl.addr dx []) := ⟨_, rfl⟩
    have up : Same H1 (upd (upd H1 dx (.own x)) x (.ins cl.addr dx [])) := fun y q e => by
      rw [upd_ne (ne_of_none e hx), upd_ne (ne_of_none e hd)]; exact e
    have ok2 := ok.up up ok.rep.held
    have hxi : upd (upd H1 dx (.own x)) x (.ins cl.addr dx []) x = some (.ins cl.addr dx []) := upd_same
    revert ok2 hxi up
    generalize upd (upd H1 dx (.own x)) x (.ins cl.addr dx []) = H2
    intro up ok2 hxi
    have hF1x : F1 x = none := ok.sr.sub.free hx
    have nPa : ¬ Pa x := fun z => by
      obtain ⟨q, e⟩ := ok.sr.rep.held x z
      rw [hx] at e; cases e
    have nPd : ¬ Pd x := fun z => by
      obtain ⟨q, e⟩ := ok.rep.held x z
      rw [hx] at e; cases e
    have main : ∀ R : Fp, (∀ y, Pd y → R y) → (∀ y, R y → Uni Pd Pa y) → (∀ i ∈ bors avs, ∀ d v P1, rd a i = some d → Rep S F1 H2 d v P1 → (∀ y, P1 y → Pa y) → ∀ y, P1 y → R y) →
        (∀ d self, g (.ins true c [] :: ds) = .ok d [self] → (∀ y, R y → ¬ Pa y) ∨ noL self = true) → (∀ k self, g (.ins true c [] :: ds) = .rz k [self] → (∀ y, R y → ¬ Pa y) ∨ noL self = true) →
        spA S [0] g (.ref x :: vs) H2 (fun v H2 => v = .non ∧ Q (.ref x) H2) E := fun R hR1 hR2 hR3 hn1 hn2 => by
      have hR : ∀ y, R y → F1 y = none := fun y h => (hR2 y h).elim (ok2.fr y) (ok2.sr.fr y)
      have nR : ¬ R x := fun z => (hR2 x z).elim nPd nPa
      have sF := take_same (H := H2) hR
      have rb : ∀ i ∈ bors avs, ∀ d v, rd a i = some d → σ[i]? = some (some v) → Rep S (take F1 H2 R) H2 (frz d) v Emp := fun i hi d v e1 e2 => by
        obtain ⟨v', P1, P2, q1, q2, di, r, _, _⟩ := ok2.sr.rep.focus (rd_some e1)
        rw [e2] at q1; cases q1
        exact r.frz sF d fun y hy => take_in (hR3 i hi d v P1 e1 r (fun y hy => by rw [q2]; exact .inl hy) y hy)
      have reps := av_reps (ms := []) (vs0 := []) (Pm := Emp) (Fc := take F1 H2 R) sF ok2.rep ed (by rw [hm]; rfl) (by rw [hm]; rfl) (by simp only [Reps]; exact ⟨trivial, trivial⟩) (fun y hy => take_in (hR1 y hy)) rb
      have fx : take F1 H2 R x = none := by rw [take_out nR]; exact hF1x
      refine ⟨take F1 H2 R, .ins true c [] :: ds, Uni (Uni (One x) Emp) Emp, ?_, ?_, take_sub ok2.sr.sub, ?_⟩
      · simp only [Reps]
        refine ⟨.ref x, vs, Uni (One x) Emp, Emp, rfl, rfl, dis_emp, ?_, reps⟩
        simp only [Rep]
        refine ⟨x, cl, dx, [], rfl, hc, Nat.zero_le _, ?_⟩
        rw [if_pos trivial]
        exact ⟨by rw [hxi]; simp, .inl rfl, Emp, fun z => z, rfl, by simp only [Reps]; exact ⟨trivial, trivial⟩⟩
      · intro y hy
        rw [uni_emp, uni_emp] at hy
        have hy : y = x := hy
        rw [hy]; exact fx
      · rw [uni_emp, uni_emp]
        have dxa : Dis (One x) Pa := fun y h1 h2 => by
          have h1 : y = x := h1
          rw [h1] at h2; exact nPa h2
        have fr0 : ∀ y, Uni (One x) Pa y → F1 y = none := fun y h => h.elim (fun z => by have z : y = x := z; rw [z]; exact hF1x) (ok2.sr.fr y)
        have ex0 : Ext F F1 H H2 P (Uni Pd (Uni (One x) Pa)) := (ok.ext2.plus hx ok2.ext2).eqP (uni_left_comm _ _ _)
        have sH : ∀ {H' : Hp} {F' : Hp} {N : Fp}, Ext (take F1 H2 R) F' H2 H' (One x) N → Same H1 H' := fun e y q h => e.kept y q (up y q h) fun z => by
          have z : y = x := z
          rw [z, hx] at h; cases h
        cases eg : g (.ins true c [] :: ds) with
        | bad => rw [eg] at o; exact o.elim
        | ok d ms =>
          rw [eg] at o
          match d, ms, o, eg with
          | .non, [self], o, eg =>
            simp only at o
            split at o
            case isFalse => exact o.elim
            intro v ws F' H' Pd' Pm' sw rd' rms dd nf sub' ex
            obtain ⟨rfl, rfl⟩ := rep_non.mp rd'
            obtain ⟨F2, cm⟩ := came (b := a) (σ := σ) (R := R) ok2.sr.rep ok2.sr.sub fr0 hR dxa ex nf sub'
            obtain ⟨w, r0, rfl, ew, r0e⟩ := sw
            cases r0e
            have : w = .ref x := by simpa using ew.symm
            subst this
            simp only [Reps] at rms
            obtain ⟨w, r1, Q1, Q2, e1, rfl, dq, rs, r1e, rfl⟩ := rms
            cases e1
            have rs2 : Rep S F2 H' self (.ref x) Q1 := by
              rcases hn1 .non self eg with h | h
              · rw [cm.lent h]; exact rs
              · exact rs.noL cm.tup self h
            have exx := ex0.trans (cm.ext Pd hR2)
            rw [emp_uni, uni_emp] at exx
            have cfr : ∀ y, Uni Q1 Pa y → F2 y = none := fun y h => cm.fr y (h.elim (fun z => .inl (.inr (.inl z))) .inr)
            have cdi : Dis Q1 Pa := fun y h1 h2 => cm.dis y (.inr (.inl h1)) h2
            refine ⟨rfl, o _ F2 H' Q1 Pa ⟨rs2, ⟨cm.rep, fun y h => cfr y (.inr h), cm.sub⟩, exx.less fun y h => .inr h, fun _ => exx, fun _ => cdi, fun _ y h => cfr y (.inl h), fun h => (hk h).trans (sH ex), fun i h => nomatch h⟩⟩
        | rz k ms =>
          rw [eg] at o
          match ms, o, eg with
          | [self], o, eg =>
            simp only at o
            split at o
            case isFalse => exact o.elim
            intro ws F' H' Pm' sw rms nf sub' ex
            obtain ⟨F2, cm⟩ := came (b := a) (σ := σ) (R := R) ok2.sr.rep ok2.sr.sub fr0 hR dxa ex nf sub'
            have exx := ex0.trans (cm.ext Pd hR2)
            exact hE _ _ (o F2 H' Pa ⟨cm.rep, fun y h => cm.fr y (.inr h), cm.sub⟩ (exx.less fun y h => .inr h))
    by_cases hl : lent avs a = true
    · refine main Pd (fun y h => h) (fun y h => .inl h) (fun i hi d v P1 e r _ y hy => ?_) (fun d self _ => .inl fun y h1 h2 => ok.dis y h1 h2) fun k self _ => .inl fun y h1 h2 => ok.dis y h1 h2
      have := r.still d (lent_still hl i hi d e)
      rw [this] at hy; exact hy.elim
    · refine main (Uni Pd Pa) (fun y h => .inl h) (fun y h => h) (fun i hi d v P1 e r hs y hy => .inr (hs y hy)) (fun d self eg => ?_) fun k self eg => ?_
      · rw [eg] at o
        cases d <;> try exact o.elim
        simp only [hl, Bool.false_or] at o
        split at o
        · rename_i h; exact .inr h
        · exact o.elim
      · rw [eg] at o
        simp only [hl, Bool.false_or] at o
        split at o
        · rename_i h; exact .inr h
        · exact o.elim
section
variable {X : Cx} {G : Env0A} {W : Nat} {Wd : WX}
theorem c_make {ci fi : Nat} {g : Callee} {cl : Cl} {as : MAs} {k : Nat} {f : Addr} {fd : FuncData} {ps : List Str} {x : Str} {p pos : Pos} {es : List Expr} {v : Bool} (hG : G fi = some g) (hc : S.cls ci = some cl) (tk : Takes X Wd) (M : Mk X.K cl.addr f)
    (Fn : FnOk X.prog X.w X.K X.mg X.base (L2.CX X.prog X.w) k f fd ps (spA S [0] g)) (hr : Room (k + 1) X.A) (hg : Gl X x) (hm : X.mg x = some (.ref cl.addr)) (hb : Binds X.K fd ps [])
    (hdb : (x == ("__debug__" : Str)) = false) (hs : es.all noStar = true) (hz : es = [] → as = .nil) (ha : PA X es (tAVs S (ZW S Wd) G W as)) : PE X (.Call (.Name x p) es [] pos) (tE S (ZW S Wd) G W v (.make ci fi as)) := by
  refine (pe_makeA tk M Fn hr hg hm hb ha hdb hs fun h σ H Q q => by rw [hz h] at q; exact tAVs_nil q).weak fun σ H Q h => ?_
  obtain ⟨F, P, a, sr, o⟩ := h
  simp only [ev, hG] at o
  refine ⟨F, P, a, sr, o.bind.imp fun avs a1 e1 o1 vs F1 H1 Pd Pa ok sm => fun y dx hy hd hn => ?_⟩
  refine made_ok (Z := ZW S Wd) (kp := pureAs as) hc ok (by simpa [atE, rootOf, slotOf, pureE] using o1) (fun h => sm (pureAs_mv h).2) (fun c H' z => z) hy hd hn
end
end Ab
namespace Ab
open PySem L2
open Classical
variable {S : Sig} {Z : L2.St → Nat → Hp → Prop} {F F' H H' : Hp} {P : Fp} {σ : L2.St} {a a' : SA}

section
variable {X : Cx} {tg : Expr}
/-- what is walked: a list or a tuple -/
def iSeq (K : PySem.W.Frag) (tl : TE) : TI := fun σ H R => tl σ H fun x H1 => ∃ p, x = .ref p ∧ (((∃ xs, SqL K H1 p xs) ∧ R (Itl K p) H1) ∨ ((∃ xs, SqT K H1 p xs) ∧ R (Itt K p) H1))
theorem pi_seq {l : Expr} {tl : TE} (hl : PE X l tl) : PI X tg l (iSeq X.K tl) := by
  refine ⟨fun pins s σ H R I h => thn (hl.run pins s σ H _ I h) ?_⟩
  rintro v s1 ⟨x, H1, I1, r1, p, rfl, q⟩
  cases r1
  have grow : ∀ {o : Obj}, Inv X pins σ H1 { s1 with heap := s1.heap.push o } := fun {o} => I1.kept (t' := s1.toks) fun b u e => Heap.get?_push_of_some _ e
  have young : ∀ b ∈ [s1.heap.objs.size], FpOk X pins H1 b := fun b hb => by
    rw [List.mem_singleton] at hb
    rw [hb]; exact I1.fpOk (Nat.le_refl _) (I1.hok.fresh (Nat.le_refl _))
  rcases q with ⟨⟨xs, hq⟩, q⟩ | ⟨⟨xs, hq⟩, q⟩
  · obtain ⟨its, rv, pl, hz⟩ := I1.list hq
    exact wpAny_pyIter_list pl.isList ⟨_, _, _, _, H1, rfl, grow, turn_list p _, ⟨_, Heap.get?_push_size _ rfl, rfl, rfl⟩, young, q⟩
  · obtain ⟨its, rv, pl, hz⟩ := I1.tuple hq
    exact wpAny_pyIter_tuple (show s1.heap.IsTuple p its.toArray from pl) ⟨_, _, _, _, H1, rfl, grow, turn_tuple p _, ⟨_, Heap.get?_push_size _ rfl, rfl, rfl⟩, young, q⟩
theorem _root_.L2.PI.weak {e : Expr} {t t' : TI} (h : PI X tg e t) (w : ∀ σ H R, t' σ H R → t σ H R) : PI X tg e t' :=
  ⟨fun pins s σ H R I q => h.run pins s σ H R I (w σ H R q)⟩
end
/-- the machine's walk goes with the evaluator's -/
def ItOk (S : Sig) (F : Hp) (σ : L2.St) : It → L2.It → Prop
  | .vals ds, J => ∃ vs, (∀ H, Reps S F H ds vs Emp) ∧ ∀ i H', Same F H' → (i < vs.length → J.go i H') ∧ (vs.length ≤ i → J.stop i H') ∧ ∀ x H3, i < vs.length → J.yld i H' x H3 → H3 = H' ∧ vs[i]? = some x
  | .live j, J => ∃ p, σ[j]? = some (some (.ref p)) ∧ ∀ i H' xs, H' p = some (.lst xs) → (i < xs.length → J.go i H') ∧ (xs.length ≤ i → J.stop i H') ∧ ∀ x H3, i < xs.length → J.yld i H' x H3 → H3 = H' ∧ xs[i]? = some x
def tI (S : Sig) (Z : L2.St → Nat → Hp → Prop) (kp : Bool) (f : SA → Er It) : TI := fun σ H R => ∃ F P a, SR S F H a σ P ∧
  Out S (Z σ) F H P σ (fun it a' => ∀ J F' H' Pa, SR S F' H' a' σ Pa → Ext F F' H H' P Pa → (kp = true → Same H H') → ItOk S F' σ it J → R J H') (f a)
theorem Reps.any {ds : List D} {vs : List V} (r : Reps S F H ds vs Emp) : ∀ H', Reps S F H' ds vs Emp := fun H' => Reps.keep (fun _ _ z => z) ds r fun x z => z.elim
theorem itl_ok {K : PySem.W.Frag} {p : Addr} {vs : List V} {ds : List D} {σ : L2.St} (e : F p = some (.lst vs)) (r : Reps S F H ds vs Emp) : ItOk S F σ (.vals ds) (Itl K p) :=
  ⟨vs, r.any, fun i H' sF => ⟨fun h => ⟨vs, vs[i], SqL.of (sF _ _ e), by simp [h]⟩, fun h => ⟨vs, SqL.of (sF _ _ e), h⟩, fun x H3 h y => ⟨y.1, y.2 vs (SqL.of (sF _ _ e))⟩⟩⟩
theorem itt_ok {K : PySem.W.Frag} {p : Addr} {vs : List V} {ds : List D} {σ : L2.St} (e : F p = some (.tup vs)) (r : Reps S F H ds vs Emp) : ItOk S F σ (.vals ds) (Itt K p) :=
  ⟨vs, r.any, fun i H' sF => ⟨fun h => ⟨vs, vs[i], SqT.of (sF _ _ e), by simp [h]⟩, fun h => ⟨vs, SqT.of (sF _ _ e), h⟩, fun x H3 h y => ⟨y.1, y.2 vs (SqT.of (sF _ _ e))⟩⟩⟩
/-- a shared value that is walked -/
theorem seq_ok {d : D} {v : V} {ds : List D} {K : PySem.W.Frag} {R : L2.It → Hp → Prop} (r : Rep S F H (frz d) v Emp) (sub : Same F H) (hi : itemsOf (frz d) = some ds) (q : ∀ J, ItOk S F σ (.vals ds) J → R J H) :
    ∃ p, v = .ref p ∧ (((∃ xs, SqL K H p xs) ∧ R (Itl K p) H) ∨ ((∃ xs, SqT K H p xs) ∧ R (Itt K p) H)) := by
  cases d <;> simp only [frz, itemsOf, reduceCtorEq, Option.some.injEq] at hi r
  · subst hi
    simp only [Rep] at r
    obtain ⟨_, p, vs, rfl, e, rr⟩ := r
    exact ⟨p, rfl, .inr ⟨⟨vs, SqT.of (sub _ _ e)⟩, q _ (itt_ok e rr)⟩⟩
  · subst hi
    simp only [Rep] at r
    obtain ⟨p, vs, rfl, rr⟩ := r
    rw [if_neg (by decide)] at rr
    exact ⟨p, rfl, .inl ⟨⟨vs, SqL.of (sub _ _ rr.2.1)⟩, q _ (itl_ok rr.2.1 rr.2.2)⟩⟩
section
variable {X : Cx} {tg : Expr} {G : Env0A} {W : Nat}
abbrev tIt (S : Sig) (Z : L2.St → Nat → Hp → Prop) (G : Env0A) (W : Nat) (it : MI) : TI := tI S Z (pureI it) (evI G W it)
theorem walk_frz {e : ME} {H : Hp} {R : L2.It → Hp → Prop} {σ : L2.St} {K : PySem.W.Frag} {F : Hp} {P : Fp} {a : SA} (sr : SR S F H a σ P)
    (o : Out S (Z σ) F H P σ (fun it a' => ∀ J F' H' Pa, SR S F' H' a' σ Pa → Ext F F' H H' P Pa → (pureE e = true → Same H H') → ItOk S F' σ it J → R J H') ((ev G W false e a).bind fun d s1 => Er.of ((itemsOf (frz d)).map It.vals) s1)) :
    tE S Z G W false e σ H fun x H1 => ∃ p, x = .ref p ∧ (((∃ xs, SqL K H1 p xs) ∧ R (Itl K p) H1) ∨ ((∃ xs, SqT K H1 p xs) ∧ R (Itt K p) H1)) := by
  refine ⟨F, P, a, sr, o.bind.imp fun d a1 e1 o1 v1 F1 H1 P1 Pa1 ok1 => ?_⟩
  obtain ⟨it, ei, q⟩ := o1.of
  simp only [Option.map_eq_some_iff] at ei
  obtain ⟨ds, ei, rfl⟩ := ei
  obtain ⟨s1, s2, s3⟩ := shares (R := P1) ok1.sr (ok1.dis rfl) (ok1.fr rfl)
  have r : Rep S (take F1 H1 P1) H1 (frz d) v1 Emp := ok1.rep.frz s2 d fun x hx => take_in hx
  exact seq_ok r s1.sub ei fun J hJ => q J _ H1 Pa1 s1 ((ok1.ext2 rfl).trans s3) (fun h => ok1.same h) hJ
theorem c_of {e : Expr} {me : ME} (hs : slotOf me = none) (he : PE X e (tE S Z G W false me)) : PI X tg e (tIt S Z G W (.of me)) := by
  refine (pi_seq he).weak fun σ H R h => ?_
  obtain ⟨F, P, a, sr, o⟩ := h
  simp only [evI, hs] at o
  exact walk_frz sr o
theorem c_ofS {i : Nat} {x : Str} {pos : Pos} (hN : X.N[i]? = some x) (hv : Vis X.env.scope x) (hd : (x == ("__debug__" : Str)) = false) (hcd : (x == ("__classdict__" : Str)) = false) : PI X tg (.Name x pos) (tIt S Z G W (.of (.slot i))) := by
  refine (pi_seq (pe_var hN hv hd hcd)).weak fun σ H R h => ?_
  obtain ⟨F, P, a, sr, o⟩ := h
  simp only [evI, slotOf, Option.bind_some] at o
  split at o
  · rename_i j ds hj hds
    cases hj
    split at o
    · rename_i hst
      obtain ⟨v, P1, P2, e1, e2, di, r, h2, _⟩ := sr.rep.focus (rd_some hds)
      simp only [Rep] at r
      obtain ⟨p, vs, rfl, r⟩ := r
      rw [if_pos trivial] at r
      refine ⟨_, e1, p, rfl, .inl ⟨⟨vs, SqL.of r.1⟩, o _ F H P sr .refl (fun _ _ _ z => z) ⟨p, e1, fun k H' xs e => ⟨fun h => ⟨xs, xs[k], SqL.of e, by simp [h]⟩, fun h => ⟨xs, SqL.of e, h⟩, fun x H3 h y => ⟨y.1, y.2 xs (SqL.of e)⟩⟩⟩⟩⟩
    · exact slot_rd (walk_frz sr o)
  · exact slot_rd (walk_frz sr o)
theorem ints_any {is : List Int} : ∀ H, Reps S F H (is.map D.int) (is.map V.int) Emp := fun H => Reps.ofInts is
theorem rangeN_map (lo : Int) (n : Nat) : rangeN lo n = ((List.range n).map fun (i : Nat) => lo + (i : Int)).map D.int := by simp [rangeN]
theorem c_r1 {e : Expr} {me : ME} {p pos : Pos} (hg : Gl X "range") (hm : X.mg "range" = none) (hst : starEach [e] X.env = [(false, eval e X.env)]) (he : PE X e (tE S Z G W true me)) : PI X tg (.Call (.Name "range" p) [e] [] pos) (tIt S Z G W (.r1 me)) := by
  refine (pi_range1 hg hm (pa_cons he pa_nil hst) hst).weak fun σ H R h => ?_
  obtain ⟨F, P, a, sr, o⟩ := h
  simp only [evI] at o
  refine ⟨F, P, a, sr, o.bind.imp fun d a1 e1 o1 v1 F1 H1 P1 Pa1 ok1 => ?_⟩
  cases d <;> try exact o1.elim
  rename_i j
  simp only at o1
  split at o1
  · rename_i hj
    obtain ⟨rfl, _⟩ := rep_int.mp ok1.rep
    have hj := inR_iff hj
    refine ⟨j, rfl, hj.1, hj.2, o1 _ F1 H1 Pa1 ok1.sr ok1.ext (fun h => ok1.same h) ⟨_, fun H => by rw [rangeN_map]; exact Reps.ofInts _, fun i H' sF => ?_⟩⟩
    simp only [List.length_map, List.length_range]
    exact ⟨fun h => h, fun h => h, fun x H3 h y => ⟨y.1, by rw [y.2]; simp [h]⟩⟩
  · exact o1.elim
theorem c_r2 {e1 e2 : Expr} {m1 m2 : ME} {p pos : Pos} (hg : Gl X "range") (hm : X.mg "range" = none) (hst : starEach [e1, e2] X.env = (false, eval e1 X.env) :: starEach [e2] X.env) (hst2 : starEach [e2] X.env = [(false, eval e2 X.env)]) (h1 : PE X e1 (tE S Z G W true m1)) (h2 : PE X e2 (tE S Z G W true m2)) :
    PI X tg (.Call (.Name "range" p) [e1, e2] [] pos) (tIt S Z G W (.r2 m1 m2)) := by
  refine (pi_range2 hg hm (pa_cons h1 (pa_cons h2 pa_nil hst2) hst) (by rw [hst, hst2]) hst2).weak fun σ H R h => ?_
  obtain ⟨F, P, a, sr, o⟩ := h
  simp only [evI] at o
  refine ⟨F, P, a, sr, o.bind.imp fun d a1 e1 o1 v1 F1 H1 P1 Pa1 ok1 => ⟨F1, Pa1, a1, ok1.sr, (o1.bind.at ok1.ext).imp fun d2 a2 e2 o2 v2 F2 H2 P2 Pa2 ok2 => ?_⟩⟩
  cases d <;> try exact o2.elim
  cases d2 <;> try exact o2.elim
  rename_i i j
  simp only at o2
  split at o2
  · rename_i hj
    obtain ⟨rfl, _⟩ := rep_int.mp ok1.rep
    obtain ⟨rfl, _⟩ := rep_int.mp ok2.rep
    simp only [Bool.and_eq_true] at hj
    have hj : (-(2 ^ 62) ≤ i ∧ i < 2 ^ 62) ∧ (-(2 ^ 62) ≤ j ∧ j < 2 ^ 62) := ⟨inR_iff hj.1, inR_iff hj.2⟩
    refine ⟨i, j, rfl, ⟨hj.1.1, hj.1.2, hj.2.1, hj.2.2⟩, o2 _ F2 H2 Pa2 ok2.sr (ok1.ext.trans ok2.ext) (fun h => pure2 ok1 ok2 h) ⟨_, fun H => by rw [rangeN_map]; exact Reps.ofInts _, fun k H' sF => ?_⟩⟩
    simp only [List.length_map, List.length_range]
    exact ⟨fun h => h, fun h => h, fun x H3 h y => ⟨y.1, by rw [y.2]; simp [h]⟩⟩
  · exact o2.elim
theorem c_r3 {e1 e2 e3 : Expr} {m1 m2 m3 : ME} {p pos : Pos} (hg : Gl X "range") (hm : X.mg "range" = none) (h1 : PE X e1 (tE S Z G W true m1)) (h2 : PE X e2 (tE S Z G W true m2)) (h3 : PE X e3 (tE S Z G W true m3)) (hs : [e1, e2, e3].all noStar = true) :
    PI X tg (.Call (.Name "range" p) [e1, e2, e3] [] pos) (tIt S Z G W (.r3 m1 m2 m3)) := by
  simp only [List.all_cons, List.all_nil, Bool.and_eq_true] at hs
  have s1 := star_cons (es := [e2, e3]) (env := X.env) hs.1
  have s2 := star_cons (es := [e3]) (env := X.env) hs.2.1
  have s3 := star_cons (es := []) (env := X.env) hs.2.2.1
  refine (pi_range3 hg hm (pa_cons h1 (pa_cons h2 (pa_cons h3 pa_nil s3) s2) s1) s1 (star_any (by simp [hs]))).weak fun σ H R h => ?_
  obtain ⟨F, P, a, sr, o⟩ := h
  simp only [evI] at o
  refine ⟨F, P, a, sr, o.bind.imp fun d a1 e1 o1 v1 F1 H1 P1 Pa1 ok1 => ⟨F1, Pa1, a1, ok1.sr, (o1.bind.at ok1.ext).imp fun d2 a2 e2 o2 v2 F2 H2 P2 Pa2 ok2 => ⟨F2, Pa2, a2, ok2.sr, (o2.bind.at (ok1.ext.trans ok2.ext)).imp fun d3 a3 e3 o3 v3 F3 H3 P3 Pa3 ok3 => ?_⟩⟩⟩
  cases d <;> try exact o3.elim
  cases d2 <;> try exact o3.elim
  cases d3 <;> try exact o3.elim
  rename_i i j k
  obtain ⟨it, ei, q⟩ := o3.of
  simp only [Option.map_eq_some_iff] at ei
  obtain ⟨ds, ei, rfl⟩ := ei
  unfold range3 at ei
  split at ei
  · rename_i hc
    cases ei
    obtain ⟨rfl, _⟩ := rep_int.mp ok1.rep
    obtain ⟨rfl, _⟩ := rep_int.mp ok2.rep
    obtain ⟨rfl, _⟩ := rep_int.mp ok3.rep
    refine ⟨i, j, k, (Builtin.Range.rangeSize i j k).toNat, rfl, ⟨hc.1, hc.2.1, hc.2.2.1, (Int.toNat_of_nonneg hc.2.2.2).symm⟩, q _ F3 H3 Pa3 ok3.sr (ok1.ext.trans (ok2.ext.trans ok3.ext)) (fun h => by simp only [pureI, Bool.and_eq_true] at h; exact ((ok1.same h.1.1).trans (ok2.same h.1.2)).trans (ok3.same h.2)) ⟨((List.range (Builtin.Range.rangeSize i j k).toNat).map fun (n : Nat) => i + (n : Int) * k).map V.int, fun H => ?_, fun m H' sF => ?_⟩⟩
    · have := Reps.ofInts (S := S) (F := F3) (H := H) ((List.range (Builtin.Range.rangeSize i j k).toNat).map fun (n : Nat) => i + (n : Int) * k)
      rw [List.map_map] at this
      exact this
    · simp only [List.length_map, List.length_range]
      exact ⟨fun h => h, fun h => h, fun x H3 h y => ⟨y.1, by rw [y.2]; simp [h]⟩⟩
  · cases ei
end
end Ab
namespace Ab
open PySem L2
open Classical
variable {S : Sig} {F F' H H' : Hp} {P : Fp} {σ : L2.St} {a a' : SA}

/-! ### steps of a comprehension -/
theorem noRz_ok {α : Type} {x : Er α} {y : α} {s : SA} (h : x.noRz = .ok y s) : x = .ok y s := by
  cases x <;> simp [Er.noRz] at h ⊢; exact h
theorem Er.bind_ok {α β : Type} {x : Er α} {f : α → SA → Er β} {y : β} {s : SA} (h : x.bind f = .ok y s) : ∃ z s1, x = .ok z s1 ∧ f z s1 = .ok y s := by
  cases x with
  | ok z s1 => exact ⟨z, s1, rfl, h⟩
  | rz c s1 => cases h
  | bad => cases h
theorem Er.bind_rz {α β : Type} {x : Er α} {f : α → SA → Er β} {c : Nat} {s : SA} (h : x.bind f = .rz c s) : x = .rz c s ∨ ∃ z s1, x = .ok z s1 ∧ f z s1 = .rz c s := by
  cases x with
  | ok z s1 => exact .inr ⟨z, s1, rfl, h⟩
  | rz k s1 => exact .inl (by simpa [Er.bind] using h)
  | bad => cases h
theorem noRz_rz {α : Type} {x : Er α} {c : Nat} {s : SA} (h : x.noRz = .rz c s) : False := by
  cases x <;> simp [Er.noRz] at h
theorem compL_norz {f : SA → Er Bool} {g : SA → Er D} {own : Nat} : ∀ (ds : List D) (s : SA) (c : Nat) (s' : SA), compL (fun s => (f s).noRz) (fun s => (g s).noRz) own ds s ≠ .rz c s'
  | [], s, c, s', h => by simp [compL] at h
  | x :: xs, s, c, s', h => by
    simp only [compL] at h
    rcases Er.bind_rz h with h | ⟨b, s1, e1, h⟩
    · exact noRz_rz h
    · split at h
      · rcases Er.bind_rz h with h | ⟨y, s2, e2, h⟩
        · exact noRz_rz h
        · rcases Er.bind_rz h with h | ⟨ys, s3, e3, h⟩
          · exact compL_norz xs _ _ _ h
          · cases h
      · exact compL_norz xs _ _ _ h
theorem compL_cons {f : SA → Er Bool} {g : SA → Er D} {own : Nat} {x : D} {xs ys : List D} {s sE : SA} (h : compL (fun s => (f s).noRz) (fun s => (g s).noRz) own (x :: xs) s = .ok ys sE) :
    ∃ b s1, f (s.set own (some x)) = .ok b s1 ∧ ((b = true ∧ ∃ y s2 ys2, g s1 = .ok y s2 ∧ compL (fun s => (f s).noRz) (fun s => (g s).noRz) own xs (s2.set own none) = .ok ys2 sE ∧ ys = y :: ys2) ∨ (b = false ∧ compL (fun s => (f s).noRz) (fun s => (g s).noRz) own xs (s1.set own none) = .ok ys sE)) := by
  simp only [compL] at h
  obtain ⟨b, s1, e1, h⟩ := Er.bind_ok h
  refine ⟨b, s1, noRz_ok e1, ?_⟩
  cases b with
  | true =>
    rw [if_pos rfl] at h
    obtain ⟨y, s2, e2, h⟩ := Er.bind_ok h
    obtain ⟨ys2, s3, e3, h⟩ := Er.bind_ok h
    cases h
    exact .inl ⟨rfl, y, s2, ys2, noRz_ok e2, e3, rfl⟩
  | false => exact .inr ⟨rfl, by simpa using h⟩
theorem compV_norz {W : Nat} {f : SA → Er Bool} {g : SA → Er D} {own i : Nat} : ∀ (n k : Nat) (s : SA) (c : Nat) (s' : SA), compV W (fun s => (f s).noRz) (fun s => (g s).noRz) own i n k s ≠ .rz c s'
  | 0, k, s, c, s', h => by simp [compV] at h
  | n + 1, k, s, c, s', h => by
    simp only [compV] at h
    split at h
    case h_2 => cases h
    split at h
    · cases h
    split at h
    case isFalse => cases h
    rcases Er.bind_rz h with h | ⟨b, s1, e1, h⟩
    · exact noRz_rz h
    · split at h
      · rcases Er.bind_rz h with h | ⟨y, s2, e2, h⟩
        · exact noRz_rz h
        · rcases Er.bind_rz h with h | ⟨ys, s3, e3, h⟩
          · exact compV_norz n _ _ _ _ h
          · cases h
      · exact compV_norz n _ _ _ _ h
theorem compV_step {W : Nat} {f : SA → Er Bool} {g : SA → Er D} {own i n k : Nat} {ys : List D} {s sE : SA} (h : compV W (fun s => (f s).noRz) (fun s => (g s).noRz) own i (n + 1) k s = .ok ys sE) :
    ∃ m ds, rd s i = some (.lst m ds) ∧ ((ds[k]? = none ∧ ys = [] ∧ sE = s) ∨ ∃ x, ds[k]? = some x ∧ still x = true ∧ own ≠ i ∧ ds.length ≤ sizeLine ∧
      ∃ b s1, f (s.set own (some x)) = .ok b s1 ∧ ((b = true ∧ ∃ y s2 ys2, g s1 = .ok y s2 ∧ compV W (fun s => (f s).noRz) (fun s => (g s).noRz) own i n (k + 1) (s2.set own none) = .ok ys2 sE ∧ ys = y :: ys2) ∨ (b = false ∧ compV W (fun s => (f s).noRz) (fun s => (g s).noRz) own i n (k + 1) (s1.set own none) = .ok ys sE))) := by
  simp only [compV] at h
  split at h
  case h_2 => cases h
  rename_i m ds er
  refine ⟨m, ds, er, ?_⟩
  split at h
  · rename_i ek
    cases h
    exact .inl ⟨ek, rfl, rfl⟩
  rename_i x ek
  split at h
  case isFalse => cases h
  rename_i hc
  simp only [Bool.and_eq_true, Bool.not_eq_true', beq_eq_false_iff_ne, decide_eq_true_eq] at hc
  refine .inr ⟨x, ek, hc.1.1, hc.1.2, hc.2, ?_⟩
  obtain ⟨b, s1, e1, h⟩ := Er.bind_ok h
  refine ⟨b, s1, noRz_ok e1, ?_⟩
  cases b with
  | true =>
    rw [if_pos rfl] at h
    obtain ⟨y, s2, e2, h⟩ := Er.bind_ok h
    obtain ⟨ys2, s3, e3, h⟩ := Er.bind_ok h
    cases h
    exact .inl ⟨rfl, y, s2, ys2, noRz_ok e2, e3, rfl⟩
  | false => exact .inr ⟨rfl, by simpa using h⟩

/-! ### one turn -/
theorem Reps.snoc : ∀ {ds : List D} {vs : List V} {Pd Pe : Fp} {d : D} {v : V}, Reps S F H ds vs Pd → Rep S F H d v Pe → Dis Pd Pe → Reps S F H (ds ++ [d]) (vs ++ [v]) (Uni Pd Pe)
  | [], vs, Pd, Pe, d, v, r, re, di => by
    simp only [Reps] at r
    obtain ⟨rfl, rfl⟩ := r
    simp only [List.nil_append, Reps]
    exact ⟨v, [], Pe, Emp, rfl, by rw [emp_uni, uni_emp], dis_emp, re, rfl, rfl⟩
  | d0 :: ds, vs, Pd, Pe, d, v, r, re, di => by
    simp only [Reps] at r
    obtain ⟨w, wr, P1, P2, rfl, rfl, d12, r1, r2⟩ := r
    simp only [List.cons_append, Reps]
    exact ⟨w, wr ++ [v], P1, Uni P2 Pe, rfl, uni_assoc _ _ _, Dis.uni' d12 fun x h1 h2 => di x (.inl h1) h2, r1, Reps.snoc r2 re fun x h1 h2 => di x (.inr h1) h2⟩
theorem Ext.updIn {F H : Hp} {Q : Fp} {p : Addr} {o : HO} (h : Q p) : Ext F F H (upd H p o) Q Q :=
  ⟨fun _ _ z => z, fun x q e n => by rw [upd_ne (show x ≠ p from fun z => n (by rw [z]; exact h))]; exact e, fun x z => .inl z, fun x q z => .inl ⟨q, z⟩⟩
/-- between two turns -/
structure CompI (S : Sig) (F1 H1 : Hp) (P1 : Fp) (p : Addr) (own : Nat) (σ0 : L2.St) (kq : Bool) (F : Hp) (P : Fp) (sa : SA) (ys : List D) (acc : List V) (Pc : Fp) (H : Hp) : Prop where
  sr : SR S F H sa σ0 P
  no : rd sa own = none
  at_ : H p = some (.lst acc)
  acc : Reps S F H ys acc Pc
  nP : ¬ P p
  nC : ¬ Pc p
  di : Dis Pc P
  fr : ∀ x, Pc x → F x = none
  nF : F p = none
  ext : Ext F1 F H1 H P1 (Uni (One p) (Uni Pc P))
  pn : H1 p = none
  sm : kq = true → Same H1 H
theorem rd_set_none {s : SA} {i : Nat} : rd (s.set i none) i = none := by
  unfold rd
  by_cases h : i < s.length
  · rw [List.getElem?_set_self h]; rfl
  · rw [List.getElem?_eq_none (by rw [List.length_set]; omega)]; rfl
theorem rd_none {s : SA} {i : Nat} (h : rd s i = none) : ∀ d, s[i]? ≠ some (some d) := fun d e => by rw [rd_of e] at h; cases h
theorem put_any {sa : SA} {σ : L2.St} {own : Nat} {d : D} {v : V} (h : RepS S F H sa σ P) (no : rd sa own = none) (r : Rep S F H d v Emp) : RepS S F H (sa.set own (some d)) (σ.set own (some v)) P := by
  by_cases hl : own < sa.length
  · have e : sa[own]? = some none := by
      rw [List.getElem?_eq_getElem hl]
      cases q : sa[own] with
      | none => rfl
      | some d' => exact (rd_none no d' (by rw [List.getElem?_eq_getElem hl, q])).elim
    have := h.put hl e r emp_dis
    rwa [emp_uni] at this
  · have hl' : ¬ own < σ.length := by rw [h.len]; exact hl
    rw [List.set_eq_of_length_le (by omega), List.set_eq_of_length_le (by omega)]
    exact h
/-- a slot's value forgotten, in both -/
theorem drop_both {sa : SA} {σ : L2.St} {own : Nat} {o : Option V} (sr : SR S F H sa σ P) : ∃ P2, SR S F H (sa.set own none) (σ.set own o) P2 ∧ ∀ x, P2 x → P x := by
  obtain ⟨P2, r, sb⟩ := sr.rep.drop own
  exact ⟨P2, ⟨r.other (rd_none rd_set_none), fun x h => sr.fr x (sb x h), sr.sub⟩, sb⟩
section
variable {F1 H1 : Hp} {P1 : Fp} {p : Addr} {own : Nat} {σ0 : L2.St} {sa : SA} {ys : List D} {acc : List V} {Pc : Fp} {kq : Bool}
theorem CompI.held (I : CompI S F1 H1 P1 p own σ0 kq F P sa ys acc Pc H) : ∀ x, Uni (One p) Pc x → ∃ o, H x = some o := fun x h => h.elim (fun z => by have z : x = p := z; rw [z]; exact ⟨_, I.at_⟩) (Reps.held ys I.acc x)
theorem CompI.apart (I : CompI S F1 H1 P1 p own σ0 kq F P sa ys acc Pc H) : Dis (Uni (One p) Pc) P := Dis.uni (fun x h1 h2 => by have h1 : x = p := h1; rw [h1] at h2; exact I.nP h2) I.di
/-- the test was false -/
theorem CompI.skip {d : D} {v : V} {F' H' : Hp} {Pa : Fp} {s1 : SA} {o2 : Option V} (I : CompI S F1 H1 P1 p own σ0 kq F P sa ys acc Pc H) (sr : SR S F' H' s1 (σ0.set own o2) Pa) (ex : Ext F F' H H' P Pa) (hs : kq = true → Same H H') (e0 : σ0.set own none = σ0) :
    ∃ P2, CompI S F1 H1 P1 p own σ0 kq F' P2 (s1.set own none) ys acc Pc H' := by
  obtain ⟨P2, sr2, sb⟩ := drop_both (own := own) (o := none) sr
  rw [List.set_set, e0] at sr2
  have dis := ex.dis I.apart I.held
  refine ⟨P2, sr2, rd_set_none, ex.kept _ _ I.at_ I.nP, ex.asides I.acc I.di, fun z => dis p (.inl rfl) (sb p z), I.nC, fun x h1 h2 => dis x (.inr h1) (sb x h2), fun x h => ex.unf I.di (Reps.held ys I.acc) I.fr x h, ?_, ?_, I.pn, fun h => (I.sm h).trans (hs h)⟩
  · exact ex.unf (R := One p) (fun x h1 h2 => by have h1 : x = p := h1; rw [h1] at h2; exact I.nP h2) (fun x h => by have h : x = p := h; rw [h]; exact ⟨_, I.at_⟩) (fun x h => by have h : x = p := h; rw [h]; exact I.nF) p rfl
  · have e := (ex.frame (R := Uni (One p) Pc))
    rw [uni_comm P, uni_assoc, uni_comm Pa, uni_assoc] at e
    exact (I.ext.trans e).less fun x h => h.elim .inl fun h => h.elim (fun z => .inr (.inl z)) fun z => .inr (.inr (sb x z))
/-- an element more -/
theorem CompI.more {d : D} {v : V} {F' H' : Hp} {Pd Pa : Fp} {s1 : SA} {t : At} {σ2 : L2.St} {o2 : Option V} (I : CompI S F1 H1 P1 p own σ0 kq F P sa ys acc Pc H) (ok : Ok S F H P σ2 t d s1 v F' H' Pd Pa) (ht : t.tmp = true) (hs : kq = true → Same H H') (e2 : σ2 = σ0.set own o2) (e0 : σ0.set own none = σ0) :
    ∃ P2, CompI S F1 H1 P1 p own σ0 kq F' P2 (s1.set own none) (ys ++ [d]) (acc ++ [v]) (Uni Pc Pd) (upd H' p (.lst (acc ++ [v]))) := by
  subst e2
  obtain ⟨P2, sr2, sb⟩ := drop_both (own := own) (o := none) ok.sr
  rw [List.set_set, e0] at sr2
  have ex := ok.ext2 ht
  have dis := ex.dis I.apart I.held
  have nFp : F' p = none := ok.ext.unf (R := One p) (fun x h1 h2 => by have h1 : x = p := h1; rw [h1] at h2; exact I.nP h2) (fun x h => by have h : x = p := h; rw [h]; exact ⟨_, I.at_⟩) (fun x h => by have h : x = p := h; rw [h]; exact I.nF) p rfl
  have nPd : ¬ Pd p := fun z => dis p (.inl rfl) (.inl z)
  have nP2 : ¬ P2 p := fun z => dis p (.inl rfl) (.inr (sb p z))
  have racc : Reps S F' H' ys acc Pc := ok.ext.asides I.acc I.di
  have dcd : Dis Pc Pd := fun x h1 h2 => dis x (.inr h1) (.inl h2)
  have nCd : ¬ Uni Pc Pd p := fun z => z.elim I.nC nPd
  refine ⟨P2, ⟨sr2.rep.keep (fun _ _ z => z) fun x h => upd_ne fun e => nP2 (e ▸ h), sr2.fr, fun x q e => ?_⟩, rd_set_none, upd_same, Reps.keep (fun _ _ z => z) _ (racc.snoc ok.rep dcd) fun x h => upd_ne fun e => nCd (e ▸ h), nP2, nCd, ?_, ?_, nFp, ?_, I.pn, fun h x q e => by rw [upd_ne (ne_of_none e I.pn)]; exact hs h x q (I.sm h x q e)⟩
  · have : x ≠ p := fun z => by rw [z, nFp] at e; cases e
    rw [upd_ne this]; exact sr2.sub x q e
  · exact Dis.uni (fun x h1 h2 => dis x (.inr h1) (.inr (sb x h2))) fun x h1 h2 => ok.dis ht x h1 (sb x h2)
  · exact fun x h => h.elim (ok.ext.unf I.di (Reps.held ys I.acc) I.fr x) (ok.fr ht x)
  · have e := (ex.frame (R := Uni (One p) Pc))
    rw [uni_comm P, uni_assoc, uni_comm (Uni Pd Pa), uni_assoc, ← uni_assoc Pc Pd Pa] at e
    exact ((I.ext.trans e).less fun x h => h.elim .inl fun h => h.elim (fun z => .inr (.inl z)) fun z => .inr (.inr (sb x z))).trans (Ext.updIn (.inl rfl))
end
end Ab
namespace Ab
open PySem L2
open Classical
variable {S : Sig} {Z : L2.St → Nat → Hp → Prop} {F F' H H' : Hp} {P : Fp} {σ : L2.St} {a a' : SA}

abbrev Z0 : L2.St → Nat → Hp → Prop := fun _ _ _ => False
abbrev tTo (S : Sig) (G : Env0A) (W : Nat) (t : MTo) : TT := tAT S Z0 (pureTo t) (evTo G W t)
theorem set_none_self {s : SA} {i : Nat} (h : rd s i = none) : s.set i none = s := by
  apply List.ext_getElem?
  intro j
  by_cases hj : i = j
  · subst hj
    by_cases hl : i < s.length
    · rw [List.getElem?_set_self hl]
      cases q : s[i]? with
      | none => rw [List.getElem?_eq_getElem hl] at q; cases q
      | some o => cases o with
        | none => rfl
        | some d => exact (rd_none h d q).elim
    · rw [List.getElem?_eq_none (by rw [List.length_set]; omega), List.getElem?_eq_none (by omega)]
  · rw [List.getElem?_set_ne hj]
theorem join_none {s : SA} {i : Nat} (h : rd s i = none) : (s[i]?).join = none := h
/-- the own slot's older value set aside, and put back -/
theorem RepS.aside {F1 H1 : Hp} {Pa : Fp} (own : Nat) (h : RepS S F1 H1 a σ Pa) : ∃ Pw Pr, Pa = Uni Pw Pr ∧ Dis Pw Pr ∧ RepS S F1 H1 (a.set own none) σ Pr ∧ (∀ x, Pw x → ∃ o, H1 x = some o) ∧
    ∀ (F' H' : Hp) (P' : Fp) (sa : SA), RepS S F' H' sa σ P' → rd sa own = none → Dis Pw P' → Same F1 F' → (∀ x, Pw x → H' x = H1 x) → RepS S F' H' (sa.set own (a[own]?).join) σ (Uni Pw P') := by
  cases q : rd a own with
  | none =>
    refine ⟨Emp, Pa, (emp_uni _).symm, emp_dis, by rw [set_none_self q]; exact h, fun x z => z.elim, fun F' H' P' sa r no _ _ _ => ?_⟩
    rw [join_none q, set_none_self no, emp_uni]
    exact r
  | some d =>
    obtain ⟨v, P1, P2, e1, e2, di, r, h2, _⟩ := h.focus (rd_some q)
    refine ⟨P1, P2, e2, di, h2, r.held d, fun F' H' P' sa rs no dw sF hk => ?_⟩
    have hl : own < sa.length := by
      rw [← rs.len]
      exact (List.getElem?_eq_some_iff.mp e1).1
    have en : sa[own]? = some none := by
      rw [List.getElem?_eq_getElem hl]
      cases z : sa[own] with
      | none => rfl
      | some d' => exact (rd_none no d' (by rw [List.getElem?_eq_getElem hl, z])).elim
    have : (a[own]?).join = some d := q
    rw [this]
    exact rs.tell en e1 (r.keep sF d hk) dw
theorem lc_ok {G : Env0A} {W : Nat} {own : Nat} {elt : ME} {it : MI} {t : MTo} {v : Bool} {H : Hp} {Q : VK} (h : tE S Z G W v (.comp own elt it t) σ H Q) :
    tLc (tIt S Z G W it) (gName own) (tTo S G W t) (tE S Z0 G W false elt) [own] σ H Q := by
  obtain ⟨F, P, a, sr, o⟩ := h
  simp only [ev] at o
  refine ⟨F, P, a, sr, o.bind.imp fun im a1 e1 o1 J F1 H1 Pa1 sr1 ex1 sm1 hJ p hp => ?_⟩
  obtain ⟨Pw, Pr, eP, dwr, r0, heldw, back⟩ := sr1.rep.aside own
  have e0 : (σ.set own none).set own none = σ.set own none := List.set_set ..
  have nPa : ¬ Pa1 p := fun z => by
    obtain ⟨q, e⟩ := sr1.rep.held p z
    rw [hp] at e; cases e
  have nPr : ¬ Pr p := fun z => nPa (by rw [eP]; exact .inr z)
  have nPw : ¬ Pw p := fun z => nPa (by rw [eP]; exact .inl z)
  have sub0 : Same F1 (upd H1 p (.lst [])) := sr1.sub.trans (same_up hp)
  have start : CompI S F1 H1 Pr p own (σ.set own none) (pureE elt && pureTo t) F1 Pr (a1.set own none) [] [] Emp (upd H1 p (.lst [])) := by
    refine ⟨⟨(r0.other (rd_none rd_set_none)).keep (fun _ _ z => z) fun x hx => upd_ne fun z => nPr (by rw [← z]; exact hx), fun x hx => sr1.fr x (by rw [eP]; exact .inr hx), sub0⟩, rd_set_none, upd_same, by simp only [Reps]; exact ⟨trivial, trivial⟩, nPr, fun z => z, emp_dis, fun x z => z.elim, sr1.sub.free hp, ⟨fun _ _ z => z, fun x q e _ => same_up hp x q e, fun x h => ?_, fun x q e => .inl ⟨q, e⟩⟩, hp, fun _ => same_up hp⟩
    rcases h with h | h | h
    · have h : x = p := h
      rw [h]; exact .inr hp
    · exact h.elim
    · exact .inl h
  -- the end
  have fin : ∀ {ys : List D} {sE : SA} {F2 H2 : Hp} {P2 : Fp} {acc : List V} {Pc : Fp}, CompI S F1 H1 Pr p own (σ.set own none) (pureE elt && pureTo t) F2 P2 sE ys acc Pc H2 →
      KV S F H P σ (atE v (.comp own elt it t)) Q (.lst true ys) (sE.set own (a1[own]?).join) → Q (.ref p) H2 := fun {ys sE F2 H2 P2 acc Pc} I k => by
    have exw := (I.ext.frame (R := Pw))
    rw [uni_comm Pr Pw, ← eP] at exw
    have keepw : ∀ x, Pw x → H2 x = H1 x := fun x hx => by
      obtain ⟨q, e⟩ := heldw x hx
      rw [e]; exact I.ext.kept x q e fun z => dwr x hx z
    have dw : Dis Pw (Uni (One p) (Uni Pc P2)) := I.ext.dis dwr heldw
    have rs : RepS S F2 H2 sE σ P2 := by
      have := I.sr.rep.other (i := own) (o := (σ[own]?).join) (rd_none I.no)
      rw [List.set_set] at this
      have e : σ.set own (σ[own]?).join = σ := by
        apply List.ext_getElem?
        intro j
        by_cases hj : own = j
        · subst hj
          by_cases hl : own < σ.length
          · rw [List.getElem?_set_self hl, List.getElem?_eq_getElem hl]; rfl
          · rw [List.getElem?_eq_none (by rw [List.length_set]; omega), List.getElem?_eq_none (by omega)]
        · rw [List.getElem?_set_ne hj]
      rwa [e] at this
    have bk := back F2 H2 P2 sE rs I.no (fun x h1 h2 => dw x h1 (.inr (.inr h2))) I.ext.same keepw
    have frw : ∀ x, Pw x → F2 x = none := I.ext.unf dwr heldw fun x hx => sr1.fr x (by rw [eP]; exact .inl hx)
    have exx := ex1.trans exw
    refine k _ F2 H2 (Uni (One p) Pc) (Uni Pw P2) ⟨?_, ⟨bk, fun x h => h.elim (frw x) (I.sr.fr x), I.sr.sub⟩, exx.less fun x h => h.elim .inr fun z => .inl (.inr (.inr z)), fun _ => exx.less fun x h => ?_, fun _ => ?_, fun _ x h => ?_, fun h => ?_, fun i h => by simp [atE, slotOf] at h⟩
    · simp only [Rep]
      refine ⟨p, acc, rfl, ?_⟩
      rw [if_pos trivial]
      exact ⟨I.at_, .inl rfl, Pc, I.nC, rfl, I.acc⟩
    · rcases h with (h | h) | h | h
      · exact .inl (.inl h)
      · exact .inl (.inr (.inl h))
      · exact .inr h
      · exact .inl (.inr (.inr h))
    · intro x h1 h2
      rcases h2 with h2 | h2
      · exact dw x h2 (h1.elim .inl fun z => .inr (.inl z))
      · rcases h1 with h1 | h1
        · have h1 : x = p := h1
          rw [h1] at h2; exact I.nP h2
        · exact I.di x h1 h2
    · rcases h with h | h
      · have h : x = p := h
        rw [h]; exact I.nF
      · exact I.fr x h
    · have h : (pureE elt && pureI it && pureTo t) = true := by simpa [atE, pureE] using h
      simp only [Bool.and_eq_true] at h
      exact (sm1 h.1.2).trans (I.sm (by simp [h.1.1, h.2]))
  -- one turn
  have turn : ∀ {i : Nat} {F2 H2 : Hp} {P2 : Fp} {sa s1 : SA} {ys1 : List D} {acc : List V} {Pc : Fp} {d : D} {x : V} {b : Bool} {Nx : Hp → Prop}, CompI S F1 H1 Pr p own (σ.set own none) (pureE elt && pureTo t) F2 P2 sa ys1 acc Pc H2 → ys1.length ≤ i → i < sizeLine → Rep S F2 H2 d x Emp →
      evTo G W t (sa.set own (some d)) = .ok b s1 →
      (b = false → ∀ F3 P3 H3, CompI S F1 H1 Pr p own (σ.set own none) (pureE elt && pureTo t) F3 P3 (s1.set own none) ys1 acc Pc H3 → Nx H3) →
      (b = true → ∃ y s2, ev G W false elt s1 = .ok y s2 ∧ ∀ F3 P3 acc3 Pc3 H3, CompI S F1 H1 Pr p own (σ.set own none) (pureE elt && pureTo t) F3 P3 (s2.set own none) (ys1 ++ [y]) acc3 Pc3 H3 → Nx H3) →
      gName own x (wipe σ [own]) H2 fun σ2 H2 => wipe σ2 [own] = wipe σ [own] ∧ tTo S G W t σ2 H2 fun b H3 =>
        if b = true then tE S Z0 G W false elt σ2 H3 fun y H4 => ∃ acc, H4 p = some (.lst acc) ∧ acc.length < sizeLine ∧ Nx (upd H4 p (.lst (acc ++ [y]))) else Nx H3 := by
    intro i F2 H2 P2 sa s1 ys1 acc Pc d x b Nx I hl hz rx ef hn hy
    refine ⟨by simp only [wipe]; rw [List.set_set, List.set_set], F2, P2, sa.set own (some d), ⟨put_any I.sr.rep I.no rx, I.sr.fr, I.sr.sub⟩, ?_⟩
    rw [ef]
    intro F3 H3 Pa3 sr3 ex3 sm3
    cases b with
    | false =>
      rw [if_neg (by decide)]
      obtain ⟨P4, I4⟩ := I.skip (d := d) (v := x) sr3 ex3 (fun h => sm3 (by simp only [Bool.and_eq_true] at h; exact h.2)) e0
      exact hn rfl _ _ _ I4
    | true =>
      rw [if_pos rfl]
      obtain ⟨y, s2, eg, hy⟩ := hy rfl
      refine ⟨F3, Pa3, s1, sr3, ?_⟩
      rw [eg]
      intro w F4 H4 Pd Pa4 ok
      have ok' := Ok.later (kp := pureTo t) ex3 sm3 ok
      obtain ⟨P5, I5⟩ := I.more ok' rfl (fun h => ok'.same (by simp only [Bool.and_eq_true] at h ⊢; exact ⟨h.2, h.1⟩)) rfl e0
      refine ⟨acc, ok'.ext.kept _ _ I.at_ I.nP, ?_, hy _ _ _ _ _ I5⟩
      rw [Reps.len I.acc]
      omega
  cases im with
  | vals ds =>
    obtain ⟨vs, rv, hJ⟩ := hJ
    simp only at o1
    have hvl : vs.length = ds.length := Reps.len (rv H1)
    by_cases hz : ds.length ≤ sizeLine
    · simp only [hz, decide_true, Bool.not_true, Bool.false_eq_true, if_false] at o1
      cases hc : compL (fun s => (evTo G W t s).noRz) (fun s => (ev G W false elt s).noRz) own ds (a1.set own none) with
      | bad => rw [hc] at o1; exact o1.elim
      | rz c s' => exact (compL_norz _ _ _ _ hc).elim
      | ok ys sE =>
        rw [hc] at o1
        have o1 : KV S F H P σ (atE v (.comp own elt it t)) Q (.lst true ys) (sE.set own (a1[own]?).join) := o1
        refine ⟨fun i m H2 => m = vs.length - i ∧ i ≤ vs.length ∧ ∃ F2 P2 sa ys1 acc Pc ys2, CompI S F1 H1 Pr p own (σ.set own none) (pureE elt && pureTo t) F2 P2 sa ys1 acc Pc H2 ∧ ys1.length ≤ i ∧
          compL (fun s => (evTo G W t s).noRz) (fun s => (ev G W false elt s).noRz) own (ds.drop i) sa = .ok ys2 sE ∧ ys1 ++ ys2 = ys, ⟨vs.length, rfl, Nat.zero_le _, F1, Pr, _, [], [], Emp, ys, start, Nat.le_refl _, hc, rfl⟩, ?_⟩
        rintro i m H2 ⟨rfl, hi, F2, P2, sa, ys1, acc, Pc, ys2, I, hl, hcc, rfl⟩
        have sF : Same F1 H2 := I.ext.same.trans I.sr.sub
        by_cases hlt : i < vs.length
        · right
          refine ⟨(hJ i H2 sF).1 hlt, fun H3 => ∃ F2 P2 sa ys1' acc Pc ys2', CompI S F1 H1 Pr p own (σ.set own none) (pureE elt && pureTo t) F2 P2 sa ys1' acc Pc H3 ∧ ys1'.length ≤ i + 1 ∧
            compL (fun s => (evTo G W t s).noRz) (fun s => (ev G W false elt s).noRz) own (ds.drop (i + 1)) sa = .ok ys2' sE ∧ ys1' ++ ys2' = ys1 ++ ys2, fun H3 h => ⟨vs.length - (i + 1), by omega, rfl, by omega, h⟩, fun x H3 y => ?_⟩
          obtain ⟨rfl, ex⟩ := (hJ i H2 sF).2.2 x H3 hlt y
          have hd : ds.drop i = ds[i] :: ds.drop (i + 1) := List.drop_eq_getElem_cons (by omega)
          rw [hd] at hcc
          obtain ⟨b, s1, ef, hb⟩ := compL_cons hcc
          have rx : Rep S F2 H3 ds[i] x Emp := by
            obtain ⟨_, hr⟩ := Reps.at_iff.mp (rv H3)
            exact (hr i ds[i] x (by simp [hvl ▸ hlt]) ex).keep I.ext.same _ fun _ _ => rfl
          refine turn (i := i) I hl (by omega) rx ef (fun e F3 P3 H3 I3 => ?_) fun e => ?_
          · rcases hb with ⟨h, _⟩ | ⟨_, h⟩
            · rw [e] at h; cases h
            · exact ⟨F3, P3, _, ys1, acc, Pc, ys2, I3, by omega, h, rfl⟩
          · rcases hb with ⟨_, y, s2, ys3, eg, h, rfl⟩ | ⟨h, _⟩
            · exact ⟨y, s2, eg, fun F3 P3 acc3 Pc3 H3 I3 => ⟨F3, P3, _, ys1 ++ [y], acc3, Pc3, ys3, I3, by rw [List.length_append, List.length_singleton]; omega, h, by rw [List.append_assoc]; rfl⟩⟩
            · rw [e] at h; cases h
        · left
          have hi' : i = vs.length := by omega
          refine ⟨(hJ i H2 sF).2.1 (by omega), ?_⟩
          rw [List.drop_of_length_le (by omega)] at hcc
          simp only [compL, Er.ok.injEq] at hcc
          obtain ⟨rfl, rfl⟩ := hcc
          rw [List.append_nil] at o1
          exact fin I o1
    · simp only [hz, decide_false, Bool.not_false, if_true] at o1
      exact o1.elim
  | live j =>
    obtain ⟨q, eq, hJ⟩ := hJ
    simp only at o1
    cases hc : compV W (fun s => (evTo G W t s).noRz) (fun s => (ev G W false elt s).noRz) own j W 0 (a1.set own none) with
    | bad => rw [hc] at o1; exact o1.elim
    | rz c s' => exact (compV_norz _ _ _ _ _ hc).elim
    | ok ys sE =>
      rw [hc] at o1
      have o1 : KV S F H P σ (atE v (.comp own elt it t)) Q (.lst true ys) (sE.set own (a1[own]?).join) := o1
      refine ⟨fun i m H2 => ∃ F2 P2 sa ys1 acc Pc ys2, CompI S F1 H1 Pr p own (σ.set own none) (pureE elt && pureTo t) F2 P2 sa ys1 acc Pc H2 ∧ ys1.length ≤ i ∧
        compV W (fun s => (evTo G W t s).noRz) (fun s => (ev G W false elt s).noRz) own j m i sa = .ok ys2 sE ∧ ys1 ++ ys2 = ys, ⟨W, F1, Pr, _, [], [], Emp, ys, start, Nat.le_refl _, hc, rfl⟩, ?_⟩
      rintro i m H2 ⟨F2, P2, sa, ys1, acc, Pc, ys2, I, hl, hcc, rfl⟩
      cases m with
      | zero => simp [compV] at hcc
      | succ n =>
        obtain ⟨mk, ds, er, hs⟩ := compV_step hcc
        obtain ⟨w, Q1, Q2, ew, e2, di, r, _, _⟩ := I.sr.rep.focus (rd_some er)
        have hoj : own ≠ j := fun z => by rw [← z, I.no] at er; cases er
        rw [List.getElem?_set_ne hoj, eq] at ew
        cases ew
        obtain ⟨q', vs, P', eq', eh, rr⟩ := r.lst_at I.sr.sub
        cases eq'
        have hvl := Reps.len rr
        obtain ⟨j1, j2, j3⟩ := hJ i H2 vs eh
        rcases hs with ⟨en, rfl, rfl⟩ | ⟨d, ed, hst, _, hz, b, s1, ef, hb⟩
        · left
          have : ds.length ≤ i := List.getElem?_eq_none_iff.mp en
          rw [List.append_nil] at o1
          exact ⟨j2 (by omega), fin I o1⟩
        · right
          have hlt : i < ds.length := (List.getElem?_eq_some_iff.mp ed).1
          refine ⟨j1 (by omega), fun H3 => ∃ F2 P2 sa ys1' acc Pc ys2', CompI S F1 H1 Pr p own (σ.set own none) (pureE elt && pureTo t) F2 P2 sa ys1' acc Pc H3 ∧ ys1'.length ≤ i + 1 ∧
            compV W (fun s => (evTo G W t s).noRz) (fun s => (ev G W false elt s).noRz) own j n (i + 1) sa = .ok ys2' sE ∧ ys1' ++ ys2' = ys1 ++ ys2, fun H3 h => ⟨n, Nat.lt_succ_self _, h⟩, fun x H3 y => ?_⟩
          obtain ⟨rfl, ex⟩ := j3 x H3 (by omega) y
          obtain ⟨x', Px, ex', rx, sbx⟩ := rr.item ed
          rw [ex] at ex'; cases ex'
          rw [rx.still d hst] at rx
          refine turn (i := i) I hl (by omega) rx ef (fun e F3 P3 H3 I3 => ?_) fun e => ?_
          · rcases hb with ⟨h, _⟩ | ⟨_, h⟩
            · rw [e] at h; cases h
            · exact ⟨F3, P3, _, ys1, acc, Pc, ys2, I3, by omega, h, rfl⟩
          · rcases hb with ⟨_, y, s2, ys3, eg, h, rfl⟩ | ⟨h, _⟩
            · exact ⟨y, s2, eg, fun F3 P3 acc3 Pc3 H3 I3 => ⟨F3, P3, _, ys1 ++ [y], acc3, Pc3, ys3, I3, by rw [List.length_append, List.length_singleton]; omega, h, by rw [List.append_assoc]; rfl⟩⟩
            · rw [e] at h; cases h
section
variable {X : Cx} {G : Env0A} {W : Nat}
theorem c_comp {own : Nat} {y : Str} {elt : ME} {it : MI} {t : MTo} {e tg iter : Expr} {ifs : List Expr} {scope : Scope} {pos : Pos} {v : Bool} (hc : X.calm = true) (hN : X.N.Nodup) (hi : PI X tg iter (tIt S Z G W it)) (ok : BlkOk X.N X.env.scope scope [(y, own)])
    (hg : ∀ (s : Shared) (H : Hp) (C : Addr) (cl : List (Str × Addr)) (fp : List Addr), PG (X.blk s H scope (compEnvC scope cl C X.env) fp) tg (gName own)) (ht : ∀ (s : Shared) (H : Hp) (C : Addr) (cl : List (Str × Addr)) (fp : List Addr), PTs (X.blk s H scope (compEnvC scope cl C X.env) fp) ifs (tTo S G W t))
    (he : ∀ (s : Shared) (H : Hp) (C : Addr) (cl : List (Str × Addr)) (fp : List Addr), PE (X.blk s H scope (compEnvC scope cl C X.env) fp) e (tE S Z0 G W false elt)) (hs : ∀ x, foldedSetIterable iter X.env x = pure x) :
    PE X (.ListComp e [⟨tg, iter, ifs, 0⟩] scope pos) (tE S Z G W v (.comp own elt it t)) := (pe_lc hc hN hi ok hg ht he hs).weak fun σ H Q h => lc_ok h
end
end Ab
/-! AbSet: set(l) of a list of are, as SetR has it. -/
namespace Ab
open PySem L2 PySem.Spec PyProof.Rows
section
variable {P : Program} {w : World} {A : Around} {E : Value → Shared → Prop} {s : Shared}
/-- the new set ahead of its items -/
abbrev bare (w : World) : Obj := { cls := .type "set", dict := none, data := .set #[] 0 (.fresh 0 0 (!w.params.followText "set-order")) }
set_option maxHeartbeats 3200000 in
theorem call_set_lstI {l : Addr} {items : Array Value} (ns : List Int) {Q : Value → Shared → Prop} (free : A.handled = none) (isl : s.heap.IsList l items) (are : IntsAre items.toList ns) (room : ns.length + 1 < scanBound)
    (fin : ∀ (g : Heap) (tk c : Nat), SetR w g s.heap.objs.size (fun j => decide (j ∈ ns)) c → c ≤ ns.length → (∀ b o, s.heap.get? b = some o → g.get? b = some o) → Q (.ref s.heap.objs.size) { s with heap := g, toks := tk }) :
    wpAny (model P w) A (call (.type "set") [.ref l]) Q E s := by
  have size : items.size = ns.length := by
    have z := IntsAre.length are
    simpa using z
  obtain ⟨c, tl, mro⟩ := F.called_set.mro
  have isMade := F.called_set.made
  have isSub := F.called_set.sub
  refine wpAny_call (codeAny_of_tree (show wpAny _ _ (callAny (.type "set") _) _ _ _ from ?_))
  refine wpAny_pure ⟨Code.quiet_builtin _ (by decide +kernel), ?_⟩
  refine codeAny_builtin F.entry_type_call ?_
  rw [Around.under_plain (weight_type_call_type "set" [.ref l] []) rfl]
  have noTy := F.called_set.notType
  have canMake := F.called_set.canCreate
  have check1 := F.typeCall_set_1 (.ref l)
  repeat (any_goals (first | wp_step | assumption))
  refine codeAny_mono (code_set_led1 (.ref l) (E := E) (Q₁ := fun ob t => ob = .ref s.heap.objs.size ∧ t = { s with heap := s.heap.push (bare w) }) ⟨rfl, rfl⟩) fun res t ht => ?_
  match res, ht with
  | .error e, ht => exact ht
  | .ok .next, ht => exact ht.elim
  | .ok .brk, ht => exact ht.elim
  | .ok .cont, ht => exact ht.elim
  | .ok (.ret ob), ht =>
    obtain ⟨rfl, rfl⟩ := ht
    have atS : (s.heap.push (bare w)).get? s.heap.objs.size = some (bare w) := Heap.get?_push_size _ rfl
    have tyS : Shared.TypeIs { s with heap := s.heap.push (bare w) } (.ref s.heap.objs.size) "set" := ⟨_, atS, rfl⟩
    have initLook := F.called_set.init.lookup
    have initBind := F.called_set.init.bind (.ref s.heap.objs.size)
    repeat (any_goals (first | wp_step | assumption))
    refine codeAny_mono (codeAny_call_builtin (R := wants (fun r t => r = .none ∧ ∃ g tk c, t = { s with heap := g, toks := tk } ∧ SetR w g s.heap.objs.size (fun j => decide (j ∈ ns)) c ∧ c ≤ ns.length ∧
        ∀ b o, s.heap.get? b = some o → g.get? b = some o) E) F.called_set.init.plain F.entry_set_init (check_set_init_1 tyS ?_)) fun r2 t2 h2 => ?_
    · obtain ⟨ol, el, cl, nl, dl⟩ := isl
      obtain ⟨c0, d0, dat, sl⟩ := ol
      simp only at cl dl
      subst cl
      subst dl
      have el1 : (s.heap.push (bare w)).get? l = some { cls := .type "list", dict := d0, data := .seq items nl, slots := sl } := Heap.get?_push_of_some _ el
      have sub1 := PySem.F.sub_list_set
      have sub2 := PySem.F.sub_list_frozenset
      have noDict : (Value.type "list" == Value.type "dict") = false := by decide
      have isl1 : (s.heap.push (bare w)).IsList l items := ⟨_, el1, rfl, nl, rfl⟩
      unfold Builtin.«set.__init__» noKeywords
      unfold Builtin.Frozenset.updateFrom
      generalize hIter : pyIter = iter
      wp_walk
      subst hIter
      refine wpAny_pyIter_list isl1 (wpAny_bind (wpAny_runValue ?_))
      have llt : l < s.heap.objs.size := Heap.lt_size el
      have free3 : A.in1.in1.in1.handled = none := by simp [free]
      have sz1 : (s.heap.push (bare w)).objs.size = s.heap.objs.size + 1 := Heap.size_push ..
      have neI : l ≠ (s.heap.push (bare w)).objs.size := by rw [sz1]; exact Nat.ne_of_lt (Nat.lt_succ_of_lt llt)
      have notIn : s.heap.objs.size ∉ [(s.heap.push (bare w)).objs.size, l] := by
        rw [sz1]
        simp only [List.mem_cons, List.not_mem_nil, or_false, not_or]
        exact And.intro (Nat.ne_of_lt (Nat.lt_succ_self _)) (Nat.ne_of_gt llt)
      have vals : ∀ (i : Nat) (v : Value), items[i]? = some v → ∃ k t, ns[i]? = some k ∧ v = .int k t := fun i v hv => by
        have hi : i < ns.length := size ▸ (Array.getElem?_eq_some_iff.mp hv).1
        obtain ⟨t, e⟩ := PyProof.Rows.IntsAre.int_at are i v (by rw [Array.getElem?_toList]; exact hv)
        exact ⟨ns[i], t, List.getElem?_eq_getElem hi, by rw [e, List.getD_eq_getElem?_getD, List.getElem?_eq_getElem hi]; rfl⟩
      refine set_update_ints ((Walks.list free3 _ l neI items).toS) s.heap.objs.size notIn ns size room vals items.size 0 _ (by omega) (by omega) ⟨⟨_, Heap.get?_push_size _ rfl, rfl, rfl⟩, isl1.push _⟩ ⟨0, Nat.zero_le _, setR_new_at (Heap.get?_push_of_some _ atS)⟩ ?_
      rintro ⟨g, ge, dr, tk, os⟩ c1 mv le SR
      obtain rfl : ge = s.gens := mv.gens
      obtain rfl : dr = s.drawn := mv.drawn
      obtain rfl : os = s.os := mv.os
      refine wpAny_pure (wpAny_pure ⟨rfl, g, tk, c1, rfl, SR, by omega, fun b o e => mv.heap b o ?_ (Heap.get?_push_of_some _ (Heap.get?_push_of_some _ e))⟩)
      have hb := Heap.lt_size e
      rw [sz1]
      simp only [List.mem_cons, List.not_mem_nil, or_false, not_or]
      exact And.intro (Nat.ne_of_lt hb) (Nat.ne_of_lt (Nat.lt_succ_of_lt hb))
    · match r2, h2 with
      | .error e, h2 => exact h2
      | .ok .next, h2 => exact h2.elim
      | .ok .brk, h2 => exact h2.elim
      | .ok .cont, h2 => exact h2.elim
      | .ok (.ret r), h2 =>
        obtain ⟨rfl, g, tk, c1, rfl, SR, le, kp⟩ := h2
        repeat (any_goals (first | wp_step | assumption))
        exact fin _ _ _ SR le kp
end
end Ab
namespace Ab
open PySem L2
open Classical
variable {S : Sig} {Z : L2.St → Nat → Hp → Prop} {F F' H H' : Hp} {P : Fp} {σ : L2.St} {a a' : SA}

/-! ### sorted -/
theorem zip_fst : ∀ {ds : List D} {vs : List V}, vs.length = ds.length → (ds.zip vs).map Prod.fst = ds
  | [], _, _ => rfl
  | d :: ds, [], h => by simp at h
  | d :: ds, v :: vs, h => by simp [zip_fst (ds := ds) (vs := vs) (by simpa using h)]
theorem each_zip : ∀ {ds : List D} {vs : List V} {its : List Value}, Reps S F H ds vs Emp → Vals vs its → PySem.W.EachIs (fun (u : Value) (b : D × V) => RelV b.2 u ∧ Rep S F H b.1 b.2 Emp ∧ b.1 ∈ ds) its (ds.zip vs)
  | [], vs, its, r, rv => by
    simp only [Reps] at r
    obtain ⟨rfl, _⟩ := r
    cases rv
    exact .nil
  | d :: ds, vs, its, r, rv => by
    simp only [Reps] at r
    obtain ⟨v, vr, P1, P2, rfl, e, _, r1, r2⟩ := r
    obtain ⟨rfl, rfl⟩ := uni_empty e
    cases rv with
    | cons h1 h2 => exact .cons ⟨h1, r1, List.mem_cons_self⟩ ((each_zip r2 h2).mono fun _ _ ⟨x, y, z⟩ => ⟨x, y, List.mem_cons_of_mem _ z⟩)
theorem each_out : ∀ {bs : List (D × V)} {out : List Value} {R : D → Prop}, PySem.W.EachIs (fun (u : Value) (b : D × V) => RelV b.2 u ∧ Rep S F H b.1 b.2 Emp ∧ R b.1) out bs → Vals (bs.map Prod.snd) out ∧ Reps S F H (bs.map Prod.fst) (bs.map Prod.snd) Emp
  | [], _, _, h => by
    cases h
    exact ⟨.nil, by simp only [List.map, Reps]; exact ⟨trivial, trivial⟩⟩
  | b :: bs, _, _, h => by
    cases h with
    | cons h1 h2 =>
      obtain ⟨x, y⟩ := each_out h2
      refine ⟨.cons h1.1 x, ?_⟩
      simp only [List.map, Reps]
      exact ⟨_, _, Emp, Emp, rfl, (uni_emp _).symm, emp_dis, h1.2.1, y⟩
theorem plains0_mem {ds : List D} (h : plains0 ds = true) : ∀ d ∈ ds, plain0 d = true := by
  induction ds with
  | nil => intro d hd; simp at hd
  | cons x xs ih =>
    simp only [plains0, Bool.and_eq_true] at h
    intro d hd
    rcases List.mem_cons.mp hd with rfl | hd
    · exact h.1
    · exact ih h.2 d hd
theorem depth_mem {ds : List D} {n : Nat} (h : PyData.depthAll (toPDs ds) ≤ n) : ∀ d ∈ ds, (toPD d).depth ≤ n := by
  induction ds with
  | nil => intro d hd; simp at hd
  | cons x xs ih =>
    simp only [toPDs, PyData.depthAll] at h
    intro d hd
    rcases List.mem_cons.mp hd with rfl | hd
    · omega
    · exact ih (by omega) d hd
section
variable {X : Cx}
theorem sort_one {α : Type} {le : α → α → Bool} {l : List α} (h : l.length ≤ 1) : l.mergeSort le = l := by
  match l, h with
  | [], _ => simp
  | [x], _ => simp
theorem perm_one {α : Type} : ∀ {l m : List α}, l.Perm m → m.length ≤ 1 → l = m
  | l, [], h, _ => List.Perm.eq_nil h
  | l, [a], h, _ => List.perm_singleton.mp h
  | l, a :: b :: m, h, e => by simp at e
theorem sorted_one {m : Bool} {ds : List D} {x : V} {P1 : Fp} {pins : List (Addr × Obj)} {s : Shared} {σ : L2.St} {v : Value} {Q : VK} (I : L2.Inv X pins σ H s) (hs : Same F H) (r1 : Rep S F H (.lst m ds) x P1) (hst : stills ds = true) (hl : ds.length ≤ 1) (r : RelV x v)
    (q : ∀ v F' H' Pd, New S F H (.lst true ds) v F' H' Pd → Q v H') : wpAny (model X.prog X.w) X.A (call (.builtin "sorted") [v]) (fun w s' => ∃ y H', L2.Inv X pins σ H' s' ∧ RelV y w ∧ Q y H') X.xe s := by
  obtain ⟨p, vs, P', rfl, ea, h⟩ := r1.lst_at hs
  rw [Reps.still ds h hst] at h
  obtain ⟨z, its, n, rv, hlen, e⟩ := I.lstM ea
  cases (show v = Value.ref p from r)
  have hvl := Reps.len h
  have hil : its.length ≤ 1 := by have := rv.length; omega
  have isl : s.heap.IsList p its.toArray := ⟨_, e, rfl, n, rfl⟩
  refine SrtO.sorted_ord (ltv := fun _ _ => false) ⟨fun _ _ h => rfl, fun _ _ _ _ _ => rfl⟩ isl (by rw [sizeLine_eq]; omega) (fun h2 => absurd h2 (by omega)) fun out _ hb => ?_
  have ho : out = its := perm_one hb.perm hil
  subst ho
  obtain ⟨ep, he'⟩ := PyProof.Rows.sortedAll_at s.heap out out.toArray
  have hn := I.hok.fresh (Nat.le_succ s.heap.objs.size)
  exact ⟨.ref _, upd H (s.heap.objs.size + 1) (.lst vs), I.laid (t' := s.toks) (fun _ _ => PyProof.Rows.sortedAll_old) (Nat.le_succ _) ⟨by rw [hvl, sizeLine_eq]; omega, out, ep, rv, he'⟩, rfl, q _ _ _ _ (New.lst hs h hn)⟩
theorem sorted_ok (hK : S.K = X.K) (hu : X.A.units + 65 < cLine) : CallR X (.builtin "sorted") (rC1 S (bi1 .sorted)) := by
  intro pins s σ H xs us Q I r h
  obtain ⟨x, F, d1, d, P1, rfl, hs, r1, hb, q⟩ := h
  cases d1 <;> simp only [bi1, reduceCtorEq] at hb
  rename_i m ds
  split at hb
  case isFalse => cases hb
  rename_i hc
  cases hb
  simp only [Bool.and_eq_true, sortable, decide_eq_true_eq, Bool.or_eq_true] at hc
  obtain ⟨hst, hc⟩ := hc
  rcases hc with ⟨⟨⟨hp, hal⟩, hsb⟩, hl⟩ | hone
  rotate_left
  · obtain ⟨u, rfl, hu⟩ : ∃ u, us = [u] ∧ RelV x u := by
      cases r with | cons h t => cases t; exact ⟨_, rfl, h⟩
    exact sorted_one I hs r1 hst hone hu (by rw [sortD, sort_one hone] at q; exact q)
  obtain ⟨hp1, hp2, hp3⟩ := plains_shaped hp
  obtain ⟨p, vs, P', rfl, ea, h⟩ := r1.lst_at hs
  rw [Reps.still ds h hst] at h
  obtain ⟨z, its, n, rv, hlen, e⟩ := I.lstM ea
  rw [Vals.ref1 r]
  have hvl := Reps.len h
  have isl : s.heap.IsList p its.toArray := ⟨_, e, rfl, n, rfl⟩
  have ez := each_zip h rv
  have emap : (ds.zip vs).map (fun b : D × V => toPD b.1) = ds.map toPD := by
    rw [show (fun b : D × V => toPD b.1) = toPD ∘ Prod.fst from rfl, ← List.map_map, zip_fst hvl]
  have er : PySem.W.EachIs (fun (u : Value) (b : D × V) => ∃ as, Reads s.heap u (toPD b.1) as) its (ds.zip vs) := ez.mono fun u b hh => by
    refine Dp.reads I _ _ _ ?_ hh.1
    have := hh.2.1.dp hs b.1 (plains0_mem hp3 _ hh.2.2)
    rwa [hK] at this
  refine PySem.W.sorted_data (β := D × V) (vs := its) (bs := ds.zip vs) (enc := fun b => toPD b.1) (R := fun (u : Value) (b : D × V) => RelV b.2 u ∧ Rep S F H b.1 b.2 Emp ∧ b.1 ∈ ds) isl ez er ?_ ?_ ?_ (fun b hb => ?_) fun out ho eo => ?_
  · rw [emap]
    intro d hd d' hd'
    obtain ⟨b, hb, rfl⟩ := List.mem_map.mp hd
    obtain ⟨b', hb', rfl⟩ := List.mem_map.mp hd'
    exact List.all_eq_true.mp (List.all_eq_true.mp hal b hb) b' hb'
  · rw [emap]
    rcases hsb with hsb | hsb
    · left
      intro d hd
      obtain ⟨b, hb, rfl⟩ := List.mem_map.mp hd
      have := List.all_eq_true.mp hsb b hb
      cases b <;> simp only [someTup, Bool.false_eq_true] at this
      rename_i es
      cases es with
      | nil => simp [someTup] at this
      | cons y ys => exact ⟨toPD y, toPDs ys, rfl⟩
    · right
      intro d hd
      obtain ⟨b, hb, rfl⟩ := List.mem_map.mp hd
      have hpb := plains0_mem hp3 b hb
      have := List.all_eq_true.mp hsb b hb
      cases b <;> simp [noTup, toPD, plain0] at this hpb ⊢
  · rw [List.length_zip, hvl, Nat.min_self]; exact hl
  · have := depth_mem hp2 b.1 (List.of_mem_zip (show (b.1, b.2) ∈ ds.zip vs from hb)).1
    omega
  · obtain ⟨vo, ro⟩ := each_out eo
    obtain ⟨ep, he'⟩ := PyProof.Rows.sortedAll_at s.heap its out.toArray
    have hsort : ((ds.zip vs).mergeSort (PySem.W.dataLe false fun b : D × V => toPD b.1)).map Prod.fst = sortD ds := by
      have := PySem.W.sort_maps (r := PySem.W.dataLe false fun b : D × V => toPD b.1) (s := leD) (l := ds.zip vs) Prod.fst (fun _ _ _ _ => rfl)
      rw [this, zip_fst hvl]
      rfl
    rw [hsort] at ro
    have hz2 : (((ds.zip vs).mergeSort (PySem.W.dataLe false fun b : D × V => toPD b.1)).map Prod.snd).length ≤ sizeLine := by
      rw [List.length_map, List.length_mergeSort, List.length_zip, hvl, Nat.min_self]; exact hl
    have hn := I.hok.fresh (Nat.le_succ s.heap.objs.size)
    exact ⟨.ref _, upd H (s.heap.objs.size + 1) (.lst _), I.laid (t' := s.toks) (fun _ _ => PyProof.Rows.sortedAll_old) (Nat.le_succ _) ⟨hz2, out, ep, vo, he'⟩, rfl, q _ _ _ _ (New.lst hs ro hn)⟩
end
/-! ### sorted(set(xs)) -/
theorem insU_mem (x : Int) : ∀ ys : List Int, ∀ k, k ∈ insU x ys ↔ k = x ∨ k ∈ ys
  | [], k => by simp [insU]
  | y :: ys, k => by
    simp only [insU]
    split
    · simp
    · split
      · rename_i h; subst h; simp
      · simp only [List.mem_cons, insU_mem x ys k]
        constructor
        · rintro (h | h | h)
          · exact .inr (.inl h)
          · exact .inl h
          · exact .inr (.inr h)
        · rintro (h | h | h)
          · exact .inr (.inl h)
          · exact .inl h
          · exact .inr (.inr h)
theorem insU_asc (x : Int) : ∀ ys : List Int, ys.Pairwise (· < ·) → (insU x ys).Pairwise (· < ·)
  | [], _ => by simp [insU]
  | y :: ys, h => by
    obtain ⟨h1, h2⟩ := List.pairwise_cons.mp h
    simp only [insU]
    split
    · rename_i hl
      refine List.pairwise_cons.mpr ⟨fun z hz => ?_, h⟩
      rcases List.mem_cons.mp hz with rfl | hz
      · exact hl
      · have := h1 z hz; omega
    · split
      · exact h
      · rename_i n1 n2
        refine List.pairwise_cons.mpr ⟨fun z hz => ?_, insU_asc x ys h2⟩
        rcases (insU_mem x ys z).mp hz with rfl | hz
        · omega
        · exact h1 z hz
theorem sset_mem : ∀ (xs : List Int) (k : Int), k ∈ sset xs ↔ k ∈ xs
  | [], k => by simp [sset]
  | x :: xs, k => by simp only [sset, insU_mem, sset_mem xs k, List.mem_cons]
theorem sset_asc : ∀ xs : List Int, (sset xs).Pairwise (· < ·)
  | [] => List.Pairwise.nil
  | x :: xs => insU_asc x _ (sset_asc xs)
theorem asc_ext : ∀ {xs ys : List Int}, xs.Pairwise (· < ·) → ys.Pairwise (· < ·) → (∀ k, k ∈ xs ↔ k ∈ ys) → xs = ys
  | [], [], _, _, _ => rfl
  | [], y :: ys, _, _, h => absurd ((h y).mpr List.mem_cons_self) (by simp)
  | x :: xs, [], _, _, h => absurd ((h x).mp List.mem_cons_self) (by simp)
  | x :: xs, y :: ys, hx, hy, h => by
    obtain ⟨x1, x2⟩ := List.pairwise_cons.mp hx
    obtain ⟨y1, y2⟩ := List.pairwise_cons.mp hy
    have e : x = y := by
      rcases List.mem_cons.mp ((h x).mp List.mem_cons_self) with e | e
      · exact e
      · rcases List.mem_cons.mp ((h y).mpr List.mem_cons_self) with e' | e'
        · exact e'.symm
        · have := x1 y e'
          have := y1 x e
          omega
    subst e
    rw [asc_ext x2 y2 fun k => ?_]
    have hk := h k
    simp only [List.mem_cons] at hk
    constructor
    · intro hh
      rcases hk.mp (.inr hh) with z | z
      · have := x1 k hh; omega
      · exact z
    · intro hh
      rcases hk.mpr (.inr hh) with z | z
      · have := y1 k hh; omega
      · exact z
section
variable {X : Cx} {G : Env0A} {W : Nat}
def rSetI (X : Cx) : List V → Hp → VK → Prop := fun vs H Q => ∃ (p : Addr) (ns : List Int), vs = [.ref p] ∧ (SqL X.K H p (ns.map V.int) ∨ SqT X.K H p (ns.map V.int)) ∧ ns.length + 1 < scanBound ∧
  ∀ c q, c ≤ ns.length → H q = none → Q (.ref q) (upd H q (SetO X.w q (fun j => decide (j ∈ ns)) c))
theorem cr_setI (hc : X.calm = true) : CallR X (.type "set") (rSetI X) := by
  intro pins s σ H vs us Q I r h
  obtain ⟨p, ns, rfl, hq, hz, q⟩ := h
  rw [Vals.ref1 r]
  have fin : ∀ (g : Heap) (tk c : Nat), SetR X.w g s.heap.objs.size (fun j => decide (j ∈ ns)) c → c ≤ ns.length → (∀ b o, s.heap.get? b = some o → g.get? b = some o) → EP X pins σ Q (.ref s.heap.objs.size) { s with heap := g, toks := tk } := fun g tk c R hcl kp =>
    ⟨.ref _, _, I.laid (t' := tk) kp (Nat.le_refl _) (setO_new R), rfl, q c _ hcl (I.hok.fresh (Nat.le_refl _))⟩
  rcases hq with hq | hq
  · obtain ⟨its, rv, pl, _⟩ := I.list hq
    exact call_set_lstI ns (I.ok.hd hc) pl.isList (by simpa using rv.ints) hz fin
  · obtain ⟨its, rv, pl, _⟩ := I.tuple hq
    exact call_set_tupI ns (I.ok.hd hc) (show s.heap.IsTuple p its.toArray from pl) (by simpa using rv.ints) hz fin
theorem New.from {d : D} {v : V} {Pd : Fp} {H1 : Hp} (sH : Same H H1) (n : New S F H1 d v F' H' Pd) : New S F H d v F' H' Pd :=
  ⟨n.rep, n.sF, sH.trans n.sH, n.sub, fun x h => sH.free (n.fresh x h), n.fr, fun x o h => (n.frz x o h).imp id fun z => sH.free z⟩
theorem c_sset {ea : ME} {x : Expr} {p1 p2 q1 q2 : Pos} {v : Bool} (hK : S.K = X.K) (hc : X.calm = true) (hg : Gl X "sorted") (hm : X.mg "sorted" = none) (hg2 : Gl X "set") (hm2 : X.mg "set" = none)
    (hst : noStar x = true) (ha : PE X x (tE S Z G W true ea)) : PE X (.Call (.Name "sorted" p1) [.Call (.Name "set" p2) [x] [] q2] [] q1) (tE S Z G W v (.bi1 .sset ea)) := by
  refine (pe_callB (cr_sortedSet hc) hg hm (by decide +kernel) (pa_cons (pe_callTy (cr_setI hc) hg2 hm2 (by decide +kernel) (pa_cons ha pa_nil (star_cons hst)) (by decide) (by decide) (star_cons hst) rfl) pa_nil rfl) (by decide) (by decide) rfl rfl).weak fun σ H Q h => ?_
  refine tA_one (ta := atE true ea) h fun F P a d1 a1 v1 F1 H1 P1 Pa1 sr o1 out => ?_
  obtain ⟨d, e, q⟩ := out.of
  obtain ⟨F3, Q1, r1, sr3, ex⟩ := single o1
  simp only [bi1, Option.bind_eq_some_iff] at e
  obtain ⟨ds, e1, is, e2, e⟩ := e
  split at e
  case isFalse => cases e
  rename_i hl
  cases e
  have eds := intsOf_eq e2
  subst eds
  have hq : ∃ p, v1 = .ref p ∧ (SqL X.K H1 p (is.map V.int) ∨ SqT X.K H1 p (is.map V.int)) := by
    rcases items_at sr3.sub r1 e1 with ⟨m, _, p, vs, P', rfl, ea, h⟩ | ⟨_, p, vs, rfl, ea, h⟩
    · rw [(Reps.ints h).1] at ea
      exact ⟨p, rfl, .inl (SqL.of ea)⟩
    · rw [(Reps.ints h).1] at ea
      exact ⟨p, rfl, .inr (SqT.of (sr3.sub _ _ ea))⟩
  obtain ⟨p, rfl, hq⟩ := hq
  refine ⟨p, is, rfl, hq, by unfold scanBound; omega, fun c q0 hcl hq0 => ⟨q0, _, c, rfl, upd_same, by omega, fun ns pp asc mem _ hpp => ?_⟩⟩
  have ens : ns = sset is := asc_ext asc (sset_asc is) fun k => by rw [mem k, sset_mem]; simp
  subst ens
  have up := same_up (o := SetO X.w q0 (fun j => decide (j ∈ is)) c) hq0
  have n := (New.lst (S := S) (ds := (sset is).map D.int) (sr3.sub.trans up) (Reps.ofInts _) hpp).from up
  have ok := n.ok (F := F) (P := P) (σ := σ) sr3 ex o1.same
  exact q _ _ _ _ Pa1 (by simpa [atE, rootOf, slotOf, pureE] using ok)
end
end Ab
namespace Ab
open PySem L2
open Classical
variable {S : Sig} {Z : L2.St → Nat → Hp → Prop} {F F' H H' : Hp} {P : Fp} {σ : L2.St} {a a' : SA}

theorem Reps.erase : ∀ {ds : List D} {vs : List V} {P : Fp} {j : Nat} {d : D}, Reps S F H ds vs P → ds[j]? = some d →
    ∃ v P1 P2, vs[j]? = some v ∧ P = Uni P1 P2 ∧ Dis P1 P2 ∧ Rep S F H d v P1 ∧ Reps S F H (ds.eraseIdx j) (vs.eraseIdx j) P2
  | [], vs, P, j, d, h, e => by simp at e
  | d0 :: ds, vs, P, 0, d, h, e => by
    simp at e; subst e
    simp only [Reps] at h
    obtain ⟨v, r, P1, P2, rfl, e, di, h1, h2⟩ := h
    exact ⟨v, P1, P2, rfl, e, di, h1, h2⟩
  | d0 :: ds, vs, P, j + 1, d, h, e => by
    simp only [Reps] at h
    obtain ⟨v0, r, P0, PR, rfl, rfl, d0i, h0, hr⟩ := h
    obtain ⟨v, P1, P2, ev, rfl, di, h1, h2⟩ := Reps.erase (j := j) hr (by simpa using e)
    refine ⟨v, P1, Uni P0 P2, by simpa using ev, uni_left_comm _ _ _, Dis.uni' (fun x h1 h2 => d0i x h2 (.inl h1)) di, h1, ?_⟩
    simp only [List.eraseIdx, Reps]
    exact ⟨v0, _, P0, P2, rfl, rfl, fun x h1 h2 => d0i x h1 (.inr h2), h0, h2⟩
/-- an item in the focus -/
theorem Reps.hole : ∀ {ds : List D} {vs : List V} {P : Fp} {j : Nat} {d : D}, Reps S F H ds vs P → ds[j]? = some d →
    ∃ v P1 P2, vs[j]? = some v ∧ P = Uni P1 P2 ∧ Dis P1 P2 ∧ Rep S F H d v P1 ∧ ∀ (F' H' : Hp) (d' : D) (v' : V) (P1' : Fp), Same F F' → (∀ x, P2 x → H' x = H x) → Rep S F' H' d' v' P1' → Dis P1' P2 → Reps S F' H' (ds.set j d') (vs.set j v') (Uni P1' P2)
  | [], vs, P, j, d, h, e => by simp at e
  | d0 :: ds, vs, P, 0, d, h, e => by
    simp at e; subst e
    simp only [Reps] at h
    obtain ⟨v, r, P1, P2, rfl, e, di, h1, h2⟩ := h
    refine ⟨v, P1, P2, rfl, e, di, h1, fun F' H' d' v' P1' sF k r' n => ?_⟩
    simp only [List.set, Reps]
    exact ⟨v', r, P1', P2, rfl, rfl, n, r', Reps.keep sF ds h2 k⟩
  | d0 :: ds, vs, P, j + 1, d, h, e => by
    simp only [Reps] at h
    obtain ⟨v0, r, P0, PR, rfl, rfl, d0i, h0, hr⟩ := h
    obtain ⟨v, P1, P2, ev, rfl, di, h1, h2⟩ := Reps.hole (j := j) hr (by simpa using e)
    refine ⟨v, P1, Uni P0 P2, by simpa using ev, uni_left_comm _ _ _, Dis.uni' (fun x h1 h2 => d0i x h2 (.inl h1)) di, h1, fun F' H' d' v' P1' sF k r' n => ?_⟩
    simp only [List.set, Reps]
    exact ⟨v0, _, P0, Uni P1' P2, rfl, uni_left_comm _ _ _, fun x h1 h2 => h2.elim (fun z => n x z (.inl h1)) fun z => d0i x h1 (.inr z), h0.keep sF d0 fun x hx => k x (.inl hx), h2 F' H' d' v' P1' sF (fun x hx => k x (.inr hx)) r' fun x h1 h2 => n x h1 (.inr h2)⟩
/-- an own list in a slot: an item taken out -/
theorem SR.takeItem {i j : Nat} {ds : List D} {d : D} (sr : SR S F H a σ P) (e : rd a i = some (.lst true ds)) (ej : ds[j]? = some d) :
    ∃ p vs v Pd Pa, σ[i]? = some (some (.ref p)) ∧ H p = some (.lst vs) ∧ vs.length = ds.length ∧ vs[j]? = some v ∧ Rep S F (upd H p (.lst (vs.eraseIdx j))) d v Pd ∧ SR S F (upd H p (.lst (vs.eraseIdx j))) (a.set i (some (.lst true (ds.eraseIdx j)))) σ Pa ∧ Dis Pd Pa ∧
      (∀ x, Pd x → F x = none) ∧ Ext F F H (upd H p (.lst (vs.eraseIdx j))) P (Uni Pd Pa) := by
  obtain ⟨w, P1, P2, e1, e2, di, r, h2, put⟩ := sr.rep.focus (rd_some e)
  simp only [Rep] at r
  obtain ⟨p, vs, rfl, r⟩ := r
  rw [if_pos trivial] at r
  obtain ⟨ep, _, P', np, eP1, rs⟩ := r
  obtain ⟨v, Q1, Q2, ev, eQ, dq, rv, rr⟩ := rs.erase ej
  have hF : ∀ x, P x → F x = none := sr.fr
  have p1 : P1 p := by rw [eP1]; exact .inl rfl
  have nQ1 : ¬ Q1 p := fun z => np (by rw [eQ]; exact .inl z)
  have nQ2 : ¬ Q2 p := fun z => np (by rw [eQ]; exact .inr z)
  have n2 : ¬ P2 p := fun z => di p p1 z
  have kp : ∀ x, x ≠ p → upd H p (.lst (vs.eraseIdx j)) x = H x := fun x h => upd_ne h
  have rl : Rep S F (upd H p (.lst (vs.eraseIdx j))) (.lst true (ds.eraseIdx j)) (.ref p) (Uni (fun x => x = p) Q2) := by
    simp only [Rep]
    refine ⟨p, vs.eraseIdx j, rfl, ?_⟩
    rw [if_pos trivial]
    exact ⟨upd_same, .inl rfl, Q2, nQ2, rfl, Reps.keep (fun _ _ z => z) _ rr fun x hx => kp x fun z => nQ2 (z ▸ hx)⟩
  have sub2 : ∀ x, Uni (fun x => x = p) Q2 x → P1 x := fun x h => by
    rw [eP1, eQ]
    exact h.elim .inl fun z => .inr (.inr z)
  have sub1 : ∀ x, Q1 x → P1 x := fun x h => by
    rw [eP1, eQ]; exact .inr (.inl h)
  have r2 := put F (upd H p (.lst (vs.eraseIdx j))) P2 (h2.keep (fun _ _ z => z) fun x hx => kp x fun z => n2 (z ▸ hx)) _ _ rl (fun x h1 h2 => di x (sub2 x h1) h2)
  refine ⟨p, vs, v, Q1, Uni (Uni (fun x => x = p) Q2) P2, e1, ep, Reps.len rs, ev, rv.keep (fun _ _ z => z) d fun x hx => kp x fun z => nQ1 (z ▸ hx), ⟨r2, fun x h => hF x (by rw [e2]; exact h.elim (fun z => .inl (sub2 x z)) .inr), fun x o q => ?_⟩, ?_, fun x h => hF x (by rw [e2]; exact .inl (sub1 x h)), ?_⟩
  · have hFp : F p = none := hF p (by rw [e2]; exact .inl p1)
    rw [kp x fun z => by rw [z, hFp] at q; cases q]
    exact sr.sub x o q
  · intro x h1 h2
    rcases h2 with (h2 | h2) | h2
    · have h2 : x = p := h2
      rw [h2] at h1; exact nQ1 h1
    · exact dq x h1 h2
    · exact di x (sub1 x h1) h2
  · refine (Ext.updIn (o := .lst (vs.eraseIdx j)) (show P p by rw [e2]; exact .inl p1)).less fun x h => ?_
    rw [e2]
    exact h.elim (fun z => .inl (sub1 x z)) fun z => z.elim (fun y => .inl (sub2 x y)) .inr
section
variable {X : Cx} {G : Env0A} {W : Nat}
theorem few1 {e : Expr} {env : Env} {cpos : Pos} (h : noStar e = true) : ((backTo cpos (starEach [e] env)).all (fun x => !x.1) && (backToKw cpos (keywordEach [] env)).all (fun x => x.1.isSome)
      && decide ([e].length + ([] : List Keyword).length + (if ([] : List Keyword).isEmpty then 0 else 1) < 30)) = true := by
  rw [star_cons h]; rfl
theorem c_pop {i : Nat} {x : Str} {npos apos pos : Pos} {v : Bool} (hN : X.N[i]? = some x) (hv : Vis X.env.scope x) (hd : (x == ("__debug__" : Str)) = false) (hcd : (x == ("__classdict__" : Str)) = false) (hl : (apos.endLine == pos.line) = true) :
    PE X (.Call (.Attribute (.Name x npos) "pop" apos) [] [] pos) (tE S Z G W v (.pop i)) := by
  refine (pe_bm0 PySem.F.plainAttrs_list PySem.F.slot_list_pop PySem.F.type_list_pop mt_pop (pe_var hN hv hd hcd) (base_of rfl) hl).weak fun σ H Q h => ?_
  obtain ⟨F, P, a, sr, o⟩ := h
  simp only [ev] at o
  split at o
  case h_2 => exact o.elim
  rename_i ds e
  split at o
  case h_2 => exact o.elim
  rename_i d ej
  obtain ⟨p, vs, w, Pd, Pa, e1, ep, hl, ew, r, sr2, di, fr, ex⟩ := sr.takeItem e ej
  have eD : ds.eraseIdx (ds.length - 1) = ds.dropLast := List.eraseIdx_length_sub_one ..
  have eV : vs.eraseIdx (ds.length - 1) = vs.dropLast := by rw [← hl]; exact List.eraseIdx_length_sub_one ..
  rw [eV] at r sr2 ex
  rw [eD] at sr2
  refine ⟨_, e1, .inl ⟨rfl, vs, SqL.of ep⟩, p, vs, w, rfl, rfl, ep, by rw [hl]; exact ew, ?_⟩
  exact o w F _ Pd Pa ⟨r, sr2, ex.less fun x h => .inr h, fun _ => ex, fun _ => di, fun _ => fr, fun h => by simp [atE, pureE] at h, fun i h => by simp [atE, slotOf] at h⟩
theorem c_popAt {i : Nat} {x : Str} {me : ME} {e : Expr} {npos apos pos : Pos} {v : Bool} (hN : X.N[i]? = some x) (hv : Vis X.env.scope x) (hd : (x == ("__debug__" : Str)) = false) (hcd : (x == ("__classdict__" : Str)) = false) (hl : (apos.endLine == pos.line) = true)
    (hst : noStar e = true) (he : PE X e (tE S Z G W true me)) : PE X (.Call (.Attribute (.Name x npos) "pop" apos) [e] [] pos) (tE S Z G W v (.popAt i me)) := by
  refine (pe_bm PySem.F.plainAttrs_list PySem.F.slot_list_pop PySem.F.type_list_pop mt_popAt (pe_var hN hv hd hcd) (pa_cons he pa_nil (star_cons hst)) (base_of rfl) (few1 hst) hl (star_cons hst) rfl).weak fun σ H Q h => ?_
  obtain ⟨F, P, a, sr, o⟩ := h
  simp only [ev] at o
  split at o
  case h_2 => exact o.elim
  · rename_i ds e0
    obtain ⟨w, P1, P2, e1, e2, di, r, h2, _⟩ := sr.rep.focus (rd_some e0)
    simp only [Rep] at r
    obtain ⟨p, vs, rfl, r⟩ := r
    rw [if_pos trivial] at r
    refine ⟨_, e1, .inl ⟨rfl, vs, SqL.of r.1⟩, F, P, a, sr, o.bind.imp fun k a1 ek o1 v1 F1 H1 Pk Pa1 ok1 => ?_⟩
    split at o1
    case h_2 => exact o1.elim
    rename_i k ds2 ed
    split at o1
    case h_2 => exact o1.elim
    rename_i j hj
    split at o1
    case isFalse => exact o1.elim
    rename_i hz
    split at o1
    case h_2 => exact o1.elim
    rename_i d ej
    obtain ⟨rfl, _⟩ := rep_int.mp ok1.rep
    obtain ⟨p2, vs2, w, Pd, Pa, e3, ep, hlen, ew, r2, sr2, di2, fr, ex⟩ := ok1.sr.takeItem ed ej
    rw [e1] at e3
    cases e3
    obtain ⟨hs, jlt, k1, k2⟩ := ixN_seq hj
    have hn := line63
    refine ⟨p, vs2, k, j, w, rfl, rfl, ep, by omega, by omega, by rw [hlen]; exact hs, ew, ?_⟩
    have exx := ok1.ext.trans ex
    exact o1 w F1 _ Pd Pa ⟨r2, sr2, exx.less fun x h => .inr h, fun _ => exx, fun _ => di2, fun _ => fr, fun h => by simp [atE, pureE] at h, fun i h => by simp [atE, slotOf] at h⟩
end
end Ab
namespace Ab
open PySem L2
open Classical
variable {S : Sig} {Wd : WX} {fix : List Nat} {F F' H H' : Hp} {P : Fp} {σ : L2.St} {a a' : SA}

def Fix (fix : List Nat) (σ σ' : L2.St) : Prop := ∀ i ∈ fix, σ'[i]? = σ[i]?
theorem Fix.rfl' : Fix fix σ σ := fun _ _ => rfl
theorem Fix.trans {σ1 σ2 σ3 : L2.St} (h : Fix fix σ1 σ2) (g : Fix fix σ2 σ3) : Fix fix σ1 σ3 := fun i hi => (g i hi).trans (h i hi)
theorem Fix.set {i : Nat} {o : Option V} (h : ¬ i ∈ fix) : Fix fix σ (σ.set i o) := fun j hj => List.getElem?_set_ne (show i ≠ j from fun e => h (by rw [e]; exact hj))
/-- what a statement's reckoning says of the machine -/
def OutS (S : Sig) (Wd : WX) (fix : List Nat) (F H : Hp) (P : Fp) (σ : L2.St) (E : Ends) : Fl → Prop
  | .nx a' => ∀ σ' F' H' Pa, SR S F' H' a' σ' Pa → Ext F F' H H' P Pa → Fix fix σ σ' → E.nx σ' H'
  | .bk a' => ∀ σ' F' H' Pa, SR S F' H' a' σ' Pa → Ext F F' H H' P Pa → Fix fix σ σ' → E.bk σ' H'
  | .ct a' => ∀ σ' F' H' Pa, SR S F' H' a' σ' Pa → Ext F F' H H' P Pa → Fix fix σ σ' → E.ct σ' H'
  | .rt d a' => ∀ v σ' F' H' Pd Pa, Rep S F' H' d v Pd → SR S F' H' a' σ' Pa → Ext F F' H H' P (Uni Pd Pa) → Dis Pd Pa → (∀ x, Pd x → F' x = none) → Fix fix σ σ' → E.rt v H'
  | .rz c a' => ∀ σ' F' H' Pa, SR S F' H' a' σ' Pa → Ext F F' H H' P Pa → Fix fix σ σ' → Wd (S.exn c) none σ' H'
  | .bad => False
theorem OutS.at {E : Ends} {x : Fl} {F1 H1 : Hp} {P1 : Fp} {σ1 : L2.St} (e : Ext F F1 H H1 P P1) (fx : Fix fix σ σ1) (h : OutS S Wd fix F H P σ E x) : OutS S Wd fix F1 H1 P1 σ1 E x := by
  cases x with
  | nx a => exact fun σ' F' H' Pa sr ex f => h σ' F' H' Pa sr (e.trans ex) (fx.trans f)
  | bk a => exact fun σ' F' H' Pa sr ex f => h σ' F' H' Pa sr (e.trans ex) (fx.trans f)
  | ct a => exact fun σ' F' H' Pa sr ex f => h σ' F' H' Pa sr (e.trans ex) (fx.trans f)
  | rz c a => exact fun σ' F' H' Pa sr ex f => h σ' F' H' Pa sr (e.trans ex) (fx.trans f)
  | rt d a => exact fun v σ' F' H' Pd Pa r sr ex di fr f => h v σ' F' H' Pd Pa r sr (e.trans ex) di fr (fx.trans f)
  | bad => exact h
/-- fewer slots stay -/
theorem OutS.fixed {E : Ends} {x : Fl} {fix' : List Nat} (hs : ∀ i ∈ fix, i ∈ fix') (h : OutS S Wd fix F H P σ E x) : OutS S Wd fix' F H P σ E x := by
  have g : ∀ {σ'}, Fix fix' σ σ' → Fix fix σ σ' := fun f i hi => f i (hs i hi)
  cases x with
  | nx a => exact fun σ' F' H' Pa sr ex f => h σ' F' H' Pa sr ex (g f)
  | bk a => exact fun σ' F' H' Pa sr ex f => h σ' F' H' Pa sr ex (g f)
  | ct a => exact fun σ' F' H' Pa sr ex f => h σ' F' H' Pa sr ex (g f)
  | rz c a => exact fun σ' F' H' Pa sr ex f => h σ' F' H' Pa sr ex (g f)
  | rt d a => exact fun v σ' F' H' Pd Pa r sr ex di fr f => h v σ' F' H' Pd Pa r sr ex di fr (g f)
  | bad => exact h
def tS (S : Sig) (Wd : WX) (fix : List Nat) (f : SA → Fl) : TS := fun E σ H => ∃ F P a, SR S F H a σ P ∧ OutS S Wd fix F H P σ E (f a)
theorem _root_.L2.PS.weak {X : Cx} {s : Stmt} {t t' : TS} (h : PS X s t) (w : ∀ E σ H, t' E σ H → t E σ H) : PS X s t' := ⟨fun pins s σ H E I q => h.run pins s σ H E I (w E σ H q)⟩
theorem _root_.L2.PSs.weak {X : Cx} {s : List Stmt} {t t' : TS} (h : PSs X s t) (w : ∀ E σ H, t' E σ H → t E σ H) : PSs X s t' := ⟨fun pins s σ H E I q => h.run pins s σ H E I (w E σ H q)⟩
/-- an expression at the head of a statement -/
theorem OutS.head {α : Type} {E : Ends} {x : Er α} {f : α → SA → Fl} (h : OutS S Wd fix F H P σ E (x.fl f)) : Out S (ZW S Wd σ) F H P σ (fun d a' => OutS S Wd fix F H P σ E (f d a')) x := by
  cases x with
  | ok d a => exact h
  | rz c a => exact fun F' H' Pa sr ex => h σ F' H' Pa sr ex Fix.rfl'
  | bad => exact h
theorem OutS.of {E : Ends} {o : Option SA} (h : OutS S Wd fix F H P σ E (Fl.of o)) : ∃ s, o = some s ∧ OutS S Wd fix F H P σ E (.nx s) := by
  cases o with
  | none => exact h.elim
  | some s => exact ⟨s, rfl, h⟩
/-- a slot set -/
theorem SR.asg {i : Nat} {d : D} {v : V} {Pd : Fp} (sr : SR S F H a σ P) (r : Rep S F H d v Pd) (di : Dis Pd P) (fr : ∀ x, Pd x → F x = none) : ∃ P2, SR S F H (a.set i (some d)) (σ.set i (some v)) P2 ∧ ∀ x, P2 x → Uni Pd P x := by
  obtain ⟨P2, sr2, sb⟩ := drop_both (own := i) (o := some v) sr
  by_cases hl : i < a.length
  · have e : (a.set i none)[i]? = some none := List.getElem?_set_self hl
    have := sr2.rep.put (by rw [List.length_set]; exact hl) e r fun x h1 h2 => di x h1 (sb x h2)
    rw [List.set_set, List.set_set] at this
    exact ⟨Uni Pd P2, ⟨this, fun x h => h.elim (fr x) (sr2.fr x), sr2.sub⟩, fun x h => h.elim .inl fun z => .inr (sb x z)⟩
  · rw [List.set_eq_of_length_le (show a.length ≤ i by omega)] at sr2 ⊢
    exact ⟨P2, sr2, fun x h => .inr (sb x h)⟩
section
variable {X : Cx} {G : Env0A} {W : Nat}
abbrev tSt (S : Sig) (Wd : WX) (G : Env0A) (W : Nat) (fix : List Nat) (s : MS) : TS := tS S Wd fix (ex G W fix s)
abbrev tSs (S : Sig) (Wd : WX) (G : Env0A) (W : Nat) (fix : List Nat) (s : MSs) : TS := tS S Wd fix (exs G W fix s)
abbrev tEw (S : Sig) (Wd : WX) (G : Env0A) (W : Nat) (v : Bool) (e : ME) : TE := tE S (ZW S Wd) G W v e
theorem ss_nil : PSs X [] (tSs S Wd G W fix .nil) := pss_nil.weak fun E σ H h => by
  obtain ⟨F, P, a, sr, o⟩ := h
  exact o σ F H P sr .refl Fix.rfl'
theorem ss_cons {s : Stmt} {ss : List Stmt} {m : MS} {ms : MSs} (h1 : PS X s (tSt S Wd G W fix m)) (h2 : PSs X ss (tSs S Wd G W fix ms)) : PSs X (s :: ss) (tSs S Wd G W fix (.cons m ms)) := (pss_cons h1 h2).weak fun E σ H h => by
  obtain ⟨F, P, a, sr, o⟩ := h
  refine ⟨F, P, a, sr, ?_⟩
  simp only [exs] at o
  cases e : ex G W fix m a with
  | nx a1 =>
    rw [e] at o
    exact fun σ' F' H' Pa sr' ex f => ⟨F', Pa, a1, sr', OutS.at ex f o⟩
  | bk a1 => rw [e] at o; exact o
  | ct a1 => rw [e] at o; exact o
  | rt d a1 => rw [e] at o; exact o
  | rz c a1 => rw [e] at o; exact o
  | bad => rw [e] at o; exact o
/-- a slot's new value: what an assignment does -/
theorem asg_end {i : Nat} {e : ME} {E : Ends} {v : V} {d : D} {a1 : SA} {F1 H1 : Hp} {P1 Pa1 : Fp} (ok : Ok S F H P σ (atE false e) d a1 v F1 H1 P1 Pa1) (hn : ¬ i ∈ fix) (o : OutS S Wd fix F H P σ E (.nx (a1.set i (some d)))) : E.nx (σ.set i (some v)) H1 := by
  obtain ⟨P2, sr2, sb⟩ := ok.sr.asg (i := i) ok.rep (ok.dis rfl) (ok.fr rfl)
  exact o _ F1 H1 P2 sr2 ((ok.ext2 rfl).less sb) (Fix.set hn)
theorem notFix {i : Nat} (h : fix.contains i = false) : ¬ i ∈ fix := by simpa using h
theorem asg_rd {i : Nat} {e : ME} {E : Ends} {σ : L2.St} {H : Hp} (h : tSt S Wd G W fix (.asg i e) E σ H) : tAsg (tEw S Wd G W false e) (gName i) E σ H := by
  obtain ⟨F, P, a, sr, o⟩ := h
  simp only [ex] at o
  split at o
  · exact o.elim
  rename_i hf
  exact ⟨F, P, a, sr, o.head.imp fun d a1 e1 o1 v F1 H1 P1 Pa1 ok => asg_end ok (notFix (by simpa using hf)) o1⟩
theorem s_asg {i : Nat} {x : Str} {me : ME} {e : Expr} {p pos : Pos} (hN : X.N.Nodup) (hi : X.N[i]? = some x) (hx : Loc X.env.scope x) (hf : X.fn x = true ∨ X.env.scope.names.lookup x = some .local) (hs : swapsWith e (some (.Name x p)) pos.line X.env = pure false) (he : PE X e (tEw S Wd G W false me)) :
    PS X (.Assign [.Name x p] e pos) (tSt S Wd G W fix (.asg i me)) := (ps_set hN hi hx he hs hf).weak fun E σ H h => asg_rd h
theorem s_ite {t : MT} {ma mb : MSs} {c : Expr} {ya yb : List Stmt} {pos : Pos} (hc : PT X c (tT S (ZW S Wd) G W t)) (ha : PSs X ya (tSs S Wd G W fix ma)) (hb : PSs X yb (tSs S Wd G W fix mb)) : PS X (.If c ya yb pos) (tSt S Wd G W fix (.ite t ma mb)) := (ps_if hc ha hb).weak fun E σ H h => by
  obtain ⟨F, P, a, sr, o⟩ := h
  simp only [ex] at o
  refine ⟨F, P, a, sr, o.head.imp fun b a1 e1 o1 F1 H1 Pa1 sr1 ex1 sm1 => ?_⟩
  cases b with
  | true =>
    rw [if_pos rfl] at o1 ⊢
    exact ⟨F1, Pa1, a1, sr1, o1.at ex1 Fix.rfl'⟩
  | false =>
    rw [if_neg (by decide)] at o1 ⊢
    exact ⟨F1, Pa1, a1, sr1, o1.at ex1 Fix.rfl'⟩
theorem s_brk {pos : Pos} : PS X (.Break pos) (tSt S Wd G W fix .brk) := ps_break.weak fun E σ H ⟨F, P, a, sr, o⟩ => o σ F H P sr .refl Fix.rfl'
theorem s_cont {pos : Pos} : PS X (.Continue pos) (tSt S Wd G W fix .cont) := ps_continue.weak fun E σ H ⟨F, P, a, sr, o⟩ => o σ F H P sr .refl Fix.rfl'
theorem s_pass {pos : Pos} : PS X (.Pass pos) (tSt S Wd G W fix .pass) := ps_pass.weak fun E σ H ⟨F, P, a, sr, o⟩ => o σ F H P sr .refl Fix.rfl'
theorem s_doc {x : Str} {j : Nat} {p pos : Pos} : PS X (.Expr (.Constant (.str x) j p) pos) (tSt S Wd G W fix .pass) := ps_doc.weak fun E σ H ⟨F, P, a, sr, o⟩ => o σ F H P sr .refl Fix.rfl'
theorem s_expr {me : ME} {e : Expr} {pos : Pos} (hs : swapsWith e none pos.line X.env = pure false) (he : PE X e (tEw S Wd G W false me)) : PS X (.Expr e pos) (tSt S Wd G W fix (.expr me)) := (ps_expr he hs).weak fun E σ H h => by
  obtain ⟨F, P, a, sr, o⟩ := h
  simp only [ex] at o
  exact ⟨F, P, a, sr, o.head.imp fun d a1 e1 o1 v F1 H1 P1 Pa1 ok => o1 σ F1 H1 Pa1 ok.sr ok.ext Fix.rfl'⟩
theorem s_retN {pos : Pos} : PS X (.Return none pos) (tSt S Wd G W fix .retN) := ps_retN.weak fun E σ H ⟨F, P, a, sr, o⟩ =>
  o .non σ F H Emp P (rep_non.mpr ⟨rfl, rfl⟩) sr (by rw [emp_uni]; exact .refl) emp_dis (fun x h => h.elim) Fix.rfl'
theorem ret_rd {me : ME} {E : Ends} {σ : L2.St} {H : Hp} {F : Hp} {P : Fp} {a : SA} (sr : SR S F H a σ P) (o : OutS S Wd fix F H P σ E ((ev G W false me a).fl fun d s1 => .rt d s1)) : tEw S Wd G W false me σ H E.rt :=
  ⟨F, P, a, sr, o.head.imp fun d a1 e1 o1 v F1 H1 P1 Pa1 ok => o1 v σ F1 H1 P1 Pa1 ok.rep ok.sr (ok.ext2 rfl) (ok.dis rfl) (ok.fr rfl) Fix.rfl'⟩
theorem s_ret {me : ME} {e : Expr} {pos : Pos} (hn : slotOf me = none) (he : PE X e (tEw S Wd G W false me)) : PS X (.Return (some e) pos) (tSt S Wd G W fix (.ret me)) := (ps_ret he).weak fun E σ H h => by
  obtain ⟨F, P, a, sr, o⟩ := h
  simp only [ex, hn] at o
  exact ret_rd sr o
theorem s_retS {i : Nat} {x : Str} {p pos : Pos} (hN : X.N[i]? = some x) (hv : Vis X.env.scope x) (hd : (x == ("__debug__" : Str)) = false) (hcd : (x == ("__classdict__" : Str)) = false) : PS X (.Return (some (.Name x p)) pos) (tSt S Wd G W fix (.ret (.slot i))) := (ps_ret (pe_var hN hv hd hcd)).weak fun E σ H h => by
  obtain ⟨F, P, a, sr, o⟩ := h
  simp only [ex, slotOf] at o
  split at o
  · exact slot_rd (ret_rd sr o)
  split at o
  case h_2 => exact o.elim
  rename_i d e
  obtain ⟨v, P1, P2, e1, e2, di, r, h2, _⟩ := sr.rep.focus (rd_some e)
  refine ⟨v, e1, o v σ F H P1 P2 r ⟨h2, fun x h => sr.fr x (by rw [e2]; exact .inr h), sr.sub⟩ ?_ di (fun x h => sr.fr x (by rw [e2]; exact .inl h)) Fix.rfl'⟩
  rw [← e2]; exact .refl
theorem s_raise {c : Nat} {e : Expr} {pos : Pos} (hc : X.calm = true) (tk : Takes X Wd) (he : PMk X e fun _ H Q => Q (S.exn c) none H) : PS X (.Raise (some e) none pos) (tSt S Wd G W fix (.raise c)) := (ps_raise hc tk he).weak fun E σ H ⟨F, P, a, sr, o⟩ =>
  o σ F H P sr .refl Fix.rfl'
theorem s_while {t : MT} {mb : MSs} {c : Expr} {body : List Stmt} {pos : Pos} (hp : PassesOwn (model X.prog X.w) X.A X.env X.xe) (hc : PT X c (tT S (ZW S Wd) G W t)) (hb : PSs X body (tSs S Wd G W fix mb)) : PS X (.While c body [] pos) (tSt S Wd G W fix (.whil t mb)) := (ps_while hp hc hb).weak fun E σ H h => by
  obtain ⟨F, P, a, sr, o⟩ := h
  simp only [ex] at o
  refine ⟨fun m σ' H' => ∃ F' P' a', SR S F' H' a' σ' P' ∧ Ext F F' H H' P P' ∧ Fix fix σ σ' ∧ OutS S Wd fix F H P σ E (whileL (fun s => evT G W t s) (fun s => exs G W fix mb s) m a'), ⟨W, F, P, a, sr, .refl, Fix.rfl', o⟩, ?_⟩
  rintro m σ1 H1 ⟨F1, P1, a1, sr1, ex1, fx1, o1⟩
  cases m with
  | zero => exact o1.elim
  | succ n =>
    simp only [whileL] at o1
    refine ⟨F1, P1, a1, sr1, ?_⟩
    cases ec : evT G W t a1 with
    | bad => rw [ec] at o1; exact o1.elim
    | rz c a2 => rw [ec] at o1; exact fun F' H' Pa sr' ex' => o1 σ1 F' H' Pa sr' (ex1.trans ex') fx1
    | ok b a2 =>
      rw [ec] at o1
      intro F2 H2 Pa2 sr2 ex2 sm2
      have ex12 := ex1.trans ex2
      cases b with
      | false => exact o1 σ1 F2 H2 Pa2 sr2 ex12 fx1
      | true =>
        rw [if_pos rfl]
        simp only at o1
        refine ⟨fun σ' H' => ∃ F' P' a', SR S F' H' a' σ' P' ∧ Ext F F' H H' P P' ∧ Fix fix σ σ' ∧ OutS S Wd fix F H P σ E (whileL (fun s => evT G W t s) (fun s => exs G W fix mb s) n a'), fun σ' H' h => ⟨n, Nat.lt_succ_self _, h⟩, F2, Pa2, a2, sr2, ?_⟩
        cases eb : exs G W fix mb a2 with
        | bad => rw [eb] at o1; exact o1.elim
        | nx a3 => rw [eb] at o1; exact fun σ' F' H' Pa sr' ex' f => ⟨F', Pa, a3, sr', ex12.trans ex', fx1.trans f, o1⟩
        | ct a3 => rw [eb] at o1; exact fun σ' F' H' Pa sr' ex' f => ⟨F', Pa, a3, sr', ex12.trans ex', fx1.trans f, o1⟩
        | bk a3 => rw [eb] at o1; exact fun σ' F' H' Pa sr' ex' f => o1 σ' F' H' Pa sr' (ex12.trans ex') (fx1.trans f)
        | rz c a3 => rw [eb] at o1; exact fun σ' F' H' Pa sr' ex' f => o1 σ' F' H' Pa sr' (ex12.trans ex') (fx1.trans f)
        | rt d a3 => rw [eb] at o1; exact fun v σ' F' H' Pd Pa r sr' ex' di fr f => o1 v σ' F' H' Pd Pa r sr' (ex12.trans ex') di fr (fx1.trans f)
end
end Ab
namespace Ab
open PySem L2
open Classical
variable {S : Sig} {Wd : WX} {fix : List Nat} {F F' H H' : Hp} {P : Fp} {σ : L2.St} {a a' : SA}

def gSlots : List Nat → TGs
  | [] => gNil
  | i :: is => gCons (gName i) (gSlots is)
def tG (K : PySem.W.Frag) : MG → TG
  | .name i => gName i
  | .pair i j => gTup K 2 (gSlots [i, j])
  | .trip i j k => gTup K 3 (gSlots [i, j, k])
  | .quad i j k l => gTup K 4 (gSlots [i, j, k, l])
theorem setN_ok : ∀ {is : List Nat} {ds : List D} {vs : List V} {s s1 : SA} {σ : L2.St} {P : Fp} {Q : L2.St → Hp → Prop}, setN s is ds = some s1 → SR S F H s σ P → Reps S F H ds vs Emp → (∀ i ∈ is, ¬ i ∈ fix) →
    (∀ σ2 P2, SR S F H s1 σ2 P2 → (∀ x, P2 x → P x) → Fix fix σ σ2 → Q σ2 H) → gSlots is vs σ H Q
  | [], ds, vs, s, s1, σ, P, Q, e, sr, r, hn, q => by
    cases ds with
    | cons d ds => simp [setN] at e
    | nil =>
      simp only [setN, Option.some.injEq] at e
      subst e
      simp only [Reps] at r
      exact ⟨r.1, q σ P sr (fun _ h => h) Fix.rfl'⟩
  | i :: is, ds, vs, s, s1, σ, P, Q, e, sr, r, hn, q => by
    cases ds with
    | nil => simp [setN] at e
    | cons d ds =>
      simp only [setN] at e
      simp only [Reps] at r
      obtain ⟨v, vr, P1, P2, rfl, ee, _, r1, r2⟩ := r
      obtain ⟨rfl, rfl⟩ := uni_empty ee
      obtain ⟨P3, sr3, sb⟩ := sr.asg (i := i) r1 emp_dis fun x h => h.elim
      refine ⟨v, vr, rfl, setN_ok e sr3 r2 (fun j hj => hn j (List.mem_cons_of_mem _ hj)) fun σ2 P4 sr4 sb4 f => q σ2 P4 sr4 (fun x h => (sb x (sb4 x h)).elim (fun z => z.elim) id) ((Fix.set (hn i List.mem_cons_self)).trans f)⟩
theorem setN_len : ∀ {is : List Nat} {ds : List D} {s s1 : SA}, setN s is ds = some s1 → ds.length = is.length
  | [], [], s, s1, e => rfl
  | [], d :: ds, s, s1, e => by simp [setN] at e
  | i :: is, [], s, s1, e => by simp [setN] at e
  | i :: is, d :: ds, s, s1, e => by simp only [setN] at e; simp [setN_len e]
theorem asgG_ok {K : PySem.W.Frag} {g : MG} {x : D} {v : V} {s s1 : SA} {Q : L2.St → Hp → Prop} (e : asgG g x s = some s1) (sr : SR S F H s σ P) (r : Rep S F H x v Emp) (hn : ∀ i ∈ g.slots, ¬ i ∈ fix)
    (q : ∀ σ2 P2, SR S F H s1 σ2 P2 → (∀ x, P2 x → P x) → Fix fix σ σ2 → Q σ2 H) : tG K g v σ H Q := by
  have gen : ∀ (is : List Nat) (ds : List D), x = .tup ds → setN s is ds = some s1 → (∀ i ∈ is, ¬ i ∈ fix) → gTup K is.length (gSlots is) v σ H Q := fun is ds ex es hn => by
    subst ex
    obtain ⟨_, p, vs, rfl, ep, rs⟩ := rep_tup.mp r
    exact ⟨p, vs, rfl, SqT.of (sr.sub _ _ ep), by rw [Reps.len rs, setN_len es], setN_ok es sr rs hn q⟩
  cases g with
  | name i =>
    simp only [asgG, Option.some.injEq] at e
    subst e
    obtain ⟨P3, sr3, sb⟩ := sr.asg (i := i) r emp_dis fun x h => h.elim
    exact q _ P3 sr3 (fun x h => (sb x h).elim (fun z => z.elim) id) (Fix.set (hn i (by simp [MG.slots])))
  | pair i j =>
    cases x <;> simp only [asgG, reduceCtorEq] at e
    exact gen [i, j] _ rfl e hn
  | trip i j k =>
    cases x <;> simp only [asgG, reduceCtorEq] at e
    exact gen [i, j, k] _ rfl e hn
  | quad i j k l =>
    cases x <;> simp only [asgG, reduceCtorEq] at e
    exact gen [i, j, k, l] _ rfl e hn
section
variable {X : Cx} {G : Env0A} {W : Nat}
theorem s_asgT {g : MG} {me : ME} {tg e : Expr} {pos : Pos} (he : PE X e (tEw S Wd G W false me)) (hg : PG X tg (tG X.K g)) (hs : swapsWithSole [tg] e pos.line X.env = pure false) (hw : swappedStores [tg] e X.env = pure none) (h1 : (assignEach [tg] X.env).map (·.2) = [assign tg X.env]) :
    PS X (.Assign [tg] e pos) (tSt S Wd G W fix (.asgT g me)) := (ps_asg he hg hs hw h1).weak fun E σ H h => by
  obtain ⟨F, P, a, sr, o⟩ := h
  simp only [ex] at o
  split at o
  · exact o.elim
  rename_i hf
  refine ⟨F, P, a, sr, o.head.imp fun d a1 e1 o1 v F1 H1 P1 Pa1 ok => ?_⟩
  obtain ⟨s1, es, o2⟩ := o1.of
  obtain ⟨sr2, sF, ex2⟩ := shares ok.sr (ok.dis rfl) (ok.fr rfl)
  have r : Rep S (take F1 H1 P1) H1 (frz d) v Emp := ok.rep.frz sF d fun x hx => take_in hx
  refine asgG_ok es sr2 r (fun i hi hm => hf (List.any_eq_true.mpr ⟨i, hi, by simpa using hm⟩)) fun σ2 P2 sr3 sb f => ?_
  exact o2 σ2 _ H1 P2 sr3 (((ok.ext2 rfl).trans ex2).less sb) f
/-- the body for whichever slots stay -/
def tSx (S : Sig) (Wd : WX) (G : Env0A) (W : Nat) (b : MSs) : TS := fun E σ H => ∃ fx, tSs S Wd G W fx b E σ H
theorem ss_any {body : List Stmt} {b : MSs} (h : ∀ fx, PSs X body (tSs S Wd G W fx b)) : PSs X body (tSx S Wd G W b) := ⟨fun pins s σ H E I q => by
  obtain ⟨fx, q⟩ := q
  exact (h fx).run pins s σ H E I q⟩
theorem s_for {g : MG} {it : MI} {mb : MSs} {tg iter : Expr} {body : List Stmt} {pos : Pos} (hp : PassesOwn (model X.prog X.w) X.A X.env X.xe) (hc : X.calm = true) (hi : PI X tg iter (tIt S (ZW S Wd) G W it)) (hg : PG X tg (tG X.K g)) (hb : ∀ fx, PSs X body (tSs S Wd G W fx mb))
    (hs : ∀ x, foldedSetIterable iter X.env x = pure x) : PS X (.For tg iter body [] pos) (tSt S Wd G W fix (.forr g it mb)) := (ps_for hp hc hi hg (ss_any hb) hs).weak fun E σ H h => by
  obtain ⟨F, P, a, sr, o⟩ := h
  simp only [ex] at o
  refine ⟨F, P, a, sr, o.head.imp fun im a1 e1 o1 J F1 H1 Pa1 sr1 ex1 sm1 hJ => ?_⟩
  cases im with
  | vals ds =>
    simp only at o1
    split at o1
    · exact o1.elim
    rename_i hf
    have hnf : ∀ i ∈ g.slots, ¬ i ∈ fix := fun i hi hm => hf (List.any_eq_true.mpr ⟨i, hi, by simpa using hm⟩)
    obtain ⟨vs, rv, hJ⟩ := hJ
    have hvl : vs.length = ds.length := Reps.len (rv H1)
    refine ⟨fun i m σ' H' => m = vs.length - i ∧ i ≤ vs.length ∧ ∃ F' P' a', SR S F' H' a' σ' P' ∧ Ext F F' H H' P P' ∧ Same F1 F' ∧ Fix fix σ σ' ∧ OutS S Wd fix F H P σ E (forL (fun s => exs G W fix mb s) g (ds.drop i) a'), ⟨vs.length, rfl, Nat.zero_le _, F1, Pa1, a1, sr1, ex1, fun _ _ z => z, Fix.rfl', o1⟩, ?_⟩
    rintro i m σ2 H2 ⟨rfl, hi, F2, P2, a2, sr2, ex2, sF2, fx2, o2⟩
    have sFH : Same F1 H2 := sF2.trans sr2.sub
    by_cases hlt : i < vs.length
    · right
      refine ⟨(hJ i H2 sFH).1 hlt, fun σ' H' => ∃ F' P' a', SR S F' H' a' σ' P' ∧ Ext F F' H H' P P' ∧ Same F1 F' ∧ Fix fix σ σ' ∧ OutS S Wd fix F H P σ E (forL (fun s => exs G W fix mb s) g (ds.drop (i + 1)) a'), fun σ' H' h => ⟨vs.length - (i + 1), by omega, rfl, by omega, h⟩, fun x H3 y => ?_⟩
      obtain ⟨rfl, ex⟩ := (hJ i H2 sFH).2.2 x H3 hlt y
      have hd : ds.drop i = ds[i] :: ds.drop (i + 1) := List.drop_eq_getElem_cons (by omega)
      rw [hd] at o2
      simp only [forL] at o2
      split at o2
      · exact o2.elim
      rename_i s1 es
      have rx : Rep S F2 H3 ds[i] x Emp := by
        obtain ⟨_, hr⟩ := Reps.at_iff.mp (rv H3)
        exact (hr i ds[i] x (by simp [hvl ▸ hlt]) ex).keep sF2 _ fun _ _ => rfl
      refine asgG_ok es sr2 rx hnf fun σ3 P3 sr3 sb3 f3 => ⟨fix, F2, P3, s1, sr3, ?_⟩
      have ex3 : Ext F F2 H H3 P P3 := ex2.less sb3
      have fx3 := fx2.trans f3
      cases eb : exs G W fix mb s1 with
      | bad => rw [eb] at o2; exact o2.elim
      | nx a3 => rw [eb] at o2; exact fun σ' F' H' Pa sr' ex' f => ⟨F', Pa, a3, sr', ex3.trans ex', sF2.trans ex'.same, fx3.trans f, o2⟩
      | ct a3 => rw [eb] at o2; exact fun σ' F' H' Pa sr' ex' f => ⟨F', Pa, a3, sr', ex3.trans ex', sF2.trans ex'.same, fx3.trans f, o2⟩
      | bk a3 => rw [eb] at o2; exact fun σ' F' H' Pa sr' ex' f => o2 σ' F' H' Pa sr' (ex3.trans ex') (fx3.trans f)
      | rz c a3 => rw [eb] at o2; exact fun σ' F' H' Pa sr' ex' f => o2 σ' F' H' Pa sr' (ex3.trans ex') (fx3.trans f)
      | rt d a3 => rw [eb] at o2; exact fun v σ' F' H' Pd Pa r sr' ex' di fr f => o2 v σ' F' H' Pd Pa r sr' (ex3.trans ex') di fr (fx3.trans f)
    · left
      refine ⟨(hJ i H2 sFH).2.1 (by omega), ?_⟩
      rw [List.drop_of_length_le (by omega)] at o2
      exact o2 σ2 F2 H2 P2 sr2 ex2 fx2
  | live j =>
    simp only at o1
    split at o1
    · exact o1.elim
    rename_i hf
    have hnf : ∀ i ∈ g.slots, ¬ i ∈ fix := fun i hi hm => hf (List.any_eq_true.mpr ⟨i, hi, by simpa using hm⟩)
    obtain ⟨p, ep, hJ⟩ := hJ
    refine ⟨fun i m σ' H' => ∃ F' P' a', SR S F' H' a' σ' P' ∧ Ext F F' H H' P P' ∧ Fix (j :: fix) σ σ' ∧ OutS S Wd fix F H P σ E (forV (fun s => exs G W (j :: fix) mb s) g j m i a'), ⟨W, F1, Pa1, a1, sr1, ex1, Fix.rfl', o1⟩, ?_⟩
    rintro i m σ2 H2 ⟨F2, P2, a2, sr2, ex2, fx2, o2⟩
    have fx2' : Fix fix σ σ2 := fun k hk => fx2 k (List.mem_cons_of_mem _ hk)
    cases m with
    | zero => exact o2.elim
    | succ n =>
      simp only [forV] at o2
      split at o2
      case h_2 => exact o2.elim
      rename_i mk ds er
      obtain ⟨w, Q1, Q2, ew, e2, di, r, _, _⟩ := sr2.rep.focus (rd_some er)
      rw [fx2 j List.mem_cons_self, ep] at ew
      cases ew
      obtain ⟨q', vs, P', eq', eh, rr⟩ := r.lst_at sr2.sub
      cases eq'
      have hvl := Reps.len rr
      obtain ⟨j1, j2, j3⟩ := hJ i H2 vs eh
      split at o2
      · rename_i en
        left
        have : ds.length ≤ i := List.getElem?_eq_none_iff.mp en
        exact ⟨j2 (by omega), o2 σ2 F2 H2 P2 sr2 ex2 fx2'⟩
      rename_i d ed
      split at o2
      case isFalse => exact o2.elim
      rename_i hc
      simp only [Bool.and_eq_true, Bool.not_eq_true'] at hc
      have hnj : ∀ i ∈ g.slots, ¬ i ∈ j :: fix := fun i hi hm => by
        rcases List.mem_cons.mp hm with rfl | hm
        · have := hc.2
          simp only [List.contains_eq_mem, decide_eq_false_iff_not] at this
          exact this hi
        · exact hnf i hi hm
      right
      have hlt : i < ds.length := (List.getElem?_eq_some_iff.mp ed).1
      refine ⟨j1 (by omega), fun σ' H' => ∃ F' P' a', SR S F' H' a' σ' P' ∧ Ext F F' H H' P P' ∧ Fix (j :: fix) σ σ' ∧ OutS S Wd fix F H P σ E (forV (fun s => exs G W (j :: fix) mb s) g j n (i + 1) a'), fun σ' H' h => ⟨n, Nat.lt_succ_self _, h⟩, fun x H3 y => ?_⟩
      obtain ⟨rfl, ex⟩ := j3 x H3 (by omega) y
      obtain ⟨x', Px, ex', rx, sbx⟩ := rr.item ed
      rw [ex] at ex'; cases ex'
      rw [rx.still d hc.1] at rx
      split at o2
      · exact o2.elim
      rename_i s1 es
      refine asgG_ok (fix := j :: fix) es sr2 rx hnj fun σ3 P3 sr3 sb3 f3 => ⟨j :: fix, F2, P3, s1, sr3, ?_⟩
      have ex3 : Ext F F2 H H3 P P3 := ex2.less sb3
      have fx3 := fx2.trans f3
      have low : ∀ {σ' : L2.St}, Fix (j :: fix) σ3 σ' → Fix fix σ σ' := fun f k hk => (fx3.trans f) k (List.mem_cons_of_mem _ hk)
      cases eb : exs G W (j :: fix) mb s1 with
      | bad => rw [eb] at o2; exact o2.elim
      | nx a3 => rw [eb] at o2; exact fun σ' F' H' Pa sr' ex' f => ⟨F', Pa, a3, sr', ex3.trans ex', fx3.trans f, o2⟩
      | ct a3 => rw [eb] at o2; exact fun σ' F' H' Pa sr' ex' f => ⟨F', Pa, a3, sr', ex3.trans ex', fx3.trans f, o2⟩
      | bk a3 => rw [eb] at o2; exact fun σ' F' H' Pa sr' ex' f => o2 σ' F' H' Pa sr' (ex3.trans ex') (low f)
      | rz c a3 => rw [eb] at o2; exact fun σ' F' H' Pa sr' ex' f => o2 σ' F' H' Pa sr' (ex3.trans ex') (low f)
      | rt d a3 => rw [eb] at o2; exact fun v σ' F' H' Pd Pa r sr' ex' di fr f => o2 v σ' F' H' Pd Pa r sr' (ex3.trans ex') di fr (low f)
end
end Ab
namespace Ab
open PySem L2
open Classical
variable {S : Sig} {Wd : WX} {Z : L2.St → Nat → Hp → Prop} {fix : List Nat} {F F' H H' : Hp} {P : Fp} {σ : L2.St} {a a' : SA}

/-! ### ways into a value -/
def Via (att : Nat → Str) (H : Hp) : List Key → V → V → Prop
  | [], w, u => w = u
  | .ix k :: ks, w, u => ∃ p xs x, w = .ref p ∧ H p = some (.lst xs) ∧ atI xs k = some x ∧ Via att H ks x u
  | .fd k :: ks, w, u => ∃ p C dx fs x, w = .ref p ∧ H p = some (.ins C dx fs) ∧ fs.lookup (att k) = some x ∧ Via att H ks x u
theorem Via.up {att : Nat → Str} (sH : Same H H') : ∀ {ks : List Key} {w u : V}, Via att H ks w u → Via att H' ks w u
  | [], w, u, h => h
  | .ix k :: ks, w, u, ⟨p, xs, x, e1, e2, e3, h⟩ => ⟨p, xs, x, e1, sH _ _ e2, e3, Via.up sH h⟩
  | .fd k :: ks, w, u, ⟨p, C, dx, fs, x, e1, e2, e3, h⟩ => ⟨p, C, dx, fs, x, e1, sH _ _ e2, e3, Via.up sH h⟩
theorem Via.inj {att : Nat → Str} : ∀ {ks : List Key} {w u u' : V}, Via att H ks w u → Via att H ks w u' → u = u'
  | [], w, u, u', h, h' => h.symm.trans h'
  | .ix k :: ks, w, u, u', ⟨p, xs, x, e1, e2, e3, h⟩, ⟨p', xs', x', f1, f2, f3, h'⟩ => by
    subst e1; cases f1
    rw [e2] at f2; cases f2
    rw [e3] at f3; cases f3
    exact Via.inj h h'
  | .fd k :: ks, w, u, u', ⟨p, C, dx, fs, x, e1, e2, e3, h⟩, ⟨p', C', dx', fs', x', f1, f2, f3, h'⟩ => by
    subst e1; cases f1
    rw [e2] at f2; cases f2
    rw [e3] at f3; cases f3
    exact Via.inj h h'
theorem Via.snoc {att : Nat → Str} {k : Key} : ∀ {ks : List Key} {w x : V}, Via att H (ks ++ [k]) w x → ∃ u, Via att H ks w u ∧ Via att H [k] u x
  | [], w, x, h => ⟨w, rfl, h⟩
  | .ix i :: ks, w, x, ⟨p, xs, y, e1, e2, e3, h⟩ => by
    obtain ⟨u, h1, h2⟩ := Via.snoc h
    exact ⟨u, ⟨p, xs, y, e1, e2, e3, h1⟩, h2⟩
  | .fd i :: ks, w, x, ⟨p, C, dx, fs, y, e1, e2, e3, h⟩ => by
    obtain ⟨u, h1, h2⟩ := Via.snoc h
    exact ⟨u, ⟨p, C, dx, fs, y, e1, e2, e3, h1⟩, h2⟩
theorem atI_of {ds : List D} {vs : List V} {k : Int} {j : Nat} {v : V} (hl : vs.length = ds.length) (hj : ixN ds.length k = some j) (e : vs[j]? = some v) : atI vs k = some v := by
  unfold atI
  rw [hl, hj]
  exact e
theorem fld_at {K : PySem.W.Frag} {att : Nat → Str} {c k j : Nat} {cl : Cl} {vs : List V} {v : V} (hC : ClsOk K att S) (hc : S.cls c = some cl) (hj : fldIx c k = some j) (e : vs[j]? = some v) : (cl.fields.zip vs).lookup (att k) = some v := by
  obtain ⟨k1, k2, k3, _, k4⟩ := hC.cls c cl hc
  exact lookup_zip k3 (by rw [k2, List.getElem?_map, fldIx_at hj]; rfl) e
/-- the way is there -/
theorem Rep.way {K : PySem.W.Frag} {att : Nat → Str} (hC : ClsOk K att S) (sub : Same F H) : ∀ {ks : List Key} {d e : D} {v : V} {P : Fp}, Rep S F H d v P → getP ks d = some e → ∃ u P1, Via att H ks v u ∧ Rep S F H e u P1
  | [], d, e, v, P, r, h => by cases h; exact ⟨v, P, rfl, r⟩
  | .ix k :: ks, d, e, v, P, r, h => by
    cases d <;> first | (simp only [getP, reduceCtorEq] at h; done) | skip
    rename_i m ds
    cases m <;> simp only [getP, reduceCtorEq, Option.bind_eq_some_iff] at h
    obtain ⟨j, hj, x, hx, h⟩ := h
    obtain ⟨p, vs, P', rfl, ep, rs⟩ := r.lst_at sub
    obtain ⟨w, P1, ew, rw', _⟩ := rs.item hx
    obtain ⟨u, P2, hv, ru⟩ := Rep.way hC sub rw' h
    exact ⟨u, P2, ⟨p, vs, w, rfl, ep, atI_of (Reps.len rs) hj ew, hv⟩, ru⟩
  | .fd k :: ks, d, e, v, P, r, h => by
    cases d <;> first | (simp only [getP, reduceCtorEq] at h; done) | skip
    rename_i m c ds
    cases m <;> simp only [getP, reduceCtorEq, Option.bind_eq_some_iff] at h
    obtain ⟨j, hj, x, hx, h⟩ := h
    obtain ⟨p, cl, dx, vs, P', rfl, hc, hl, ep, rs, _⟩ := r.ins_at sub
    obtain ⟨w, P1, ew, rw', _⟩ := rs.item hx
    obtain ⟨u, P2, hv, ru⟩ := Rep.way hC sub rw' h
    exact ⟨u, P2, ⟨p, _, dx, _, w, rfl, ep, fld_at hC hc hj ew, hv⟩, ru⟩
theorem list_set_self {α : Type} {xs : List α} {j : Nat} {x : α} (h : xs[j]? = some x) : xs.set j x = xs := by
  apply List.ext_getElem?
  intro i
  by_cases hi : j = i
  · subst hi
    rw [List.getElem?_set_self (List.getElem?_eq_some_iff.mp h).1, h]
  · rw [List.getElem?_set_ne hi]
/-- a value changed at the end of a way -/
theorem Rep.path {K : PySem.W.Frag} {att : Nat → Str} (hC : ClsOk K att S) (sub : Same F H) : ∀ {ks : List Key} {d d' : D} {f : D → Option D} {v : V} {P : Fp}, Rep S F H d v P → updD ks f d = some d' →
    ∃ u e e' P1 P2, Via att H ks v u ∧ f e = some e' ∧ P = Uni P1 P2 ∧ Dis P1 P2 ∧ Rep S F H e u P1 ∧ ∀ (F' H' : Hp) (P1' : Fp), Same F F' → (∀ x, P2 x → H' x = H x) → Rep S F' H' e' u P1' → Dis P1' P2 → Rep S F' H' d' v (Uni P1' P2)
  | [], d, d', f, v, P, r, h => ⟨v, d, d', P, Emp, rfl, h, (uni_emp _).symm, dis_emp, r, fun F' H' P1' _ _ r' _ => by rw [uni_emp]; exact r'⟩
  | .ix k :: ks, d, d', f, v, P, r, h => by
    cases d <;> first | (simp only [updD, reduceCtorEq] at h; done) | skip
    rename_i m ds
    cases m <;> simp only [updD, reduceCtorEq, Option.bind_eq_some_iff, Option.map_eq_some_iff] at h
    obtain ⟨j, hj, x, hx, x', hx', rfl⟩ := h
    simp only [Rep] at r
    obtain ⟨p, vs, rfl, r⟩ := r
    rw [if_pos trivial] at r
    obtain ⟨ep, pp, P', np, rfl, rs⟩ := r
    have hlen := Reps.len rs
    obtain ⟨w, Q1, Q2, ew, rfl, dq, rx, put⟩ := rs.hole hx
    obtain ⟨u, e, e', R1, R2, via, he, rfl, dr, re, up⟩ := Rep.path hC sub rx hx'
    refine ⟨u, e, e', R1, Uni (One p) (Uni R2 Q2), ⟨p, vs, w, rfl, ep, atI_of hlen hj ew, via⟩, he, ?_, ?_, re, fun F' H' P1' sF kp r' n => ?_⟩
    · show Uni (One p) (Uni (Uni R1 R2) Q2) = _
      rw [uni_assoc, uni_left_comm]
    · refine Dis.uni' (fun y h1 h2 => np ?_) (Dis.uni' dr fun y h1 h2 => dq y (.inl h1) h2)
      have h2 : y = p := h2
      rw [← h2]; exact .inl (.inl h1)
    · have r2 := up F' H' P1' sF (fun y hy => kp y (.inr (.inl hy))) r' fun y h1 h2 => n y h1 (.inr (.inl h2))
      have r3 := put F' H' x' w _ sF (fun y hy => kp y (.inr (.inr hy))) r2 (Dis.uni (fun y h1 h2 => n y h1 (.inr (.inr h2))) fun y h1 h2 => dq y (.inr h1) h2)
      rw [list_set_self ew] at r3
      simp only [Rep]
      refine ⟨p, vs, rfl, ?_⟩
      rw [if_pos trivial]
      refine ⟨(kp p (.inl rfl)).trans ep, .inr (.inl rfl), _, fun z => ?_, ?_, r3⟩
      · rcases z with (z | z) | z
        · exact n p z (.inl rfl)
        · exact np (.inl (.inr z))
        · exact np (.inr z)
      · show Uni P1' (Uni (One p) (Uni R2 Q2)) = Uni (One p) (Uni (Uni P1' R2) Q2)
        rw [uni_left_comm, uni_assoc]
  | .fd k :: ks, d, d', f, v, P, r, h => by
    cases d <;> first | (simp only [updD, reduceCtorEq] at h; done) | skip
    rename_i m c ds
    cases m <;> simp only [updD, reduceCtorEq, Option.bind_eq_some_iff, Option.map_eq_some_iff] at h
    obtain ⟨j, hj, x, hx, x', hx', rfl⟩ := h
    simp only [Rep] at r
    obtain ⟨p, cl, dx, vs, rfl, hc, hl, r⟩ := r
    rw [if_pos trivial] at r
    obtain ⟨ep, pp, P', np, rfl, rs⟩ := r
    obtain ⟨w, Q1, Q2, ew, rfl, dq, rx, put⟩ := rs.hole hx
    obtain ⟨u, e, e', R1, R2, via, he, rfl, dr, re, up⟩ := Rep.path hC sub rx hx'
    refine ⟨u, e, e', R1, Uni (One p) (Uni R2 Q2), ⟨p, _, dx, _, w, rfl, ep, fld_at hC hc hj ew, via⟩, he, ?_, ?_, re, fun F' H' P1' sF kp r' n => ?_⟩
    · show Uni (One p) (Uni (Uni R1 R2) Q2) = _
      rw [uni_assoc, uni_left_comm]
    · refine Dis.uni' (fun y h1 h2 => np ?_) (Dis.uni' dr fun y h1 h2 => dq y (.inl h1) h2)
      have h2 : y = p := h2
      rw [← h2]; exact .inl (.inl h1)
    · have r2 := up F' H' P1' sF (fun y hy => kp y (.inr (.inl hy))) r' fun y h1 h2 => n y h1 (.inr (.inl h2))
      have r3 := put F' H' x' w _ sF (fun y hy => kp y (.inr (.inr hy))) r2 (Dis.uni (fun y h1 h2 => n y h1 (.inr (.inr h2))) fun y h1 h2 => dq y (.inr h1) h2)
      rw [list_set_self ew] at r3
      simp only [Rep]
      refine ⟨p, cl, dx, vs, rfl, hc, by rw [List.length_set]; exact hl, ?_⟩
      rw [if_pos trivial]
      refine ⟨(kp p (.inl rfl)).trans ep, .inr (.inl rfl), _, fun z => ?_, ?_, r3⟩
      · rcases z with (z | z) | z
        · exact n p z (.inl rfl)
        · exact np (.inl (.inr z))
        · exact np (.inr z)
      · show Uni P1' (Uni (One p) (Uni R2 Q2)) = Uni (One p) (Uni (Uni P1' R2) Q2)
        rw [uni_left_comm, uni_assoc]
/-- in a slot -/
theorem SR.path {K : PySem.W.Frag} {att : Nat → Str} (hC : ClsOk K att S) (sr : SR S F H a σ P) {i : Nat} {ks : List Key} {f : D → Option D} (h : updS i ks f a = some a') :
    ∃ w u e e' P1 P2, σ[i]? = some (some w) ∧ Via att H ks w u ∧ f e = some e' ∧ P = Uni P1 P2 ∧ Dis P1 P2 ∧ Rep S F H e u P1 ∧ ∀ (F' H' : Hp) (P1' : Fp), Same F F' → (∀ x, P2 x → H' x = H x) → Rep S F' H' e' u P1' → Dis P1' P2 → RepS S F' H' a' σ (Uni P1' P2) := by
  simp only [updS, Option.bind_eq_some_iff, Option.map_eq_some_iff] at h
  obtain ⟨d, hd, d', hd', rfl⟩ := h
  obtain ⟨w, P1, P2, e1, rfl, di, r, h2, put⟩ := sr.rep.focus (rd_some hd)
  obtain ⟨u, e, e', R1, R2, via, he, rfl, dr, re, up⟩ := Rep.path hC sr.sub r hd'
  refine ⟨w, u, e, e', R1, Uni R2 P2, e1, via, he, uni_assoc _ _ _, Dis.uni' dr fun x h1 h2 => di x (.inl h1) h2, re, fun F' H' P1' sF kp r' n => ?_⟩
  have r2 := up F' H' P1' sF (fun y hy => kp y (.inl hy)) r' fun y h1 h2 => n y h1 (.inl h2)
  have := put F' H' P2 (h2.keep sF fun y hy => kp y (.inr hy)) d' _ r2 (Dis.uni (fun y h1 h2 => n y h1 (.inr h2)) fun y h1 h2 => di y (.inr h1) h2)
  rwa [uni_assoc] at this
/-- an own list, written -/
theorem SR.write {K : PySem.W.Frag} {att : Nat → Str} {Pd : Fp} {T : List V → List V → Prop} (hC : ClsOk K att S) (sr : SR S F H a σ P) (da : Dis Pd P) (fr : ∀ x, Pd x → F x = none) {i : Nat} {ks : List Key} {f : D → Option D} (h : updS i ks f a = some a')
    (hf : ∀ e e', f e = some e' → ∃ ds ds', e = .lst true ds ∧ e' = .lst true ds' ∧ ∀ vs Q, Reps S F H ds vs Q → Dis Pd Q → ∃ vs' Q', T vs vs' ∧ Reps S F H ds' vs' Q' ∧ ∀ x, Q' x → Uni Pd Q x) :
    ∃ w p vs vs' P', σ[i]? = some (some w) ∧ Via att H ks w (.ref p) ∧ H p = some (.lst vs) ∧ T vs vs' ∧ SR S F (upd H p (.lst vs')) a' σ P' ∧ (∀ x, P' x → Uni Pd P x) ∧ Ext F F H (upd H p (.lst vs')) (Uni Pd P) P' := by
  obtain ⟨w, u, e, e', P1, P2, e1, via, he, rfl, di, re, up⟩ := sr.path hC h
  obtain ⟨ds, ds', rfl, rfl, hr⟩ := hf e e' he
  simp only [Rep] at re
  obtain ⟨p, vs, rfl, re⟩ := re
  rw [if_pos trivial] at re
  obtain ⟨ep, pp, P', np, rfl, rs⟩ := re
  obtain ⟨vs', Q', ht, rs', sb⟩ := hr vs P' rs fun x h1 h2 => da x h1 (.inl (.inr h2))
  have nQ : ¬ Q' p := fun z => (sb p z).elim (fun y => da p y (.inl (.inl rfl))) np
  have n2 : ¬ P2 p := fun z => di p (.inl rfl) z
  have rl : Rep S F (upd H p (.lst vs')) (.lst true ds') (.ref p) (Uni (fun x => x = p) Q') := by
    simp only [Rep]
    refine ⟨p, vs', rfl, ?_⟩
    rw [if_pos trivial]
    exact ⟨upd_same, .inl rfl, Q', nQ, rfl, Reps.keep (fun _ _ z => z) _ rs' fun x hx => upd_ne fun z => nQ (z ▸ hx)⟩
  have sbA : ∀ x, Uni (Uni (fun x => x = p) Q') P2 x → Uni Pd (Uni (Uni (fun x => x = p) P') P2) x := fun x h => by
    rcases h with (h | h) | h
    · exact .inr (.inl (.inl h))
    · exact (sb x h).elim .inl fun z => .inr (.inl (.inr z))
    · exact .inr (.inr h)
  have rS := up F (upd H p (.lst vs')) _ (fun _ _ z => z) (fun x hx => upd_ne fun z => n2 (z ▸ hx)) rl (Dis.uni (fun x h1 h2 => by have h1 : x = p := h1; rw [h1] at h2; exact n2 h2) fun x h1 h2 => (sb x h1).elim (fun z => da x z (.inr h2)) fun z => di x (.inr z) h2)
  refine ⟨w, p, vs, vs', _, e1, via, ep, ht, ⟨rS, fun x h => (sbA x h).elim (fr x) (sr.fr x), fun x q e => ?_⟩, sbA, (Ext.updIn (show Uni Pd (Uni (Uni (fun x => x = p) P') P2) p from .inr (.inl (.inl rfl)))).less sbA⟩
  have hFp : F p = none := sr.fr p (.inl (.inl rfl))
  rw [upd_ne (show x ≠ p from fun z => by rw [z, hFp] at e; cases e)]
  exact sr.sub x q e
end Ab
namespace Ab
open PySem L2
open Classical
variable {S : Sig} {Wd : WX} {Z : L2.St → Nat → Hp → Prop} {fix : List Nat} {F F' H H' : Hp} {P : Fp} {σ : L2.St} {a a' : SA}

theorem Reps.appP {ys : List D} {ws : List V} (b : Reps S F H ys ws Emp) : ∀ {xs : List D} {vs : List V} {P : Fp}, Reps S F H xs vs P → Reps S F H (xs ++ ys) (vs ++ ws) P
  | [], vs, P, r => by
    simp only [Reps] at r
    obtain ⟨rfl, rfl⟩ := r
    exact b
  | x :: xs, vs, P, r => by
    simp only [Reps] at r
    obtain ⟨v, vr, P1, P2, rfl, rfl, di, r1, r2⟩ := r
    simp only [List.cons_append, Reps]
    exact ⟨v, _, P1, P2, rfl, rfl, di, r1, Reps.appP b r2⟩
theorem Reps.revP : ∀ {xs : List D} {vs : List V} {P : Fp}, Reps S F H xs vs P → Reps S F H xs.reverse vs.reverse P
  | [], vs, P, r => by
    simp only [Reps] at r
    obtain ⟨rfl, rfl⟩ := r
    simp only [List.reverse_nil, Reps]
    exact ⟨trivial, trivial⟩
  | x :: xs, vs, P, r => by
    simp only [Reps] at r
    obtain ⟨v, vr, P1, P2, rfl, rfl, di, r1, r2⟩ := r
    rw [List.reverse_cons, List.reverse_cons, uni_comm]
    exact (Reps.revP r2).snoc r1 di.symm
theorem getP_snoc {k : Key} : ∀ {ks : List Key} {d : D}, getP (ks ++ [k]) d = (getP ks d).bind (getP [k])
  | [], d => rfl
  | .ix i :: ks, d => by
    cases d <;> first | rfl | skip
    rename_i m ds
    cases m <;> first | rfl | skip
    simp only [List.cons_append, getP]
    cases ixN ds.length i with
    | none => rfl
    | some j =>
      simp only [Option.bind_some]
      cases ds[j]? with
      | none => rfl
      | some x => exact getP_snoc
  | .fd i :: ks, d => by
    cases d <;> first | rfl | skip
    rename_i m c ds
    cases m <;> first | rfl | skip
    simp only [List.cons_append, getP]
    cases fldIx c i with
    | none => rfl
    | some j =>
      simp only [Option.bind_some]
      cases ds[j]? with
      | none => rfl
      | some x => exact getP_snoc
def AtP (att : Nat → Str) (H : Hp) (σ : L2.St) (q : Nat × List Key) (u : V) : Prop := ∃ w, σ[q.1]? = some (some w) ∧ Via att H q.2 w u
theorem AtP.inj {att : Nat → Str} {q : Nat × List Key} {u u' : V} (h : AtP att H σ q u) (h' : AtP att H σ q u') : u = u' := by
  obtain ⟨w, e, v⟩ := h
  obtain ⟨w', e', v'⟩ := h'
  rw [e] at e'; cases e'
  exact v.inj v'
/-- the path's value, as it lies -/
theorem SR.at_ {K : PySem.W.Frag} {att : Nat → Str} (hC : ClsOk K att S) (sr : SR S F H a σ P) {q : Nat × List Key} {e : D} (h : (rd a q.1).bind (getP q.2) = some e) : ∃ u P1, AtP att H σ q u ∧ Rep S F H e u P1 := by
  simp only [Option.bind_eq_some_iff] at h
  obtain ⟨d, hd, he⟩ := h
  obtain ⟨w, P1, P2, e1, e2, di, r, _, _⟩ := sr.rep.focus (rd_some hd)
  obtain ⟨u, P3, via, ru⟩ := r.way hC sr.sub he
  exact ⟨u, P3, ⟨w, e1, via⟩, ru⟩
section
variable {X : Cx} {G : Env0A} {W : Nat} {att : Nat → Str}
def tP (att : Nat → Str) (S : Sig) (Z : L2.St → Nat → Hp → Prop) (G : Env0A) (W : Nat) (p : ME) : TE := fun σ H Q => ∃ F P a, SR S F H a σ P ∧
  Out S (Z σ) F H P σ (fun q a' => ∀ u F' H' Pa, SR S F' H' a' σ Pa → Ext F F' H H' P Pa → (pureE p = true → Same H H') → AtP att H' σ q u → Q u H') (evP G W p a)
theorem chkP_out {q : Nat × List Key} {K : Nat × List Key → SA → Prop} (o : Out S (Z σ) F H P σ K (chkP q a)) : K q a ∧ ∃ e, (rd a q.1).bind (getP q.2) = some e := by
  unfold chkP at o
  split at o
  · rename_i e he
    exact ⟨o, e, he⟩
  · exact o.elim
theorem p_slot {i : Nat} {x : Str} {pos : Pos} (hN : X.N[i]? = some x) (hv : Vis X.env.scope x) (hd : (x == ("__debug__" : Str)) = false) (hcd : (x == ("__classdict__" : Str)) = false) : PE X (.Name x pos) (tP att S Z G W (.slot i)) := (pe_var hN hv hd hcd).weak fun σ H Q h => by
  obtain ⟨F, P, a, sr, o⟩ := h
  simp only [evP] at o
  obtain ⟨q, e, he⟩ := chkP_out o
  simp only [Option.bind_eq_some_iff] at he
  obtain ⟨d, hd, _⟩ := he
  obtain ⟨w, P1, P2, e1, _⟩ := sr.rep.focus (rd_some hd)
  exact ⟨w, e1, q w F H P sr .refl (fun _ _ _ z => z) ⟨w, e1, rfl⟩⟩
theorem p_sub {mp mi : ME} {x i : Expr} {pos : Pos} (hC : ClsOk X.K att S) (hx : PE X x (tP att S Z G W mp)) (hi : PE X i (tE S Z G W true mi)) (hp : PlainIx i) : PE X (.Subscript x i pos) (tP att S Z G W (.sub mp mi)) := (pe_ix ix_list hx hi hp).weak fun σ H Q h => by
  obtain ⟨F, P, a, sr, o⟩ := h
  simp only [evP] at o
  refine ⟨F, P, a, sr, o.bind.imp fun q a1 e1 o1 u F1 H1 Pa1 sr1 ex1 sm1 at1 => ?_⟩
  split at o1
  case isFalse => exact o1.elim
  rename_i hpure
  refine ⟨F1, Pa1, a1, sr1, (o1.bind.at ex1).imp fun d a2 e2 o2 v2 F2 H2 P2 Pa2 ok2 => ?_⟩
  cases d <;> try exact o2.elim
  rename_i k
  obtain ⟨q2, e, he⟩ := chkP_out o2
  obtain ⟨rfl, _⟩ := rep_int.mp ok2.rep
  have sH : Same H1 H2 := ok2.same hpure
  obtain ⟨u2, _, at2, _⟩ := ok2.sr.at_ hC he
  obtain ⟨w, ew, via⟩ := at2
  obtain ⟨u', v1, p, xs, y, rfl, ep, ey, hy⟩ := Via.snoc via
  cases hy
  have : AtP att H2 σ q u := by
    obtain ⟨w, e, v⟩ := at1
    exact ⟨w, e, v.up sH⟩
  have eu := this.inj ⟨w, ew, v1⟩
  subst eu
  exact ⟨p, xs, k, u2, rfl, rfl, SqL.of ep, ey, q2 u2 F2 H2 Pa2 ok2.sr (ex1.trans ok2.ext) (fun h => (sm1 (by simp only [pureE, Bool.and_eq_true] at h; exact h.1)).trans sH) ⟨w, ew, via⟩⟩
theorem p_fld {mp : ME} {k : Nat} {x : Expr} {pos : Pos} (hC : ClsOk X.K att S) (hb : attributeBase x (att k) X.env (eval x X.env) = eval x X.env) (hx : PE X x (tP att S Z G W mp)) : PE X (.Attribute x (att k) pos) (tP att S Z G W (.fld mp k)) := (pe_fld hx hb).weak fun σ H Q h => by
  obtain ⟨F, P, a, sr, o⟩ := h
  simp only [evP] at o
  refine ⟨F, P, a, sr, o.bind.imp fun q a1 e1 o1 u F1 H1 Pa1 sr1 ex1 sm1 at1 => ?_⟩
  obtain ⟨q2, e, he⟩ := chkP_out o1
  have he' := he
  simp only [Option.bind_eq_some_iff] at he
  obtain ⟨d, hd, he⟩ := he
  rw [getP_snoc] at he
  simp only [Option.bind_eq_some_iff] at he
  obtain ⟨n, hn, hk⟩ := he
  obtain ⟨u', P1, at2, rn⟩ := sr1.at_ hC (q := q) (by rw [hd]; exact hn)
  have eu := at1.inj at2
  subst eu
  cases n <;> first | (simp only [getP, reduceCtorEq] at hk; done) | skip
  rename_i m c ds
  cases m <;> simp only [getP, reduceCtorEq, Option.bind_eq_some_iff] at hk
  obtain ⟨j, hj, y, hy, hk⟩ := hk
  cases hk
  obtain ⟨p, cl, dx, vs, P', rfl, hc, hl, ep, rs, _⟩ := rn.ins_at sr1.sub
  obtain ⟨w, P2, ew, rw', _⟩ := rs.item hy
  obtain ⟨k1, k2, k3, _, k4⟩ := hC.cls c cl hc
  have ef : cl.fields[j]? = some (att k) := by rw [k2, List.getElem?_map, fldIx_at hj]; rfl
  obtain ⟨u3, _, at3, _⟩ := sr1.at_ hC (q := (q.1, q.2 ++ [.fd k])) he'
  have : u3 = w := by
    obtain ⟨w1, ew1, via⟩ := at3
    obtain ⟨u', v1, p', C, dx', fs, y', rfl, ep', ey, hy'⟩ := Via.snoc via
    cases hy'
    have := at1.inj ⟨w1, ew1, v1⟩
    cases this
    rw [ep] at ep'; cases ep'
    rw [fld_at hC hc hj ew] at ey
    exact (Option.some.inj ey).symm
  subst this
  exact ⟨p, cl.addr, dx, _, u3, rfl, ep, k1, k4 _ (List.mem_of_getElem? ef), fld_at hC hc hj ew, q2 u3 F1 H1 Pa1 sr1 ex1 (fun h => sm1 (by simpa [pureE] using h)) at3⟩
end
end Ab
namespace Ab
open PySem L2
open Classical
variable {S : Sig} {Wd : WX} {Z : L2.St → Nat → Hp → Prop} {fix : List Nat} {F F' H H' : Hp} {P : Fp} {σ : L2.St} {a a' : SA}

/-! ### writing statements -/
section
variable {X : Cx} {G : Env0A} {W : Nat} {att : Nat → Str}
theorem sw_other {e : Expr} {t : Expr} {l : Nat} {env : Env} (h : (match t with | .Name _ _ => false | _ => true) = true) : swapsWith e (some t) l env = pure false := by
  unfold swapsWith
  cases e <;> first | rfl | (cases t <;> first | rfl | (simp at h))
theorem via_at {q : Nat × List Key} {u : V} {H2 H3 : Hp} (h : AtP att H2 σ q u) (hs : Same H2 H3 ∨ q.2 = []) : AtP att H3 σ q u := by
  obtain ⟨w, e, v⟩ := h
  rcases hs with hs | hs
  · exact ⟨w, e, v.up hs⟩
  · rw [hs] at v
    exact ⟨w, e, by rw [hs]; exact v⟩
theorem lstP_at {q : Nat × List Key} (hC : ClsOk X.K att S) (sr : SR S F H a σ P) (h : lstP q a = true) {u : V} (at_ : AtP att H σ q u) : ∃ p vs, u = .ref p ∧ H p = some (.lst vs) := by
  unfold lstP at h
  split at h
  · rename_i ds e
    obtain ⟨u', P1, at', r⟩ := sr.at_ hC e
    have := at_.inj at'
    subst this
    obtain ⟨p, vs, P', rfl, ep, _⟩ := r.lst_at sr.sub
    exact ⟨p, vs, rfl, ep⟩
  · cases h
theorem s_append {mp me : ME} {o e : Expr} {apos p1 pos : Pos} (hC : ClsOk X.K att S) (ho : PE X o (tP att S (ZW S Wd) G W mp)) (he : PE X e (tEw S Wd G W false me)) (hb : baseOk o = true) (hst : noStar e = true) (hl : (apos.endLine == p1.line) = true) :
    PS X (.Expr (.Call (.Attribute o "append" apos) [e] [] p1) pos) (tSt S Wd G W fix (.append mp me)) :=
  (ps_expr (pe_bm PySem.F.plainAttrs_list PySem.F.slot_list_append PySem.F.type_list_append mt_append ho (pa_cons he pa_nil (star_cons hst)) (base_of hb) (few1 hst) hl (star_cons hst) rfl) rfl).weak fun E σ H h => by
    obtain ⟨F, P, a, sr, out⟩ := h
    simp only [ex] at out
    refine ⟨F, P, a, sr, out.head.imp fun q a1 e1 o1 u F1 H1 Pa1 sr1 ex1 sm1 at1 => ?_⟩
    split at o1
    case isFalse => exact o1.elim
    rename_i hL
    obtain ⟨p0, vs0, rfl, ep0⟩ := lstP_at hC sr1 hL at1
    refine ⟨.inl ⟨rfl, vs0, SqL.of ep0⟩, F1, Pa1, a1, sr1, (o1.head.at ex1).imp fun d a2 e2 o2 v F2 H2 P2 Pa2 ok2 => ?_⟩
    split at o2
    case isFalse => exact o2.elim
    rename_i hp
    obtain ⟨s, es, o4⟩ := o2.of
    obtain ⟨w, p, vs, vs', P', ew, via, ep, ⟨hz, rfl⟩, sr4, sb, ex4⟩ := ok2.sr.write (T := fun vs vs' => vs.length < sizeLine ∧ vs' = vs ++ [v]) hC (ok2.dis rfl) (ok2.fr rfl) es fun e e' hf => by
      cases e <;> first | (simp only [fApp, reduceCtorEq] at hf; done) | skip
      rename_i m ds
      cases m <;> simp only [fApp, reduceCtorEq] at hf
      split at hf
      case isFalse => cases hf
      rename_i hz
      cases hf
      refine ⟨ds, ds ++ [d], rfl, rfl, fun vs Q rs dq => ⟨vs ++ [v], Uni Q P2, ⟨?_, rfl⟩, rs.snoc ok2.rep dq.symm, fun y h => h.elim .inr .inl⟩⟩
      rw [Reps.len rs]; simpa [line] using hz
    have eu : V.ref p0 = .ref p := (via_at at1 (by
      rcases Bool.or_eq_true .. |>.mp hp with h | h
      · exact .inl (ok2.same h)
      · exact .inr (by simpa using h))).inj ⟨w, ew, via⟩
    cases eu
    exact ⟨p0, vs, v, rfl, rfl, ep, hz, o4 σ F2 _ P' sr4 ((ex1.trans (ok2.ext2 rfl)).trans ex4) Fix.rfl'⟩
theorem s_reverse {mp : ME} {o : Expr} {apos p1 pos : Pos} (hC : ClsOk X.K att S) (ho : PE X o (tP att S (ZW S Wd) G W mp)) (hb : baseOk o = true) (hl : (apos.endLine == p1.line) = true) :
    PS X (.Expr (.Call (.Attribute o "reverse" apos) [] [] p1) pos) (tSt S Wd G W fix (.reverse mp)) :=
  (ps_expr (pe_bm0 PySem.F.plainAttrs_list PySem.F.slot_list_reverse PySem.F.type_list_reverse mt_reverse ho (base_of hb) hl) rfl).weak fun E σ H h => by
    obtain ⟨F, P, a, sr, out⟩ := h
    simp only [ex] at out
    refine ⟨F, P, a, sr, out.head.imp fun q a1 e1 o1 u F1 H1 Pa1 sr1 ex1 sm1 at1 => ?_⟩
    split at o1
    case isFalse => exact o1.elim
    rename_i hL
    obtain ⟨p0, vs0, rfl, ep0⟩ := lstP_at hC sr1 hL at1
    obtain ⟨s, es, o4⟩ := o1.of
    obtain ⟨w, p, vs, vs', P', ew, via, ep, rfl, sr4, sb, ex4⟩ := sr1.write (Pd := Emp) (T := fun vs vs' => vs' = vs.reverse) hC emp_dis (fun x h => h.elim) es fun e e' hf => by
      cases e <;> first | (simp only [fRev, reduceCtorEq] at hf; done) | skip
      rename_i m ds
      cases m <;> simp only [fRev, reduceCtorEq, Option.some.injEq] at hf
      subst hf
      exact ⟨ds, ds.reverse, rfl, rfl, fun vs Q rs _ => ⟨vs.reverse, Q, rfl, rs.revP, fun y h => .inr h⟩⟩
    have eu : V.ref p0 = .ref p := at1.inj ⟨w, ew, via⟩
    cases eu
    rw [emp_uni] at ex4
    exact ⟨.inl ⟨rfl, vs0, SqL.of ep0⟩, p0, vs, rfl, rfl, ep, o4 σ F1 _ P' sr4 (ex1.trans ex4) Fix.rfl'⟩
/-- a sequence of values at its end -/
theorem s_extend {mp me : ME} {o e : Expr} {apos p1 pos : Pos} (hC : ClsOk X.K att S) (ho : PE X o (tP att S (ZW S Wd) G W mp)) (he : PE X e (tEw S Wd G W true me)) (hb : baseOk o = true) (hst : noStar e = true) (hl : (apos.endLine == p1.line) = true) :
    PS X (.Expr (.Call (.Attribute o "extend" apos) [e] [] p1) pos) (tSt S Wd G W fix (.extend mp me)) :=
  (ps_expr (pe_bm PySem.F.plainAttrs_list PySem.F.slot_list_extend PySem.F.type_list_extend mt_extend ho (pa_cons he pa_nil (star_cons hst)) (base_of hb) (few1 hst) hl (star_cons hst) rfl) rfl).weak fun E σ H h => by
    obtain ⟨F, P, a, sr, out⟩ := h
    simp only [ex] at out
    refine ⟨F, P, a, sr, out.head.imp fun q a1 e1 o1 u F1 H1 Pa1 sr1 ex1 sm1 at1 => ?_⟩
    split at o1
    case isFalse => exact o1.elim
    rename_i hL
    obtain ⟨p0, vs0, rfl, ep0⟩ := lstP_at hC sr1 hL at1
    refine ⟨.inl ⟨rfl, vs0, SqL.of ep0⟩, F1, Pa1, a1, sr1, (o1.head.at ex1).imp fun d a2 e2 o2 v F2 H2 P2 Pa2 ok2 => ?_⟩
    split at o2
    case isFalse => exact o2.elim
    rename_i hp
    cases d <;> first | exact o2.elim | skip
    rename_i mx xs
    obtain ⟨s, es, o4⟩ := o2.of
    obtain ⟨b, zs, Pz, rfl, eb, rz⟩ := ok2.rep.lst_at ok2.sr.sub
    obtain ⟨w, p, vs, vs', P', ew, via, ep, ⟨hz, rfl⟩, sr4, sb, ex4⟩ := ok2.sr.write (Pd := Emp) (T := fun vs vs' => vs.length + zs.length ≤ sizeLine ∧ vs' = vs ++ zs) hC emp_dis (fun x h => h.elim) es fun e e' hf => by
      cases e <;> first | (simp only [fExt, reduceCtorEq] at hf; done) | skip
      rename_i m ds
      cases m <;> simp only [fExt, reduceCtorEq] at hf
      split at hf
      case isFalse => cases hf
      rename_i hz
      cases hf
      simp only [Bool.and_eq_true, decide_eq_true_eq] at hz
      rw [Reps.still xs rz hz.1] at rz
      refine ⟨ds, ds ++ xs, rfl, rfl, fun vs Q rs dq => ⟨vs ++ zs, Q, ⟨?_, rfl⟩, Reps.appP rz rs, fun y h => .inr h⟩⟩
      rw [Reps.len rs, Reps.len rz]; exact hz.2
    have eu : V.ref p0 = .ref p := (via_at at1 (.inl (ok2.same hp))).inj ⟨w, ew, via⟩
    cases eu
    rw [emp_uni] at ex4
    exact ⟨p0, b, vs, zs, rfl, rfl, ep, eb, hz, o4 σ F2 _ P' sr4 ((ex1.trans ok2.ext).trans ex4) Fix.rfl'⟩
end
end Ab
namespace Ab
open PySem L2
open Classical
variable {S : Sig} {Wd : WX} {Z : L2.St → Nat → Hp → Prop} {fix : List Nat} {F F' H H' : Hp} {P : Fp} {σ : L2.St} {a a' : SA}

section
variable {X : Cx} {G : Env0A} {W : Nat} {att : Nat → Str}
theorem s_setI {mp mi me : ME} {o i e : Expr} {p1 pos : Pos} (hC : ClsOk X.K att S) (ho : PE X o (tP att S (ZW S Wd) G W mp)) (hi : PE X i (tEw S Wd G W true mi)) (he : PE X e (tEw S Wd G W false me))
    (ha : ∀ v, assign (.Subscript o i p1) X.env v = (do
      let ov ← holding [v] (eval o X.env)
      let iv ← holding [v, ov] (eval i X.env)
      standAt p1
      holding [v, ov, iv] (setItem ov iv v)
      release [v, ov, iv] [])) : PS X (.Assign [.Subscript o i p1] e pos) (tSt S Wd G W fix (.setI mp mi me)) :=
  (ps_asg he (pg_sub ho hi set_list ha) (show swapsWithSole [.Subscript o i p1] e pos.line X.env = pure false from sw_other (t := .Subscript o i p1) (l := pos.line) (env := X.env) rfl) rfl rfl).weak fun E σ H h => by
    obtain ⟨F, P, a, sr, out⟩ := h
    simp only [ex] at out
    refine ⟨F, P, a, sr, out.head.imp fun d a1 e1 o1 v F1 H1 P1 Pa1 ok1 => ⟨F1, Pa1, a1, ok1.sr, (o1.head.at ok1.ext).imp fun q a2 e2 o2 u F2 H2 Pa2 sr2 ex2 sm2 at2 => ⟨F2, Pa2, a2, sr2, (o2.head.at (ok1.ext.trans ex2)).imp fun k a3 e3 o3 vk F3 H3 Pk Pa3 ok3 => ?_⟩⟩⟩
    cases k <;> try exact o3.elim
    rename_i k
    simp only at o3
    split at o3
    case isFalse => exact o3.elim
    rename_i hp
    obtain ⟨s, es, o4⟩ := o3.of
    obtain ⟨rfl, _⟩ := rep_int.mp ok3.rep
    have ex23 := ex2.trans ok3.ext
    have held := ok1.rep.held d
    have r3 := ex23.aside ok1.rep (ok1.dis rfl)
    have d3 := ex23.dis (ok1.dis rfl) held
    have f3 := ex23.unf (ok1.dis rfl) held (ok1.fr rfl)
    obtain ⟨w, p, vs, vs', P', ew, via, ep, ⟨j, hj, rfl⟩, sr4, sb, ex4⟩ := ok3.sr.write (T := fun vs vs' => ∃ j, ixN vs.length k = some j ∧ vs' = vs.set j v) hC d3 f3 es fun e e' hf => by
      cases e <;> first | (simp only [fSet, reduceCtorEq] at hf; done) | skip
      rename_i m ds
      cases m <;> simp only [fSet, reduceCtorEq, Option.map_eq_some_iff] at hf
      obtain ⟨j, hj, rfl⟩ := hf
      refine ⟨ds, ds.set j d, rfl, rfl, fun vs Q rs dq => ?_⟩
      have hlt := (ixN_seq hj).2.1
      obtain ⟨x, Q1, Q2, ex', rfl, d12, rx, put⟩ := rs.hole (List.getElem?_eq_getElem hlt)
      exact ⟨vs.set j v, Uni P1 Q2, ⟨j, by rw [Reps.len rs]; exact hj, rfl⟩, put F3 H3 d v P1 (fun _ _ z => z) (fun _ _ => rfl) r3 fun y h1 h2 => dq y h1 (.inr h2), fun y h => h.elim .inl fun z => .inr (.inr z)⟩
    have eu : u = .ref p := (via_at at2 (by
      rcases Bool.or_eq_true .. |>.mp hp with h | h
      · exact .inl (ok3.same h)
      · exact .inr (by simpa using h))).inj ⟨w, ew, via⟩
    subst eu
    have fr := ex23.frame (R := P1)
    rw [uni_comm Pa1 P1, uni_comm Pa3 P1] at fr
    exact ⟨p, vs, k, j, rfl, rfl, ep, hj, o4 σ F3 _ P' sr4 (((ok1.ext2 rfl).trans fr).trans ex4) Fix.rfl'⟩
end
end Ab
namespace Ab
open PySem L2
open Classical
variable {S : Sig} {Wd : WX} {Z : L2.St → Nat → Hp → Prop} {fix : List Nat} {F F' H H' : Hp} {P : Fp} {σ : L2.St} {a a' : SA}

theorem putF_set {f : Str} {y : V} : ∀ {N : List Str} {vs : List V} {j : Nat}, N.Nodup → N[j]? = some f → j < vs.length → putF f y (N.zip vs) = N.zip (vs.set j y)
  | [], vs, j, nd, h, hl => by simp at h
  | x :: N, [], j, nd, h, hl => by simp at hl
  | x :: N, v :: vs, 0, nd, h, hl => by
    simp at h; subst h
    simp [putF]
  | x :: N, v :: vs, j + 1, nd, h, hl => by
    have hx : x ≠ f := fun e => (List.nodup_cons.mp nd).1 (by rw [e]; exact List.mem_of_getElem? (by simpa using h))
    simp only [List.zip_cons_cons, List.set_cons_succ, putF, if_neg hx]
    rw [putF_set (List.nodup_cons.mp nd).2 (by simpa using h) (by simpa using hl)]
theorem putF_app {f : Str} {y : V} : ∀ {N : List Str} {vs : List V}, N.Nodup → N[vs.length]? = some f → putF f y (N.zip vs) = N.zip (vs ++ [y])
  | [], vs, nd, h => by simp at h
  | x :: N, [], nd, h => by
    simp at h; subst h
    simp [putF]
  | x :: N, v :: vs, nd, h => by
    have hx : x ≠ f := fun e => (List.nodup_cons.mp nd).1 (by rw [e]; exact List.mem_of_getElem? (by simpa using h))
    simp only [List.zip_cons_cons, List.cons_append, putF, if_neg hx]
    rw [putF_app (List.nodup_cons.mp nd).2 (by simpa using h)]
section
variable {X : Cx} {G : Env0A} {W : Nat} {att : Nat → Str}
theorem s_setF {oi k : Nat} {me : ME} {x : Str} {e : Expr} {p1 p2 pos : Pos} (hC : ClsOk X.K att S) (hN : X.N[oi]? = some x) (hv : Vis X.env.scope x) (hd : (x == ("__debug__" : Str)) = false) (hcd : (x == ("__classdict__" : Str)) = false) (he : PE X e (tEw S Wd G W false me)) :
    PS X (.Assign [.Attribute (.Name x p1) (att k) p2] e pos) (tSt S Wd G W fix (.setF oi k me)) :=
  (ps_fld (pe_var hN hv hd hcd) he (sw_other (t := .Attribute (.Name x p1) (att k) p2) (l := pos.line) (env := X.env) rfl)).weak fun E σ H h => by
    obtain ⟨F, P, a, sr, out⟩ := h
    simp only [ex] at out
    refine ⟨F, P, a, sr, out.head.imp fun d a1 e1 o1 v F1 H1 P1 Pa1 ok1 => ?_⟩
    obtain ⟨s, es, o4⟩ := o1.of
    obtain ⟨w, u, n, n', R1, R2, ew, via, hf, eP, di, re, up⟩ := ok1.sr.path hC es
    cases via
    cases n <;> first | (simp only [fFld, reduceCtorEq] at hf; done) | skip
    rename_i m c ds
    cases m <;> simp only [fFld, reduceCtorEq, Option.bind_eq_some_iff] at hf
    obtain ⟨j, hj, hf⟩ := hf
    simp only [Rep] at re
    obtain ⟨p, cl, dx, vs, rfl, hc, hl, re⟩ := re
    rw [if_pos trivial] at re
    obtain ⟨ep, _, P', np, rfl, rs⟩ := re
    obtain ⟨k1, k2, k3, k5, k4⟩ := hC.cls c cl hc
    have ef : cl.fields[j]? = some (att k) := by rw [k2, List.getElem?_map, fldIx_at hj]; rfl
    have hvl := Reps.len rs
    have dPa := ok1.dis rfl
    have d1 : Dis P1 P' := fun x h1 h2 => dPa x h1 (by rw [eP]; exact .inl (.inr h2))
    have np1 : ¬ P1 p := fun z => dPa p z (by rw [eP]; exact .inl (.inl rfl))
    -- the fields as they are stored
    obtain ⟨ds', vs', Q', rfl, ez, rs', sb, hl'⟩ : ∃ ds' vs' Q', n' = .ins true c ds' ∧ putF (att k) v (cl.fields.zip vs) = cl.fields.zip vs' ∧ Reps S F1 H1 ds' vs' Q' ∧ (∀ x, Q' x → Uni P1 P' x) ∧ ds'.length ≤ cl.fields.length := by
      split at hf
      · rename_i hlt
        cases hf
        obtain ⟨x0, Q1, Q2, ex', rfl, d12, rx, put⟩ := rs.hole (List.getElem?_eq_getElem hlt)
        exact ⟨_, vs.set j v, Uni P1 Q2, rfl, putF_set k3 ef (by omega), put F1 H1 d v P1 (fun _ _ z => z) (fun _ _ => rfl) ok1.rep fun y h1 h2 => d1 y h1 (.inr h2), fun y h => h.elim .inl fun z => .inr (.inr z), by rw [List.length_set]; exact hl⟩
      · split at hf
        · rename_i _ hje
          cases hf
          refine ⟨_, vs ++ [v], Uni P' P1, rfl, putF_app k3 (by rw [hvl, ← hje]; exact ef), rs.snoc ok1.rep d1.symm, fun y h => h.elim .inr .inl, ?_⟩
          have := (List.getElem?_eq_some_iff.mp ef).1
          rw [List.length_append, List.length_singleton]
          omega
        · cases hf
    have nQ : ¬ Q' p := fun z => (sb p z).elim np1 np
    have n2 : ¬ R2 p := fun z => di p (.inl rfl) z
    have rl : Rep S F1 (upd H1 p (.ins cl.addr dx (cl.fields.zip vs'))) (.ins true c ds') (.ref p) (Uni (fun x => x = p) Q') := by
      simp only [Rep]
      refine ⟨p, cl, dx, vs', rfl, hc, hl', ?_⟩
      rw [if_pos trivial]
      exact ⟨upd_same, .inl rfl, Q', nQ, rfl, Reps.keep (fun _ _ z => z) _ rs' fun x hx => upd_ne fun z => nQ (z ▸ hx)⟩
    have d2 : Dis (Uni (fun x => x = p) Q') R2 := Dis.uni (fun x h1 h2 => by have h1 : x = p := h1; rw [h1] at h2; exact n2 h2) fun x h1 h2 => (sb x h1).elim (fun z => dPa x z (by rw [eP]; exact .inr h2)) fun z => di x (.inr z) h2
    have rS := up F1 (upd H1 p (.ins cl.addr dx (cl.fields.zip vs'))) _ (fun _ _ z => z) (fun x hx => upd_ne fun z => n2 (z ▸ hx)) rl d2
    have sbA : ∀ x, Uni (Uni (fun x => x = p) Q') R2 x → Uni P1 Pa1 x := fun x h => by
      rw [eP]
      rcases h with (h | h) | h
      · exact .inr (.inl (.inl h))
      · exact (sb x h).elim .inl fun z => .inr (.inl (.inr z))
      · exact .inr (.inr h)
    have pin : Uni P1 Pa1 p := by rw [eP]; exact .inr (.inl (.inl rfl))
    have hFp : F1 p = none := ok1.sr.fr p (by rw [eP]; exact .inl (.inl rfl))
    have sr4 : SR S F1 (upd H1 p (.ins cl.addr dx (cl.fields.zip vs'))) s σ (Uni (Uni (fun x => x = p) Q') R2) := ⟨rS, fun x h => (sbA x h).elim (ok1.fr rfl x) (ok1.sr.fr x), fun x q e => by
      rw [upd_ne (show x ≠ p from fun z => by rw [z, hFp] at e; cases e)]
      exact ok1.sr.sub x q e⟩
    refine ⟨_, ew, p, cl.addr, dx, _, rfl, ep, k1, k4 _ (List.mem_of_getElem? ef), ?_, ?_⟩
    · rw [List.length_zip]; omega
    · rw [ez]
      exact o4 σ F1 _ _ sr4 ((ok1.ext2 rfl).trans ((Ext.updIn pin).less sbA)) Fix.rfl'
theorem flat_rep {d : D} {v : V} (h : flat d = true) (r : Rep S F H d v P) : ∀ F' H', Rep S F' H' d v Emp := fun F' H' => by
  cases d <;> simp only [flat, Bool.false_eq_true] at h <;> (simp only [Rep] at r ⊢; exact ⟨r.1, trivial⟩)
theorem s_augI0 {i : Nat} {o : Op2} {op : Operator} {g : Int → Int → Int} {x : Str} {me : ME} {e : Expr} {p pos : Pos} (hop : PIp X op (ipI g)) (hg : ∀ a b d, augD o a b = some d → ∃ i j, a = .int i ∧ b = .int j ∧ d = .int (g i j)) (hN : X.N.Nodup) (hi : X.N[i]? = some x) (hx : Loc X.env.scope x) (hf : X.fn x = true ∨ X.env.scope.names.lookup x = some .local) (he : PE X e (tEw S Wd G W true me)) :
    PS X (.AugAssign (.Name x p) op e pos) (tSt S Wd G W fix (.aug i o me)) := (ps_aug hN hi hx he hop hf).weak fun E σ H h => by
  obtain ⟨F, P, a, sr, out⟩ := h
  simp only [ex] at out
  split at out
  · exact out.elim
  rename_i hfx
  split at out
  case h_2 => exact out.elim
  rename_i d1 ed
  split at out
  case isFalse => exact out.elim
  rename_i hfl
  obtain ⟨w, P1, P2, e1, e2, di, r, _, _⟩ := sr.rep.focus (rd_some ed)
  refine ⟨w, e1, F, P, a, sr, out.head.imp fun d2 a1 e3 o1 v F1 H1 P3 Pa1 ok1 => ?_⟩
  split at o1
  case h_2 => exact o1.elim
  rename_i d ed2
  obtain ⟨i1, j1, rfl, rfl, rfl⟩ := hg _ _ _ ed2
  obtain ⟨rfl, _⟩ := rep_int.mp r
  obtain ⟨rfl, _⟩ := rep_int.mp ok1.rep
  refine ⟨i1, j1, rfl, rfl, ?_⟩
  obtain ⟨P4, sr4, sb⟩ := ok1.sr.asg (i := i) (d := .int (g i1 j1)) (v := .int (g i1 j1)) (Pd := Emp) (rep_int.mpr ⟨rfl, rfl⟩) emp_dis fun x h => h.elim
  exact o1 _ F1 H1 P4 sr4 (ok1.ext.less fun x h => (sb x h).elim (fun z => z.elim) id) (Fix.set (notFix (by simpa using hfx)))
theorem s_augAdd {i : Nat} {x : Str} {me : ME} {e : Expr} {p pos : Pos} (hN : X.N.Nodup) (hi : X.N[i]? = some x) (hx : Loc X.env.scope x) (hf : X.fn x = true ∨ X.env.scope.names.lookup x = some .local) (he : PE X e (tEw S Wd G W true me)) : PS X (.AugAssign (.Name x p) .Add e pos) (tSt S Wd G W fix (.aug i .add me)) :=
  s_augI0 ip_add (fun a b d h => by
    cases a <;> first | (simp only [augD, reduceCtorEq] at h; done) | skip
    cases b <;> simp only [augD, reduceCtorEq, Option.some.injEq] at h
    exact ⟨_, _, rfl, rfl, h.symm⟩) hN hi hx hf he
theorem s_augSub {i : Nat} {x : Str} {me : ME} {e : Expr} {p pos : Pos} (hN : X.N.Nodup) (hi : X.N[i]? = some x) (hx : Loc X.env.scope x) (hf : X.fn x = true ∨ X.env.scope.names.lookup x = some .local) (he : PE X e (tEw S Wd G W true me)) : PS X (.AugAssign (.Name x p) .Sub e pos) (tSt S Wd G W fix (.aug i .sub me)) :=
  s_augI0 ip_sub (fun a b d h => by
    cases a <;> first | (simp only [augD, reduceCtorEq] at h; done) | skip
    cases b <;> simp only [augD, reduceCtorEq, Option.some.injEq] at h
    exact ⟨_, _, rfl, rfl, h.symm⟩) hN hi hx hf he
end
end Ab
namespace Ab
open PySem L2
open Classical
variable {S : Sig} {F F' H H' : Hp} {P : Fp} {σ : L2.St} {a a' : SA}

theorem RepS.blank : ∀ n : Nat, RepS S F H (List.replicate n none) (List.replicate n none) Emp
  | 0 => ⟨rfl, rfl⟩
  | n + 1 => ⟨none, _, rfl, RepS.blank n⟩
theorem RepS.ofReps (n : Nat) : ∀ {ds : List D} {vs : List V} {P : Fp}, Reps S F H ds vs P → RepS S F H (ds.map some ++ List.replicate n none) (vs.map some ++ List.replicate n none) P
  | [], vs, P, r => by
    simp only [Reps] at r
    obtain ⟨rfl, rfl⟩ := r
    exact RepS.blank n
  | d :: ds, vs, P, r => by
    simp only [Reps] at r
    obtain ⟨v, vr, P1, P2, rfl, rfl, di, r1, r2⟩ := r
    exact ⟨v, _, P1, P2, rfl, rfl, di, r1, RepS.ofReps n r2⟩
theorem mvals_eq {s : SA} : ∀ is : List Nat, mvals s is = mvD is s
  | [] => rfl
  | i :: is => by simp only [mvals, mvD, mvals_eq is]
theorem slots_start {vs : List V} {n : Nat} {σ' : L2.St} : ∀ {is : List Nat} {ws : List V}, (∀ i ∈ is, i < vs.length ∧ σ'[i]? = (vs.map some ++ List.replicate n none)[i]?) → slotVs σ' is ws → slotVs (vs.map some) is ws
  | [], ws, h, sv => sv
  | i :: is, ws, h, sv => by
    obtain ⟨v, r, rfl, e, sv⟩ := sv
    obtain ⟨h1, h2⟩ := h i List.mem_cons_self
    refine ⟨v, r, rfl, ?_, slots_start (fun j hj => h j (List.mem_cons_of_mem _ hj)) sv⟩
    rw [← e, h2, List.getElem?_append_left (by simpa using h1)]
/-- a def keeps its promise: what the evaluator says -/
theorem fn_ok {Pg : Program} {w : World} {K : PySem.W.Frag} {mg : Str → Option Value} {base : Heap} {x qual : Str} {st : Stmt} {fa : Addr} {fd : FuncData} {N ps : List Str} {k : Nat} {G : Env0A} {W : Nat} {f : MF}
    (Fu : Fun K x qual st fa fd) (Sc : FnScope N ps (defScope st)) (hp : f.np = ps.length) (hn : f.ns = N.length) (nd : nodupB f.fix = true) (hf : ∀ i ∈ f.fix, i < f.np)
    (hb : ∀ (cdv : Value) (A : Around) (outer : List Env) (s : Shared) (H : Hp) (E : XK), Room k (A.deeper (PyProof.Rows.envOfC qual (defScope st) s.heap.objs.size fa cdv)) →
      PSs (cxOf (L2.CX Pg w) Pg w K mg base N qual (defScope st) fa cdv A outer s H E) (defBody st) (tSs S (fun cls d _ H => E cls d H) G W f.fix f.body)) :
    FnOk Pg w K mg base (L2.CX Pg w) (k + 1) fa fd ps (spA S f.fix (runF G W f)) := by
  have key : ∀ {vs : List V} {H : Hp} {Q : VK} {E : XK}, spA S f.fix (runF G W f) vs H Q E → ∃ F ds P, Reps S F H ds vs P ∧ (∀ x, P x → F x = none) ∧ Same F H ∧ vs.length = f.np ∧ RzOk S F H P f.fix vs Q E (resOf f.fix (exs G W f.fix f.body (ds.map some ++ List.replicate (f.ns - f.np) none))) := fun {vs H Q E} h => by
    obtain ⟨F, ds, P, r, fr, sub, rz⟩ := h
    unfold runF at rz
    split at rz
    · rename_i hl
      exact ⟨F, ds, P, r, fr, sub, by rw [Reps.len r, hl], rz⟩
    · exact rz.elim
  refine Fu.okX Sc (fun vs H Q E h => ?_) fun cdv A outer s H vs Q E hr h => ?_
  · obtain ⟨_, _, _, _, _, _, hl, _⟩ := key h
    rw [hl, hp]
  · obtain ⟨F, ds, P, r, fr, sub, hl, rz⟩ := key h
    have est : L2.start N vs = vs.map some ++ List.replicate (f.ns - f.np) none := by unfold L2.start; rw [hn, hl]
    rw [est]
    refine ⟨_, hb cdv A outer s H E hr, F, P, _, ⟨RepS.ofReps (f.ns - f.np) r, fr, sub⟩, ?_⟩
    have back : ∀ {s' : SA} {ms : List D} {σ' : L2.St} {F' H' : Hp} {Pa : Fp}, mvals s' f.fix = some ms → SR S F' H' s' σ' Pa → Fix f.fix (vs.map some ++ List.replicate (f.ns - f.np) none) σ' → ∃ ws Pm, slotVs (vs.map some) f.fix ws ∧ Reps S F' H' ms ws Pm ∧ ∀ x, Pm x → Pa x := fun {s' ms σ' F' H' Pa} em sr fx => by
      rw [mvals_eq] at em
      obtain ⟨ws, Pm, Pr, sv, rm, _, eP, _⟩ := sr.rep.out nd em
      exact ⟨ws, Pm, slots_start (fun i hi => ⟨by rw [hl]; exact hf i hi, fx i hi⟩) sv, rm, fun x h => by rw [eP]; exact .inl h⟩
    generalize exs G W f.fix f.body (ds.map some ++ List.replicate (f.ns - f.np) none) = out at rz
    cases out with
    | bad => exact rz.elim
    | bk s' => exact rz.elim
    | ct s' => exact rz.elim
    | nx s' =>
      intro σ' F' H' Pa sr ex fx
      simp only [resOf] at rz
      split at rz
      case h_2 => exact rz.elim
      rename_i ms em
      obtain ⟨ws, Pm, sv, rm, sb⟩ := back em sr fx
      refine rz .non ws F' H' Emp Pm sv (rep_non.mpr ⟨rfl, rfl⟩) rm emp_dis (fun x h => h.elim (fun z => z.elim) fun z => sr.fr x (sb x z)) sr.sub (ex.less fun x h => h.elim (fun z => z.elim) (sb x))
    | rt d s' =>
      intro v σ' F' H' Pd Pa rd' sr ex di frd fx
      simp only [resOf] at rz
      split at rz
      case h_2 => exact rz.elim
      rename_i ms em
      obtain ⟨ws, Pm, sv, rm, sb⟩ := back em sr fx
      exact rz v ws F' H' Pd Pm sv rd' rm (fun x h1 h2 => di x h1 (sb x h2)) (fun x h => h.elim (frd x) fun z => sr.fr x (sb x z)) sr.sub (ex.less fun x h => h.elim .inl fun z => .inr (sb x z))
    | rz c s' =>
      intro σ' F' H' Pa sr ex fx
      simp only [resOf] at rz
      split at rz
      case h_2 => exact rz.elim
      rename_i ms em
      obtain ⟨ws, Pm, sv, rm, sb⟩ := back em sr fx
      exact rz ws F' H' Pm sv rm (fun x h => sr.fr x (sb x h)) sr.sub (ex.less sb)
/-- around a def's body -/
theorem takes_def {Pg : Program} {w : World} {K : PySem.W.Frag} {mg : Str → Option Value} {base : Heap} {N : List Str} {qual : Str} {sc : Scope} {fa : Addr} {cdv : Value} {A : Around} {outer : List Env} {s : Shared} {H : Hp} {E : XK} :
    Takes (cxOf (L2.CX Pg w) Pg w K mg base N qual sc fa cdv A outer s H E) (fun cls d _ H => E cls d H) := fun u s' x => by
  exact XE.leave (W := fun cls d _ H => E cls d H) (E := E) rfl rfl rfl (fun _ _ _ _ h => h) x
section
variable {X : Cx} {G : Env0A} {W : Nat} {Wd : WX} {fix : List Nat}
/-- name = [..] on one line -/
theorem s_setLc {i own : Nat} {y z : Str} {py : Pos} {elt : ME} {it : MI} {t : MTo} {e tg iter : Expr} {ifs : List Expr} {scope : Scope} {pos spos : Pos} (hc : X.calm = true) (hN : X.N.Nodup) (hy : X.N[i]? = some y) (hyl : X.env.scope.names.lookup y = some .local)
    (hsw : swapsWith (.ListComp e [⟨tg, iter, ifs, 0⟩] scope pos) (some (.Name y py)) spos.line X.env = pure true) (hi : PI X tg iter (tIt S (ZW S Wd) G W it)) (ok : BlkOk X.N X.env.scope scope [(z, own)])
    (hg : ∀ (s : Shared) (H : Hp) (C : Addr) (cl : List (Str × Addr)) (fp : List Addr), PG (X.blk s H scope (compEnvC scope cl C X.env) fp) tg (gName own)) (ht : ∀ (s : Shared) (H : Hp) (C : Addr) (cl : List (Str × Addr)) (fp : List Addr), PTs (X.blk s H scope (compEnvC scope cl C X.env) fp) ifs (tTo S G W t))
    (he : ∀ (s : Shared) (H : Hp) (C : Addr) (cl : List (Str × Addr)) (fp : List Addr), PE (X.blk s H scope (compEnvC scope cl C X.env) fp) e (tE S Z0 G W false elt)) (hs : ∀ x, foldedSetIterable iter X.env x = pure x) :
    PS X (.Assign [.Name y py] (.ListComp e [⟨tg, iter, ifs, 0⟩] scope pos) spos) (tSt S Wd G W fix (.asg i (.comp own elt it t))) :=
  (ps_setLc hc hN hy hyl hsw hi ok hg ht he hs).weak fun E σ H h => lc_ok (v := false) (asg_rd h)
theorem t_none : PTs X [] (tTo S G W .none) := ⟨fun pins s σ H Q I h => pts_nil.run pins s σ H Q I (by
  obtain ⟨F, P, a, sr, o⟩ := h
  exact o F H P sr .refl fun _ _ _ z => z)⟩
theorem t_some {t : MT} {c : Expr} (h : PT X c (tT S Z0 G W t)) : PTs X [c] (tTo S G W (.some t)) := pts_one h
end
end Ab
/-! Ab33: the rules as the printed terms use them: the side conditions by default. -/
namespace Ab
open PySem L2
/-- what a body's context is known to be -/
structure Ctx (X : Cx) (S : Sig) (att : Nat → Str) (k : Nat) (Wd : WX) : Prop where
  hK : S.K = X.K
  hC : ClsOk X.K att S
  room : Room k X.A
  nd : X.N.Nodup
  calm : X.calm = true
  tk : Takes X Wd
theorem Ctx.hu {X : Cx} {S : Sig} {att : Nat → Str} {k : Nat} {Wd : WX} (c : Ctx X S att k Wd) : X.A.units + 65 < cLine := by have := c.room.un; omega
/-- a def that is ready to be called -/
structure LibFn (P : Program) (w : World) (K : PySem.W.Frag) (mg : Str → Option Value) (base : Heap) (S : Sig) (fix : List Nat) (g : Callee) (k : Nat) (x : Str) : Prop where
  ex : ∃ (f : Addr) (fd : FuncData) (ps : List Str), mg x = some (.ref f) ∧ PySem.W.keepIn K (.ref f) = true ∧ FnOk P w K mg base (L2.CX P w) k f fd ps (spA S fix g) ∧ Binds K fd ps []
/-- a class that is ready to be made -/
structure LibCls (P : Program) (w : World) (K : PySem.W.Frag) (mg : Str → Option Value) (base : Heap) (S : Sig) (ci : Nat) (g : Callee) (k : Nat) (x : Str) : Prop where
  ex : ∃ (cl : Cl) (f : Addr) (fd : FuncData) (ps : List Str), S.cls ci = some cl ∧ mg x = some (.ref cl.addr) ∧ Mk K cl.addr f ∧ FnOk P w K mg base (L2.CX P w) k f fd ps (spA S [0] g) ∧ Binds K fd ps []
section
variable {X : Cx} {S : Sig} {att : Nat → Str} {k : Nat} {Wd : WX} {G : Env0A} {W : Nat} {Z : L2.St → Nat → Hp → Prop} {fix : List Nat}
theorem k_slot (i : Nat) {x : Str} {pos : Pos} {v : Bool} (hN : X.N[i]? = some x := by rfl) (hv : Vis X.env.scope x := by first | exact Or.inl rfl | exact Or.inr (Or.inl rfl) | exact Or.inr (Or.inr rfl)) (hd : (x == ("__debug__" : Str)) = false := by decide)
    (hcd : (x == ("__classdict__" : Str)) = false := by decide) : PE X (.Name x pos) (tE S Z G W v (.slot i)) := c_slot hN hv hd hcd
theorem k_int {i : Int} {j : Nat} {p : Pos} {v : Bool} : PE X (.Constant (.int i) j p) (tE S Z G W v (.int i)) := c_flat (d := .int i) pe_int (fun _ => rfl) (fun F H => rep_int.mpr ⟨rfl, rfl⟩) rfl
theorem k_bl {i : Bool} {j : Nat} {p : Pos} {v : Bool} : PE X (.Constant (.bool i) j p) (tE S Z G W v (.bl i)) := c_flat (d := .bl i) pe_bl (fun _ => rfl) (fun F H => rep_bl.mpr ⟨rfl, rfl⟩) rfl
theorem k_non {j : Nat} {p : Pos} {v : Bool} : PE X (.Constant .none j p) (tE S Z G W v .non) := c_flat (d := .non) pe_non (fun _ => rfl) (fun F H => rep_non.mpr ⟨rfl, rfl⟩) rfl
theorem k_glob {i : Int} {x : Str} {p : Pos} {v : Bool} (hm : ∃ t, X.mg x = some (.int i t)) (hg : Gl X x := by rfl) (hd : (x == ("__debug__" : Str)) = false := by decide) : PE X (.Name x p) (tE S Z G W v (.glob x i)) :=
  let ⟨t, e⟩ := hm
  c_flat (d := .int i) (pe_glob (v := .int i) hg e ⟨t, rfl⟩ hd) (fun _ => rfl) (fun F H => rep_int.mpr ⟨rfl, rfl⟩) rfl
theorem k_bin (o : Op2) {ea eb : ME} {x y : Expr} {pos : Pos} {v : Bool} (ha : PE X x (tE S Z G W true ea)) (hb : PE X y (tE S Z G W true eb)) : PE X (.BinOp x (opO o) y pos) (tE S Z G W v (.bin o ea eb)) := c_bin ha hb
theorem k_un (o : Un) {ea : ME} {x : Expr} {pos : Pos} {v : Bool} (ha : PE X x (tE S Z G W true ea)) : PE X (.UnaryOp (opU o) x pos) (tE S Z G W v (.un o ea)) := c_un ha
theorem k_cmp (o : Cmp) (c : Ctx X S att k Wd) {ea eb : ME} {x y : Expr} {pos : Pos} {v : Bool} (ha : PE X x (tE S Z G W true ea)) (hb : PE X y (tE S Z G W true eb)) (hm : behindInMarks (opC o) y = false := by rfl) : PE X (.Compare x [opC o] [y] pos) (tE S Z G W v (.cmp o ea eb)) :=
  c_cmpO (cmp_ok c.hK c.hu o) hm ha hb
theorem k_chain (o o2 : Cmp) (c : Ctx X S att k Wd) {ea eb ed : ME} {x y z : Expr} {pos : Pos} {v : Bool} (ha : PE X x (tE S Z G W true ea)) (hb : PE X y (tE S Z G W true eb)) (hd : PE X z (tE S Z G W true ed)) (hm : lastMarks [opC o, opC o2] [y, z] = false := by rfl) :
    PE X (.Compare x [opC o, opC o2] [y, z] pos) (tE S Z G W v (.chain o o2 ea eb ed)) := c_chain (cmp_ok c.hK c.hu o) (cmp_ok c.hK c.hu o2) hm ha hb hd
theorem kt_cmp (o : Cmp) (c : Ctx X S att k Wd) {ea eb : ME} {x y : Expr} {pos : Pos} (ha : PE X x (tE S Z G W true ea)) (hb : PE X y (tE S Z G W true eb)) (hm : behindInMarks (opC o) y = false := by rfl) : PT X (.Compare x [opC o] [y] pos) (tT S Z G W (.cmp o ea eb)) :=
  t_cmp (cmp_ok c.hK c.hu o) hm ha hb
theorem kt_chain (o o2 : Cmp) (c : Ctx X S att k Wd) {ea eb ed : ME} {x y z : Expr} {pos : Pos} (ha : PE X x (tE S Z G W true ea)) (hb : PE X y (tE S Z G W true eb)) (hd : PE X z (tE S Z G W true ed)) (hm : lastMarks [opC o, opC o2] [y, z] = false := by rfl) :
    PT X (.Compare x [opC o, opC o2] [y, z] pos) (tT S Z G W (.chain o o2 ea eb ed)) := t_chain (cmp_ok c.hK c.hu o) (cmp_ok c.hK c.hu o2) hm ha hb hd
theorem kt_val {ea : ME} {x : Expr} (ha : PE X x (tE S Z G W true ea)) (he : ∀ whole, isTrue x X.env whole = (do let v ← whole; standAt x.pos; holding [v] (truthy v)) := by intro _; rfl) : PT X x (tT S Z G W (.val ea)) := t_val ha he
theorem k_cons {e : Expr} {es : List Expr} {me : ME} {mes : MEs} (he : PE X e (tE S Z G W false me)) (hs : PA X es (tEs S Z G W mes)) (hst : noStar e = true := by rfl) : PA X (e :: es) (tEs S Z G W (.cons me mes)) := c_cons he hs (star_cons hst)
theorem k_sub (c : Ctx X S att k Wd) {ea ei : ME} {x i : Expr} {pos : Pos} {v : Bool} (ha : PE X x (tE S Z G W true ea)) (hi : PE X i (tE S Z G W true ei)) (hp : PlainIx i := by intro _ _; rfl) : PE X (.Subscript x i pos) (tE S Z G W v (.sub ea ei)) := c_sub c.hK ha hi hp
theorem k_fld (c : Ctx X S att k Wd) {ea : ME} {j : Nat} {x : Expr} {pos : Pos} {v : Bool} (ha : PE X x (tE S Z G W true ea)) (hb : baseOk x = true := by rfl) : PE X (.Attribute x (att j) pos) (tE S Z G W v (.fld ea j)) := c_fld c.hC (base_of hb) ha
theorem k_len (c : Ctx X S att k Wd) {ea : ME} {x : Expr} {p pos : Pos} {v : Bool} (hm : X.mg "len" = none) (ha : PE X x (tE S Z G W true ea)) (hg : Gl X "len" := by rfl) (hst : noStar x = true := by rfl) : PE X (.Call (.Name "len" p) [x] [] pos) (tE S Z G W v (.bi1 .len ea)) :=
  c_callB1 (len_ok c.hK) hg hm (by decide +kernel) (by decide) (by decide) (star_cons hst) ha
theorem k_list (c : Ctx X S att k Wd) {ea : ME} {x : Expr} {p pos : Pos} {v : Bool} (hm : X.mg "list" = none) (ha : PE X x (tE S Z G W true ea)) (hg : Gl X "list" := by rfl) (hst : noStar x = true := by rfl) : PE X (.Call (.Name "list" p) [x] [] pos) (tE S Z G W v (.bi1 .list ea)) :=
  c_callT1 (list_ok c.hK) hg hm (by decide +kernel) (by decide) (by decide) (star_cons hst) ha
theorem k_tuple (c : Ctx X S att k Wd) {ea : ME} {x : Expr} {p pos : Pos} {v : Bool} (hm : X.mg "tuple" = none) (ha : PE X x (tE S Z G W true ea)) (hg : Gl X "tuple" := by rfl) (hst : noStar x = true := by rfl) : PE X (.Call (.Name "tuple" p) [x] [] pos) (tE S Z G W v (.bi1 .tuple ea)) :=
  c_callT1 (tuple_ok c.hK) hg hm (by decide +kernel) (by decide) (by decide) (star_cons hst) ha
theorem k_intF {ea : ME} {x : Expr} {p pos : Pos} {v : Bool} (hm : X.mg "int" = none) (ha : PE X x (tE S Z G W true ea)) (hg : Gl X "int" := by rfl) (hst : noStar x = true := by rfl) : PE X (.Call (.Name "int" p) [x] [] pos) (tE S Z G W v (.bi1 .int ea)) :=
  c_callT1 int_ok hg hm (by decide +kernel) (by decide) (by decide) (star_cons hst) ha
theorem k_call (c : Ctx X S att k Wd) {fi j : Nat} {g : Callee} {as : MAs} {fx : List Nat} {x : Str} {p pos : Pos} {es : List Expr} {v : Bool} (L : LibFn X.prog X.w X.K X.mg X.base S fx g j x) (hG : G fi = some g) (ha : PA X es (tAVs S (ZW S Wd) G W as)) (hj : j ≤ k := by decide) (hp : posA 0 as = fx := by rfl) (hg : Gl X x := by rfl)
    (hdb : (x == ("__debug__" : Str)) = false := by decide) (hs : es.all noStar = true := by rfl) (hz : es = [] → as = .nil := by first | exact fun h => nomatch h | exact fun _ => rfl) : PE X (.Call (.Name x p) es [] pos) (tE S (ZW S Wd) G W v (.call fi as)) := by
  obtain ⟨f, fd, ps, hm, hk, F, hb⟩ := L.ex
  subst hp
  exact c_call hG c.tk F (c.room.mono hj) hg hm hk hb hdb hs hz ha
theorem k_rd {e : Expr} {es : List Expr} {me : ME} {as : MAs} (he : PE X e (tE S Z G W false me)) (hs : PA X es (tAVs S Z G W as)) (hst : noStar e = true := by rfl) : PA X (e :: es) (tAVs S Z G W (.cons (.rd me) as)) := a_rd he hs (star_cons hst)
theorem k_bor (i : Nat) {x : Str} {pos : Pos} {es : List Expr} {as : MAs} (hs : PA X es (tAVs S Z G W as)) (hN : X.N[i]? = some x := by rfl) (hv : Vis X.env.scope x := by first | exact Or.inl rfl | exact Or.inr (Or.inl rfl) | exact Or.inr (Or.inr rfl)) (hd : (x == ("__debug__" : Str)) = false := by decide) (hcd : (x == ("__classdict__" : Str)) = false := by decide) :
    PA X (.Name x pos :: es) (tAVs S Z G W (.cons (.bor i) as)) := a_slot (.inl rfl) hN hv hd hcd hs rfl
theorem k_mv (i : Nat) {x : Str} {pos : Pos} {es : List Expr} {as : MAs} (hs : PA X es (tAVs S Z G W as)) (hN : X.N[i]? = some x := by rfl) (hv : Vis X.env.scope x := by first | exact Or.inl rfl | exact Or.inr (Or.inl rfl) | exact Or.inr (Or.inr rfl)) (hd : (x == ("__debug__" : Str)) = false := by decide) (hcd : (x == ("__classdict__" : Str)) = false := by decide) :
    PA X (.Name x pos :: es) (tAVs S Z G W (.cons (.mv i) as)) := a_slot (.inr rfl) hN hv hd hcd hs rfl
-- statements
theorem ks_asg (c : Ctx X S att k Wd) (i : Nat) {x : Str} {me : ME} {e : Expr} {p pos : Pos} (he : PE X e (tEw S Wd G W false me)) (hi : X.N[i]? = some x := by rfl) (hx : Loc X.env.scope x := by first | exact Or.inl rfl | exact Or.inr rfl) (hf : X.fn x = true ∨ X.env.scope.names.lookup x = some .local := by first | exact .inl rfl | exact .inr rfl)
    (hs : swapsWith e (some (.Name x p)) pos.line X.env = pure false := by rfl) : PS X (.Assign [.Name x p] e pos) (tSt S Wd G W fix (.asg i me)) := s_asg c.nd hi hx hf hs he
theorem ks_retS (i : Nat) {x : Str} {p pos : Pos} (hN : X.N[i]? = some x := by rfl) (hv : Vis X.env.scope x := by first | exact Or.inl rfl | exact Or.inr (Or.inl rfl) | exact Or.inr (Or.inr rfl)) (hd : (x == ("__debug__" : Str)) = false := by decide) (hcd : (x == ("__classdict__" : Str)) = false := by decide) :
    PS X (.Return (some (.Name x p)) pos) (tSt S Wd G W fix (.ret (.slot i))) := s_retS hN hv hd hcd
theorem ks_ret {me : ME} {e : Expr} {pos : Pos} (he : PE X e (tEw S Wd G W false me)) (hn : slotOf me = none := by rfl) : PS X (.Return (some e) pos) (tSt S Wd G W fix (.ret me)) := s_ret hn he
theorem kg_name (c : Ctx X S att k Wd) (i : Nat) {x : Str} {p : Pos} (hi : X.N[i]? = some x := by rfl) (hx : Loc X.env.scope x := by first | exact Or.inl rfl | exact Or.inr rfl) (hf : X.fn x = true ∨ X.env.scope.names.lookup x = some .local := by first | exact .inl rfl | exact .inr rfl) : PG X (.Name x p) (tG X.K (.name i)) := pg_name c.nd hi hx hf
theorem ks_for (c : Ctx X S att k Wd) (hp : PassesOwn (model X.prog X.w) X.A X.env X.xe) {g : MG} {it : MI} {mb : MSs} {tg iter : Expr} {body : List Stmt} {pos : Pos} (hg : PG X tg (tG X.K g)) (hi : PI X tg iter (tIt S (ZW S Wd) G W it)) (hb : ∀ fx, PSs X body (tSs S Wd G W fx mb))
    (hs : ∀ x, foldedSetIterable iter X.env x = pure x := by intro _; rfl) : PS X (.For tg iter body [] pos) (tSt S Wd G W fix (.forr g it mb)) := s_for hp c.calm hi hg hb hs
theorem ki_r1 {e : Expr} {me : ME} {tg : Expr} {p pos : Pos} (hm : X.mg "range" = none) (he : PE X e (tE S Z G W true me)) (hg : Gl X "range" := by rfl) (hst : noStar e = true := by rfl) : PI X tg (.Call (.Name "range" p) [e] [] pos) (tIt S Z G W (.r1 me)) := c_r1 hg hm (star_cons hst) he
theorem ki_slot (i : Nat) {x : Str} {tg : Expr} {pos : Pos} (hN : X.N[i]? = some x := by rfl) (hv : Vis X.env.scope x := by first | exact Or.inl rfl | exact Or.inr (Or.inl rfl) | exact Or.inr (Or.inr rfl)) (hd : (x == ("__debug__" : Str)) = false := by decide) (hcd : (x == ("__classdict__" : Str)) = false := by decide) :
    PI X tg (.Name x pos) (tIt S Z G W (.of (.slot i))) := c_ofS hN hv hd hcd
end
end Ab
namespace Ab
open PySem L2
section
variable {X : Cx} {S : Sig} {att : Nat → Str} {k : Nat} {Wd : WX} {G : Env0A} {W : Nat} {Z : L2.St → Nat → Hp → Prop} {fix : List Nat}
theorem k_and {ea eb : ME} {x y : Expr} {r : List Expr} {pos : Pos} {v : Bool} (ha : PE X x (tE S Z G W true ea)) (hb : PE X (.BoolOp .And (y :: r) pos) (tE S Z G W true eb)) : PE X (.BoolOp .And (x :: y :: r) pos) (tE S Z G W v (.and2 ea eb)) := c_and2 ha hb
theorem k_or {ea eb : ME} {x y : Expr} {r : List Expr} {pos : Pos} {v : Bool} (ha : PE X x (tE S Z G W true ea)) (hb : PE X (.BoolOp .Or (y :: r) pos) (tE S Z G W true eb)) : PE X (.BoolOp .Or (x :: y :: r) pos) (tE S Z G W v (.or2 ea eb)) := c_or2 ha hb
theorem k_isN {ea : ME} {x : Expr} {pos pos' : Pos} {j : Nat} {v : Bool} (ha : PE X x (tE S Z G W true ea)) : PE X (.Compare x [.Is] [.Constant .none j pos'] pos) (tE S Z G W v (.isn false ea)) := c_isn (n := false) ha
theorem k_isnotN {ea : ME} {x : Expr} {pos pos' : Pos} {j : Nat} {v : Bool} (ha : PE X x (tE S Z G W true ea)) : PE X (.Compare x [.IsNot] [.Constant .none j pos'] pos) (tE S Z G W v (.isn true ea)) := c_isn (n := true) ha
theorem kt_isN {ea : ME} {x : Expr} {pos pos' : Pos} {j : Nat} (ha : PE X x (tE S Z G W true ea)) : PT X (.Compare x [.Is] [.Constant .none j pos'] pos) (tT S Z G W (.isn false ea)) := t_isn (n := false) ha
theorem kt_isnotN {ea : ME} {x : Expr} {pos pos' : Pos} {j : Nat} (ha : PE X x (tE S Z G W true ea)) : PT X (.Compare x [.IsNot] [.Constant .none j pos'] pos) (tT S Z G W (.isn true ea)) := t_isn (n := true) ha
theorem k_sorted (c : Ctx X S att k Wd) {ea : ME} {x : Expr} {p pos : Pos} {v : Bool} (hm : X.mg "sorted" = none) (ha : PE X x (tE S Z G W true ea)) (hg : Gl X "sorted" := by rfl) (hst : noStar x = true := by rfl) : PE X (.Call (.Name "sorted" p) [x] [] pos) (tE S Z G W v (.bi1 .sorted ea)) :=
  c_callB1 (sorted_ok c.hK c.hu) hg hm (by decide +kernel) (by decide) (by decide) (star_cons hst) ha
theorem k_sset (c : Ctx X S att k Wd) {ea : ME} {x : Expr} {p1 p2 q1 q2 : Pos} {v : Bool} (hm : X.mg "sorted" = none) (hm2 : X.mg "set" = none) (ha : PE X x (tE S Z G W true ea)) (hg : Gl X "sorted" := by rfl) (hg2 : Gl X "set" := by rfl) (hst : noStar x = true := by rfl) :
    PE X (.Call (.Name "sorted" p1) [.Call (.Name "set" p2) [x] [] q2] [] q1) (tE S Z G W v (.bi1 .sset ea)) := c_sset c.hK c.calm hg hm hg2 hm2 hst ha
theorem k_sum (c : Ctx X S att k Wd) {ea : ME} {x : Expr} {p pos : Pos} {v : Bool} (hm : X.mg "sum" = none) (ha : PE X x (tE S Z G W true ea)) (hg : Gl X "sum" := by rfl) (hst : noStar x = true := by rfl) : PE X (.Call (.Name "sum" p) [x] [] pos) (tE S Z G W v (.bi1 .sum ea)) :=
  c_callB1 (sum_ok c.calm) hg hm (by decide +kernel) (by decide) (by decide) (star_cons hst) ha
theorem k_max (c : Ctx X S att k Wd) {ea : ME} {x : Expr} {p pos : Pos} {v : Bool} (hm : X.mg "max" = none) (ha : PE X x (tE S Z G W true ea)) (hg : Gl X "max" := by rfl) (hst : noStar x = true := by rfl) : PE X (.Call (.Name "max" p) [x] [] pos) (tE S Z G W v (.bi1 .max ea)) :=
  c_callB1 (max_ok c.calm) hg hm (by decide +kernel) (by decide) (by decide) (star_cons hst) ha
theorem k_min (c : Ctx X S att k Wd) {ea : ME} {x : Expr} {p pos : Pos} {v : Bool} (hm : X.mg "min" = none) (ha : PE X x (tE S Z G W true ea)) (hg : Gl X "min" := by rfl) (hst : noStar x = true := by rfl) : PE X (.Call (.Name "min" p) [x] [] pos) (tE S Z G W v (.bi1 .min ea)) :=
  c_callB1 (min_ok c.calm) hg hm (by decide +kernel) (by decide) (by decide) (star_cons hst) ha
theorem k_abs {ea : ME} {x : Expr} {p pos : Pos} {v : Bool} (hm : X.mg "abs" = none) (ha : PE X x (tE S Z G W true ea)) (hg : Gl X "abs" := by rfl) (hst : noStar x = true := by rfl) : PE X (.Call (.Name "abs" p) [x] [] pos) (tE S Z G W v (.bi1 .abs ea)) :=
  c_callB1 abs_ok hg hm (by decide +kernel) (by decide) (by decide) (star_cons hst) ha
theorem k_max2 (c : Ctx X S att k Wd) {ea eb : ME} {x y : Expr} {p pos : Pos} {v : Bool} (hm : X.mg "max" = none) (ha : PE X x (tE S Z G W true ea)) (hb : PE X y (tE S Z G W true eb)) (hg : Gl X "max" := by rfl) (h1 : noStar x = true := by rfl) (h2 : noStar y = true := by rfl) : PE X (.Call (.Name "max" p) [x, y] [] pos) (tE S Z G W v (.bi2 .max ea eb)) :=
  c_callB2 (max2_ok c.calm) hg hm (by decide +kernel) (by decide) (by decide) (fun _ => rfl) (star_cons h1) (star_cons h2) ha hb
theorem k_min2 (c : Ctx X S att k Wd) {ea eb : ME} {x y : Expr} {p pos : Pos} {v : Bool} (hm : X.mg "min" = none) (ha : PE X x (tE S Z G W true ea)) (hb : PE X y (tE S Z G W true eb)) (hg : Gl X "min" := by rfl) (h1 : noStar x = true := by rfl) (h2 : noStar y = true := by rfl) : PE X (.Call (.Name "min" p) [x, y] [] pos) (tE S Z G W v (.bi2 .min ea eb)) :=
  c_callB2 (min2_ok c.calm) hg hm (by decide +kernel) (by decide) (by decide) (fun _ => rfl) (star_cons h1) (star_cons h2) ha hb
theorem k_isi (t : Ty) {ea : ME} {x : Expr} {p p2 pos : Pos} {v : Bool} {nm : Str} (hm : X.mg "isinstance" = none) (hm2 : X.mg nm = none) (ha : PE X x (tE S Z G W true ea)) (hv : bootBuiltins nm = some (.type (tyName t)) := by decide +kernel) (hn : nm ≠ "__name__" := by decide) (hd : (nm == ("__debug__" : Str)) = false := by decide)
    (hg : Gl X "isinstance" := by rfl) (hg2 : Gl X nm := by rfl) (h1 : noStar x = true := by rfl) : PE X (.Call (.Name "isinstance" p) [x, .Name nm p2] [] pos) (tE S Z G W v (.isi ea t)) :=
  c_isi hg hm (pe_bltn hg2 hm2 hv rfl hn hd) (star_cons h1) (star_cons rfl) ha
theorem k_pop (i : Nat) {x : Str} {npos apos pos : Pos} {v : Bool} (hN : X.N[i]? = some x := by rfl) (hv : Vis X.env.scope x := by first | exact Or.inl rfl | exact Or.inr (Or.inl rfl) | exact Or.inr (Or.inr rfl)) (hd : (x == ("__debug__" : Str)) = false := by decide) (hcd : (x == ("__classdict__" : Str)) = false := by decide) (hl : (apos.endLine == pos.line) = true := by rfl) :
    PE X (.Call (.Attribute (.Name x npos) "pop" apos) [] [] pos) (tE S Z G W v (.pop i)) := c_pop hN hv hd hcd hl
theorem k_popAt (i : Nat) {x : Str} {me : ME} {e : Expr} {npos apos pos : Pos} {v : Bool} (he : PE X e (tE S Z G W true me)) (hN : X.N[i]? = some x := by rfl) (hv : Vis X.env.scope x := by first | exact Or.inl rfl | exact Or.inr (Or.inl rfl) | exact Or.inr (Or.inr rfl)) (hd : (x == ("__debug__" : Str)) = false := by decide) (hcd : (x == ("__classdict__" : Str)) = false := by decide)
    (hl : (apos.endLine == pos.line) = true := by rfl) (hst : noStar e = true := by rfl) : PE X (.Call (.Attribute (.Name x npos) "pop" apos) [e] [] pos) (tE S Z G W v (.popAt i me)) := c_popAt hN hv hd hcd hl hst he
theorem k_make (c : Ctx X S att k Wd) {ci fi j : Nat} {g : Callee} {as : MAs} {x : Str} {p pos : Pos} {es : List Expr} {v : Bool} (L : LibCls X.prog X.w X.K X.mg X.base S ci g j x) (hG : G fi = some g) (ha : PA X es (tAVs S (ZW S Wd) G W as)) (hj : j + 1 ≤ k := by decide) (hg : Gl X x := by rfl)
    (hdb : (x == ("__debug__" : Str)) = false := by decide) (hs : es.all noStar = true := by rfl) (hz : es = [] → as = .nil := by first | exact fun h => nomatch h | exact fun _ => rfl) : PE X (.Call (.Name x p) es [] pos) (tE S (ZW S Wd) G W v (.make ci fi as)) := by
  obtain ⟨cl, f, fd, ps, hc, hm, M, F, hb⟩ := L.ex
  exact c_make hG hc c.tk M F (c.room.mono hj) hg hm hb hdb hs hz ha
/-- a comprehension's block -/
theorem Ctx.blk (c : Ctx X S att k Wd) {s : Shared} {H : Hp} {scope : Scope} {ce : Env} {fp : List Addr} : Ctx (X.blk s H scope ce fp) S att k (fun _ _ _ _ => False) := ⟨c.hK, c.hC, c.room, c.nd, c.calm, takes0⟩
theorem k_comp (c : Ctx X S att k Wd) (own : Nat) {y : Str} {elt : ME} {it : MI} {t : MTo} {e iter : Expr} {ifs : List Expr} {scope : Scope} {pos p : Pos} {v : Bool} (hi : PI X (.Name y p) iter (tIt S Z G W it))
    (he : ∀ (s : Shared) (H : Hp) (C : Addr) (cl : List (Str × Addr)) (fp : List Addr), Ctx (X.blk s H scope (compEnvC scope cl C X.env) fp) S att k (fun _ _ _ _ => False) → PE (X.blk s H scope (compEnvC scope cl C X.env) fp) e (tE S Z0 G W false elt))
    (ht : ∀ (s : Shared) (H : Hp) (C : Addr) (cl : List (Str × Addr)) (fp : List Addr), Ctx (X.blk s H scope (compEnvC scope cl C X.env) fp) S att k (fun _ _ _ _ => False) → PTs (X.blk s H scope (compEnvC scope cl C X.env) fp) ifs (tTo S G W t))
    (hN : X.N[own]? = some y := by rfl) (ok : BlkOk X.N X.env.scope scope [(y, own)] := by exact blkOk_by (by rfl)) (hx : ∀ (cl : List (Str × Addr)) (C : Addr), Loc (compEnvC scope cl C X.env).scope y := by first | exact fun _ _ => Or.inl rfl | exact fun _ _ => Or.inr rfl)
    (hf : ∀ (cl : List (Str × Addr)) (C : Addr), (scope.names.lookup y == some NameKind.cell) = true ∨ (compEnvC scope cl C X.env).scope.names.lookup y = some .local := by first | exact fun _ _ => .inr rfl | exact fun _ _ => .inl rfl)
    (hs : ∀ x, foldedSetIterable iter X.env x = pure x := by intro _; rfl) : PE X (.ListComp e [⟨.Name y p, iter, ifs, 0⟩] scope pos) (tE S Z G W v (.comp own elt it t)) :=
  c_comp c.calm c.nd hi ok (fun s H C cl fp => pg_name (X := X.blk s H scope (compEnvC scope cl C X.env) fp) c.nd hN (hx cl C) (hf cl C)) (fun s H C cl fp => ht s H C cl fp c.blk) (fun s H C cl fp => he s H C cl fp c.blk) hs
theorem ks_setLc (c : Ctx X S att k Wd) (i own : Nat) {y z : Str} {py p : Pos} {elt : ME} {it : MI} {t : MTo} {e iter : Expr} {ifs : List Expr} {scope : Scope} {pos spos : Pos} (hi : PI X (.Name z p) iter (tIt S (ZW S Wd) G W it))
    (he : ∀ (s : Shared) (H : Hp) (C : Addr) (cl : List (Str × Addr)) (fp : List Addr), Ctx (X.blk s H scope (compEnvC scope cl C X.env) fp) S att k (fun _ _ _ _ => False) → PE (X.blk s H scope (compEnvC scope cl C X.env) fp) e (tE S Z0 G W false elt))
    (ht : ∀ (s : Shared) (H : Hp) (C : Addr) (cl : List (Str × Addr)) (fp : List Addr), Ctx (X.blk s H scope (compEnvC scope cl C X.env) fp) S att k (fun _ _ _ _ => False) → PTs (X.blk s H scope (compEnvC scope cl C X.env) fp) ifs (tTo S G W t))
    (hk : X.env.scope.kind = .function := by rfl) (hy : X.N[i]? = some y := by rfl) (hyl : X.env.scope.names.lookup y = some .local := by rfl) (hl : (py.line == pos.line) = true := by rfl) (ha : (scope.names.any fun (n, k) => n == y && (k == .local || k == .cell)) = false := by rfl)
    (hN : X.N[own]? = some z := by rfl) (ok : BlkOk X.N X.env.scope scope [(z, own)] := by exact blkOk_by (by rfl)) (hx : ∀ (cl : List (Str × Addr)) (C : Addr), Loc (compEnvC scope cl C X.env).scope z := by first | exact fun _ _ => Or.inl rfl | exact fun _ _ => Or.inr rfl)
    (hf : ∀ (cl : List (Str × Addr)) (C : Addr), (scope.names.lookup z == some NameKind.cell) = true ∨ (compEnvC scope cl C X.env).scope.names.lookup z = some .local := by first | exact fun _ _ => .inr rfl | exact fun _ _ => .inl rfl)
    (hs : ∀ x, foldedSetIterable iter X.env x = pure x := by intro _; rfl) : PS X (.Assign [.Name y py] (.ListComp e [⟨.Name z p, iter, ifs, 0⟩] scope pos) spos) (tSt S Wd G W fix (.asg i (.comp own elt it t))) :=
  s_setLc c.calm c.nd hy hyl (sw_true hk hyl hl ha) hi ok (fun s H C cl fp => pg_name (X := X.blk s H scope (compEnvC scope cl C X.env) fp) c.nd hN (hx cl C) (hf cl C)) (fun s H C cl fp => ht s H C cl fp c.blk) (fun s H C cl fp => he s H C cl fp c.blk) hs
theorem ki_r2 {e1 e2 : Expr} {m1 m2 : ME} {tg : Expr} {p pos : Pos} (hm : X.mg "range" = none) (h1 : PE X e1 (tE S Z G W true m1)) (h2 : PE X e2 (tE S Z G W true m2)) (hg : Gl X "range" := by rfl) (n1 : noStar e1 = true := by rfl) (n2 : noStar e2 = true := by rfl) : PI X tg (.Call (.Name "range" p) [e1, e2] [] pos) (tIt S Z G W (.r2 m1 m2)) := c_r2 hg hm (star_cons n1) (star_cons n2) h1 h2
theorem ki_r3 {e1 e2 e3 : Expr} {m1 m2 m3 : ME} {tg : Expr} {p pos : Pos} (hm : X.mg "range" = none) (h1 : PE X e1 (tE S Z G W true m1)) (h2 : PE X e2 (tE S Z G W true m2)) (h3 : PE X e3 (tE S Z G W true m3)) (hg : Gl X "range" := by rfl) (hs : [e1, e2, e3].all noStar = true := by rfl) : PI X tg (.Call (.Name "range" p) [e1, e2, e3] [] pos) (tIt S Z G W (.r3 m1 m2 m3)) := c_r3 hg hm h1 h2 h3 hs
theorem ki_of {e tg : Expr} {me : ME} (he : PE X e (tE S Z G W false me)) (hs : slotOf me = none := by rfl) : PI X tg e (tIt S Z G W (.of me)) := c_of hs he
theorem kp_slot (i : Nat) {x : Str} {pos : Pos} (hN : X.N[i]? = some x := by rfl) (hv : Vis X.env.scope x := by first | exact Or.inl rfl | exact Or.inr (Or.inl rfl) | exact Or.inr (Or.inr rfl)) (hd : (x == ("__debug__" : Str)) = false := by decide) (hcd : (x == ("__classdict__" : Str)) = false := by decide) : PE X (.Name x pos) (tP att S Z G W (.slot i)) := p_slot hN hv hd hcd
theorem kp_sub (c : Ctx X S att k Wd) {mp mi : ME} {x i : Expr} {pos : Pos} (hx : PE X x (tP att S Z G W mp)) (hi : PE X i (tE S Z G W true mi)) (hp : PlainIx i := by intro _ _; rfl) : PE X (.Subscript x i pos) (tP att S Z G W (.sub mp mi)) := p_sub c.hC hx hi hp
theorem kp_fld (c : Ctx X S att k Wd) {mp : ME} {j : Nat} {x : Expr} {pos : Pos} (hx : PE X x (tP att S Z G W mp)) (hb : baseOk x = true := by rfl) : PE X (.Attribute x (att j) pos) (tP att S Z G W (.fld mp j)) := p_fld c.hC (base_of hb) hx
theorem ks_setI (c : Ctx X S att k Wd) {mp mi me : ME} {o i e : Expr} {p1 pos : Pos} (ho : PE X o (tP att S (ZW S Wd) G W mp)) (hi : PE X i (tEw S Wd G W true mi)) (he : PE X e (tEw S Wd G W false me))
    (ha : ∀ v, assign (.Subscript o i p1) X.env v = (do
      let ov ← holding [v] (eval o X.env)
      let iv ← holding [v, ov] (eval i X.env)
      standAt p1
      holding [v, ov, iv] (setItem ov iv v)
      release [v, ov, iv] []) := by intro _; rfl) : PS X (.Assign [.Subscript o i p1] e pos) (tSt S Wd G W fix (.setI mp mi me)) := s_setI c.hC ho hi he ha
theorem ks_append (c : Ctx X S att k Wd) {mp me : ME} {o e : Expr} {apos p1 pos : Pos} (ho : PE X o (tP att S (ZW S Wd) G W mp)) (he : PE X e (tEw S Wd G W false me)) (hb : baseOk o = true := by rfl) (hst : noStar e = true := by rfl) (hl : (apos.endLine == p1.line) = true := by rfl) :
    PS X (.Expr (.Call (.Attribute o "append" apos) [e] [] p1) pos) (tSt S Wd G W fix (.append mp me)) := s_append c.hC ho he hb hst hl
theorem ks_extend (c : Ctx X S att k Wd) {mp me : ME} {o e : Expr} {apos p1 pos : Pos} (ho : PE X o (tP att S (ZW S Wd) G W mp)) (he : PE X e (tEw S Wd G W true me)) (hb : baseOk o = true := by rfl) (hst : noStar e = true := by rfl) (hl : (apos.endLine == p1.line) = true := by rfl) :
    PS X (.Expr (.Call (.Attribute o "extend" apos) [e] [] p1) pos) (tSt S Wd G W fix (.extend mp me)) := s_extend c.hC ho he hb hst hl
theorem ks_reverse (c : Ctx X S att k Wd) {mp : ME} {o : Expr} {apos p1 pos : Pos} (ho : PE X o (tP att S (ZW S Wd) G W mp)) (hb : baseOk o = true := by rfl) (hl : (apos.endLine == p1.line) = true := by rfl) :
    PS X (.Expr (.Call (.Attribute o "reverse" apos) [] [] p1) pos) (tSt S Wd G W fix (.reverse mp)) := s_reverse c.hC ho hb hl
theorem ks_setF (c : Ctx X S att k Wd) (oi j : Nat) {me : ME} {x : Str} {e : Expr} {p1 p2 pos : Pos} (he : PE X e (tEw S Wd G W false me)) (hN : X.N[oi]? = some x := by rfl) (hv : Vis X.env.scope x := by first | exact Or.inl rfl | exact Or.inr (Or.inl rfl) | exact Or.inr (Or.inr rfl)) (hd : (x == ("__debug__" : Str)) = false := by decide) (hcd : (x == ("__classdict__" : Str)) = false := by decide) :
    PS X (.Assign [.Attribute (.Name x p1) (att j) p2] e pos) (tSt S Wd G W fix (.setF oi j me)) := s_setF c.hC hN hv hd hcd he
theorem ks_augAdd (c : Ctx X S att k Wd) (i : Nat) {x : Str} {me : ME} {e : Expr} {p pos : Pos} (he : PE X e (tEw S Wd G W true me)) (hi : X.N[i]? = some x := by rfl) (hx : Loc X.env.scope x := by first | exact Or.inl rfl | exact Or.inr rfl) (hf : X.fn x = true ∨ X.env.scope.names.lookup x = some .local := by first | exact .inl rfl | exact .inr rfl) :
    PS X (.AugAssign (.Name x p) .Add e pos) (tSt S Wd G W fix (.aug i .add me)) := s_augAdd c.nd hi hx hf he
theorem ks_augSub (c : Ctx X S att k Wd) (i : Nat) {x : Str} {me : ME} {e : Expr} {p pos : Pos} (he : PE X e (tEw S Wd G W true me)) (hi : X.N[i]? = some x := by rfl) (hx : Loc X.env.scope x := by first | exact Or.inl rfl | exact Or.inr rfl) (hf : X.fn x = true ∨ X.env.scope.names.lookup x = some .local := by first | exact .inl rfl | exact .inr rfl) :
    PS X (.AugAssign (.Name x p) .Sub e pos) (tSt S Wd G W fix (.aug i .sub me)) := s_augSub c.nd hi hx hf he
theorem ks_expr {me : ME} {e : Expr} {pos : Pos} (he : PE X e (tEw S Wd G W false me)) (hs : swapsWith e none pos.line X.env = pure false := by rfl) : PS X (.Expr e pos) (tSt S Wd G W fix (.expr me)) := s_expr hs he
theorem ks_raise (c : Ctx X S att k Wd) (ci : Nat) {e : Expr} {pos : Pos} (he : PMk X e fun _ H Q => Q (S.exn ci) none H) : PS X (.Raise (some e) none pos) (tSt S Wd G W fix (.raise ci)) := s_raise c.calm c.tk he
theorem kg_two (c : Ctx X S att k Wd) (i j : Nat) {x y : Str} {p q r : Pos} {n : Nat} (h1 : PG X (.Name x p) (tG X.K (.name i))) (h2 : PG X (.Name y q) (tG X.K (.name j))) : PG X (.Tuple [.Name x p, .Name y q] n r) (tG X.K (.pair i j)) := pg_tup c.calm (pgs_cons h1 (pgs_cons h2 pgs_nil)) rfl rfl
theorem ks_asgT {g : MG} {me : ME} {tg e : Expr} {pos : Pos} (hg : PG X tg (tG X.K g)) (he : PE X e (tEw S Wd G W false me)) (hs : swapsWithSole [tg] e pos.line X.env = pure false := by rfl) (hw : swappedStores [tg] e X.env = pure none := by rfl) (h1 : (assignEach [tg] X.env).map (·.2) = [assign tg X.env] := by rfl) :
    PS X (.Assign [tg] e pos) (tSt S Wd G W fix (.asgT g me)) := s_asgT he hg hs hw h1
end
end Ab
namespace Ab
open PySem L2
/-- an own exception class (below ValueError) that may be raised -/
structure ExFact (K : PySem.W.Frag) (mg : Str → Option Value) (S : Sig) (ci : Nat) (x : Str) : Prop where
  ex : ∃ C, S.exn ci = .ref C ∧ mg x = some (.ref C) ∧ PySem.W.keepIn K (.ref C) = true ∧ PySem.W.excIn K C [.type "ValueError", .type "Exception", .type "BaseException", .type "object"] "ValueError.__new__" = true ∧
    PySem.W.subIn K (.ref C) (.type "BaseException") = some true ∧ PySem.W.typeIn K (.ref C) = some (.type "type")
section
variable {X : Cx} {S : Sig} {att : Nat → Str} {k : Nat} {Wd : WX} {G : Env0A} {W : Nat} {fix : List Nat}
theorem ks_raiseV (c : Ctx X S att k Wd) (ci : Nat) {x m : Str} {j : Nat} {p p2 p3 pos : Pos} (h : ExFact X.K X.mg S ci x) (hg : Gl X x := by rfl) (hdb : (x == ("__debug__" : Str)) = false := by decide) :
    PS X (.Raise (some (.Call (.Name x p) [.Constant (.str m) j p2] [] p3)) none pos) (tSt S Wd G W fix (.raise ci)) := by
  obtain ⟨C, e, gC, kC, xC, bC, tC⟩ := h.ex
  refine ks_raise c ci ?_
  rw [e]
  exact pmk_own PySem.F.excBase_ValueError xC gC kC (raises_own bC tC) hg hdb
end
section
variable {P : Program} {w : World} {K : PySem.W.Frag} {mg : Str → Option Value} {base : Heap} {S : Sig}
theorem LibFn.mkF {x qual : Str} {st : Stmt} {f : Addr} {fd : FuncData} {ps : List Str} {fix : List Nat} {g : Callee} {k : Nat} (F : Fun K x qual st f fd) (hm : mg x = some (.ref f)) (Fn : FnOk P w K mg base (L2.CX P w) k f fd ps (spA S fix g)) (hb : Binds K fd ps []) : LibFn P w K mg base S fix g k x :=
  ⟨f, fd, ps, hm, F.kp, Fn, hb⟩
end
end Ab
namespace Ab
open PySem L2
/-- a script, and True wished -/
def spLaw (K : PySem.W.Frag) : Sp := fun vs H Q _ => ∃ (a : Addr) (ns : List Int), vs = [.ref a] ∧ SqL K H a (ns.map V.int) ∧ ns.length ≤ 63 ∧ ∀ H', Q (.bl true) H'
theorem law_imp {P : Program} {w : World} {K : PySem.W.Frag} {mg : Str → Option Value} {base : Heap} {CX : CXT} {k : Nat} {f : Addr} {fd : FuncData} {ps : List Str} {S : Sig} {g : Callee} (hK : S.K = K) (F : FnOk P w K mg base CX k f fd ps (spA S [] g)) (hm : ∀ ns : List Int, ns.length ≤ 63 → g [.scr ns] = .ok (.bl true) []) :
    FnOk P w K mg base CX k f fd ps (spLaw K) := F.imp fun vs H Q E h => by
  obtain ⟨a, ns, rfl, hS, hl, q⟩ := h
  refine ⟨H, [.scr ns], Emp, ?_, fun x z => z.elim, fun _ _ z => z, ?_⟩
  · simp only [Reps, Rep]
    exact ⟨_, [], Emp, Emp, rfl, (uni_emp _).symm, emp_dis, ⟨rfl, a, rfl, by rw [hK]; exact hS⟩, rfl, rfl⟩
  · rw [hm ns hl]
    intro v ws F' H' Pd Pm sv r rm di fr sub ex
    rw [(rep_bl.mp r).1]
    exact q H'
theorem cx_none {P : Program} {w : World} {H : Hp} {s : Shared} {e : Value} {s' : Shared} (h : L2.CX P w [] H s (fun _ _ _ => False) e s') : False := by
  obtain ⟨_, _, _, _, _, _, _, _, _, _, _, _, z⟩ := h
  exact z.elim
end Ab
namespace Ab
open PySem L2
variable {S : Sig} {Z : L2.St → Nat → Hp → Prop} {F F' H H' : Hp} {P : Fp} {σ : L2.St} {a a' : SA}
section
variable {X : L2.Cx} {G : Env0A} {W : Nat}
/-- l.index(x) -/
theorem c_idx {eo ea : ME} {o e : Expr} {apos pos : Pos} {v : Bool} (hK : S.K = X.K) (hu : X.A.units + 65 < cLine) (ho : PE X o (tE S Z G W true eo)) (hb : attributeBase o "index" X.env (eval o X.env) = eval o X.env) (hl : (apos.endLine == pos.line) = true)
    (hst : noStar e = true) (he : PE X e (tE S Z G W true ea)) : PE X (.Call (.Attribute o "index" apos) [e] [] pos) (tE S Z G W v (.bi2 .idx eo ea)) := by
  refine (pe_bm PySem.F.plainAttrs_list PySem.F.slot_list_index PySem.F.type_list_index (mt_indexD hu) ho (pa_cons he pa_nil (star_cons hst)) hb (few1 hst) hl (star_cons hst) rfl).weak fun σ H Q h => ?_
  obtain ⟨F, P, a, sr, o⟩ := h
  simp only [ev] at o
  refine ⟨F, P, a, sr, o.bind.imp fun d1 a1 e1 o1 v1 F1 H1 P1 Pa1 ok1 => ?_⟩
  split at o1
  case isFalse => exact o1.elim
  rename_i hr
  cases d1 <;> first | (exact absurd hr Bool.false_ne_true) | skip
  rename_i m ds
  have hv : ∃ p vs, v1 = .ref p ∧ SqL S.K H1 p vs := by
    have r := ok1.rep
    simp only [Rep] at r
    obtain ⟨p, vs, rfl, r⟩ := r
    refine ⟨p, vs, rfl, ?_⟩
    cases m
    · rw [if_neg (by decide)] at r
      exact SqL.of (ok1.sr.sub _ _ r.2.1)
    · rw [if_pos rfl] at r
      exact SqL.of r.1
  obtain ⟨p, vs, rfl, hs⟩ := hv
  refine ⟨.inl ⟨rfl, vs, by rw [← hK]; exact hs⟩, F1, Pa1, a1, ok1.sr, (o1.bind.at ok1.ext).imp fun d2 a2 e2 o2 v2 F2 H2 P2 Pa2 ok2 => ?_⟩
  obtain ⟨d, e, q⟩ := o2.of
  simp only [Option.bind_eq_some_iff] at e
  obtain ⟨d1', es, e⟩ := e
  obtain ⟨P1', r1, _⟩ := stayed ok1 ok2 es rfl rfl
  simp only [bi2] at e
  split at e
  case h_2 => cases e
  rename_i m2 ds2 hx2
  split at e
  case isFalse => cases e
  rename_i hp
  simp only [Bool.and_eq_true] at hp
  simp only [Option.map_eq_some_iff] at e
  obtain ⟨j0, hj0, rfl⟩ := e
  obtain ⟨j, hj, rfl⟩ : ∃ j : Nat, ds2.findIdx? (fun y => eqD y d2) = some j ∧ j0 = (j : Int) := by
    cases hf : ds2.findIdx? (fun y => eqD y d2) with
    | none => rw [hf] at hj0; cases hj0
    | some j => rw [hf] at hj0; cases hj0; exact ⟨j, rfl, rfl⟩
  obtain ⟨hjl, hz, hno⟩ := List.findIdx?_eq_some_iff_getElem.mp hj
  have r1' := r1.dp ok2.sr.sub _ (by have := plain_plain0 hp.2; simpa only [plain0] using this)
  have r2' := ok2.rep.dp ok2.sr.sub _ (plain_plain0 hp.1)
  rw [hK] at r1' r2'
  simp only [toPD] at r1'
  refine ⟨p, v2, toPD d2, toPDs ds2, j, toPD ds2[j], rfl, rfl, r1', r2', ?_, shaped_of hp.1, ?_, hz, ?_, ?_⟩
  · have := shaped_of hp.2
    simpa only [toPD] using this
  · rw [toPDs_map, List.getElem?_map, List.getElem?_eq_getElem hjl]; rfl
  · intro k z' hk hz'
    rw [toPDs_map, List.getElem?_map] at hz'
    have hkl : k < ds2.length := by omega
    rw [List.getElem?_eq_getElem hkl] at hz'
    simp only [Option.map_some, Option.some.injEq] at hz'
    subst hz'
    have := hno k hk
    simpa [eqD] using this
  · exact q _ F2 H2 Emp Pa2 (.flat ok2.sr (ok1.ext.trans ok2.ext) (fun h => pure2 ok1 ok2 (by simpa [atE, pureE] using h)) rfl (rep_int.mpr ⟨rfl, rfl⟩))
theorem k_idx {att : Nat → Str} {k : Nat} {Wd : WX} (c : Ctx X S att k Wd) {eo ea : ME} {o e : Expr} {apos pos : Pos} {v : Bool} (ho : PE X o (tE S Z G W true eo)) (he : PE X e (tE S Z G W true ea)) (hb : attributeBase o "index" X.env (eval o X.env) = eval o X.env := by rfl) (hl : (apos.endLine == pos.line) = true := by rfl) (hst : noStar e = true := by rfl) :
    PE X (.Call (.Attribute o "index" apos) [e] [] pos) (tE S Z G W v (.bi2 .idx eo ea)) := c_idx c.hK c.hu ho hb hl hst he
end
end Ab
namespace Ab
open PySem L2
open Classical
variable {S : Sig} {Wd : WX} {Z : L2.St → Nat → Hp → Prop} {fix : List Nat} {F F' H H' : Hp} {P : Fp} {σ : L2.St} {a a' : SA}

/-! ### two stores of a pair: xs[i], xs[j] = e1, e2 -/
section
variable {X : Cx} {G : Env0A} {W : Nat} {att : Nat → Str}
theorem st_step {p : Nat} {mi : ME} {d : D} {v : V} {E : Ends} {K : SA → Fl} {Q : L2.St → Hp → Prop} (hC : ClsOk X.K att S) (sr : SR S F H a σ P) (r : Rep S F H d v Emp)
    (o : OutS S Wd fix F H P σ E (nxt (stI G W p mi d a) K))
    (q : ∀ a' F' H' P', SR S F' H' a' σ P' → Ext F F' H H' P P' → OutS S Wd fix F' H' P' σ E (K a') → Q σ H') :
    gSub (tP att S (ZW S Wd) G W (.slot p)) (tEw S Wd G W true mi) rSetL v σ H Q := by
  have hz : ∀ (α : Type) (x : Er α) (f : α → SA → Fl), nxt (x.fl f) K = x.fl fun d s => nxt (f d s) K := fun α x f => by cases x <;> rfl
  rw [stI, hz] at o
  refine ⟨F, P, a, sr, o.head.imp fun q1 a1 e1 o1 u F1 H1 Pa1 sr1 ex1 sm1 at1 => ?_⟩
  rw [hz] at o1
  refine ⟨F1, Pa1, a1, sr1, (o1.head.at ex1).imp fun k a2 e2 o2 vk F2 H2 Pk Pa2 ok2 => ?_⟩
  cases k <;> try exact o2.elim
  rename_i k
  simp only at o2
  have hz2 : ∀ (x : Option SA), nxt (Fl.of x) K = match x with | some s => K s | none => .bad := fun x => by cases x <;> rfl
  rw [hz2] at o2
  split at o2
  case h_2 => exact o2.elim
  rename_i s es
  obtain ⟨rfl, _⟩ := rep_int.mp ok2.rep
  have ex12 := ex1.trans ok2.ext
  have r2 : Rep S F2 H2 d v Emp := ex12.aside r emp_dis
  obtain ⟨w, pp, vs, vs', P', ew, via, ep, ⟨j, hj, rfl⟩, sr4, sb, ex4⟩ := ok2.sr.write (Pd := Emp) (T := fun vs vs' => ∃ j, ixN vs.length k = some j ∧ vs' = vs.set j v) hC emp_dis (fun x h => h.elim) es fun e e' hf => by
    cases e <;> first | (simp only [fSet, reduceCtorEq] at hf; done) | skip
    rename_i m ds
    cases m <;> simp only [fSet, reduceCtorEq, Option.map_eq_some_iff] at hf
    obtain ⟨j, hj, rfl⟩ := hf
    refine ⟨ds, ds.set j d, rfl, rfl, fun vs Q rs dq => ?_⟩
    have hlt := (ixN_seq hj).2.1
    obtain ⟨x, Q1, Q2, ex', rfl, d12, rx, put⟩ := rs.hole (List.getElem?_eq_getElem hlt)
    exact ⟨vs.set j v, Uni Emp Q2, ⟨j, by rw [Reps.len rs]; exact hj, rfl⟩, put F2 H2 d v Emp (fun _ _ z => z) (fun _ _ => rfl) r2 emp_dis, fun y h => h.elim .inl fun z => .inr (.inr z)⟩
  have eu : u = .ref pp := by
    have hq : q1.2 = [] := by
      simp only [evP, chkP] at e1
      split at e1 <;> cases e1
      rfl
    exact (via_at at1 (.inr hq)).inj ⟨w, ew, via⟩
  subst eu
  rw [emp_uni] at ex4
  exact ⟨pp, vs, k, j, rfl, rfl, ep, hj, q _ _ _ P' sr4 (ex12.trans ex4) (OutS.at (ex12.trans ex4) Fix.rfl' o2)⟩
theorem s_swap {p : Nat} {m1 m2 ma mb : ME} {x : Str} {i j e : Expr} {px p1 px2 p2 p3 pos : Pos} {n : Nat} (hC : ClsOk X.K att S) (hc : X.calm = true)
    (hx : PE X (.Name x px) (tP att S (ZW S Wd) G W (.slot p))) (hx2 : PE X (.Name x px2) (tP att S (ZW S Wd) G W (.slot p)))
    (hi : PE X i (tEw S Wd G W true m1)) (hj : PE X j (tEw S Wd G W true m2)) (he : PE X e (tEw S Wd G W false (.tup (.cons ma (.cons mb .nil)))))
    (ha : ∀ v, assign (.Subscript (.Name x px) i p1) X.env v = (do
      let ov ← holding [v] (eval (.Name x px) X.env)
      let iv ← holding [v, ov] (eval i X.env)
      standAt p1
      holding [v, ov, iv] (setItem ov iv v)
      release [v, ov, iv] []))
    (ha2 : ∀ v, assign (.Subscript (.Name x px2) j p2) X.env v = (do
      let ov ← holding [v] (eval (.Name x px2) X.env)
      let iv ← holding [v, ov] (eval j X.env)
      standAt p2
      holding [v, ov, iv] (setItem ov iv v)
      release [v, ov, iv] []))
    (hs : swapsWithSole [.Tuple [.Subscript (.Name x px) i p1, .Subscript (.Name x px2) j p2] n p3] e pos.line X.env = pure false)
    (hw : swappedStores [.Tuple [.Subscript (.Name x px) i p1, .Subscript (.Name x px2) j p2] n p3] e X.env = pure none)
    (h1 : (assignEach [.Tuple [.Subscript (.Name x px) i p1, .Subscript (.Name x px2) j p2] n p3] X.env).map (·.2) = [assign (.Tuple [.Subscript (.Name x px) i p1, .Subscript (.Name x px2) j p2] n p3) X.env])
    (c1 : (assignEach [.Subscript (.Name x px) i p1, .Subscript (.Name x px2) j p2] X.env).map (·.2) = assign (.Subscript (.Name x px) i p1) X.env :: (assignEach [.Subscript (.Name x px2) j p2] X.env).map (·.2))
    (c2 : (assignEach [.Subscript (.Name x px2) j p2] X.env).map (·.2) = assign (.Subscript (.Name x px2) j p2) X.env :: (assignEach [] X.env).map (·.2))
    (hn : (assignEach [.Subscript (.Name x px) i p1, .Subscript (.Name x px2) j p2] X.env).length = 2)
    (hst : (assignEach [.Subscript (.Name x px) i p1, .Subscript (.Name x px2) j p2] X.env).findIdx? (·.1) = none) :
    PS X (.Assign [.Tuple [.Subscript (.Name x px) i p1, .Subscript (.Name x px2) j p2] n p3] e pos) (tSt S Wd G W fix (.swap p m1 m2 ma mb)) :=
  (ps_asg he (pg_tup hc (pgs_cons (pg_sub hx hi set_list ha) (pgs_cons (pg_sub hx2 hj set_list ha2) pgs_nil c2) c1) hn hst) hs hw h1).weak fun E σ H h => by
    obtain ⟨F, P, a, sr, out⟩ := h
    simp only [ex] at out
    refine ⟨F, P, a, sr, out.head.imp fun d a1 e1 o1 v F1 H1 P1 Pa1 ok1 => ?_⟩
    split at o1
    case h_2 => exact o1.elim
    rename_i d1 d2
    have rp := ok1.rep
    simp only [Rep] at rp
    obtain ⟨_, b, vs, rfl, eb, rs⟩ := rp
    obtain ⟨hl, hi⟩ := Reps.at_iff.mp rs
    obtain ⟨v1, v2, rfl⟩ : ∃ v1 v2, vs = [v1, v2] := by
      match vs, hl with
      | [v1, v2], _ => exact ⟨v1, v2, rfl⟩
    have r1 := hi 0 d1 v1 rfl rfl
    have r2 := hi 1 d2 v2 rfl rfl
    have o1' := OutS.at ok1.ext Fix.rfl' o1
    refine ⟨b, [v1, v2], rfl, SqT.of (ok1.sr.sub _ _ eb), rfl, v1, [v2], rfl, ?_⟩
    refine st_step hC ok1.sr r1 o1' fun a2 F2 H2 P2 sr2 ex2 o2 => ?_
    refine ⟨v2, [], rfl, ?_⟩
    refine st_step hC sr2 (ex2.aside r2 emp_dis) o2 fun a3 F3 H3 P3 sr3 ex3 o3 => ?_
    exact ⟨rfl, o3 σ F3 H3 P3 sr3 .refl Fix.rfl'⟩
/-! ### xs[i] op= e -/
theorem get_listP : PGet X (rIxL X.K) := by
  intro pins s σ H x y v u Q I rx ry h
  obtain ⟨p, xs, i, z, rfl, rfl, hq, he, q⟩ := h
  cases rx
  obtain ⟨t, rfl⟩ := ry
  obtain ⟨its, r, pl, hz⟩ := I.list hq
  obtain ⟨j, h1, h2, h3, h4, h5⟩ := atI_get he
  obtain ⟨w, ew, rw'⟩ := r.get h2
  have hl := r.length
  have hn := line63
  have fin : EP X pins σ Q w s := ⟨z, H, I, rw', q⟩
  by_cases h0 : 0 ≤ i
  · have hj : i.toNat = j := by
      rw [seqIndex_of h0 h5] at h1
      exact Option.some.inj h1
    exact wpAny_getItem_list pl.isList h0 (by omega) (by rw [hj]; simpa using ew) fin
  · have hj : (i + (its.toArray.size : Int)).toNat = j := by
      rw [seqIndex_neg (by omega) h4] at h1
      rw [List.size_toArray, ← hl]
      exact Option.some.inj h1
    exact wpAny_getItem_list_neg pl.isList (by omega) (by rw [List.size_toArray] <;> omega) (by omega) (by rw [hj]; simpa using ew) fin
theorem s_augS {o : Op2} {op : Operator} {g : Int → Int → Int} {mp mi me : ME} {xo i e : Expr} {p1 pos : Pos} (hop : PIp X op (ipI g)) (hg : ∀ a b d, augD o a b = some d → ∃ i j, a = .int i ∧ b = .int j ∧ d = .int (g i j)) (hC : ClsOk X.K att S)
    (ho : PE X xo (tP att S (ZW S Wd) G W mp)) (hi : PE X i (tEw S Wd G W true mi)) (he : PE X e (tEw S Wd G W true me))
    (ha : ∀ ov iv new, augStore i ov iv new = (do holding [new, ov, iv] (setItem ov iv new); release [new, ov, iv] []; pure .next)) :
    PS X (.AugAssign (.Subscript xo i p1) op e pos) (tSt S Wd G W fix (.augI mp mi o me)) := (ps_augS ho hi get_listP he hop set_list ha).weak fun E σ H h => by
  obtain ⟨F, P, a, sr, out⟩ := h
  simp only [ex] at out
  refine ⟨F, P, a, sr, out.head.imp fun q a1 e1 o1 u F1 H1 Pa1 sr1 ex1 sm1 at1 => ?_⟩
  refine ⟨F1, Pa1, a1, sr1, (o1.head.at ex1).imp fun k a2 e2 o2 vk F2 H2 Pk Pa2 ok2 => ?_⟩
  cases k <;> try exact o2.elim
  rename_i k
  simp only at o2
  split at o2
  case h_2 => exact o2.elim
  rename_i d1 ed
  split at o2
  case isFalse => exact o2.elim
  rename_i hp
  simp only [Bool.and_eq_true] at hp
  obtain ⟨⟨hfl, hpi⟩, hpe⟩ := hp
  obtain ⟨rfl, _⟩ := rep_int.mp ok2.rep
  have sm2 : Same H1 H2 := ok2.same hpi
  obtain ⟨x, Px, at2, rx⟩ := ok2.sr.at_ hC (q := (q.1, q.2 ++ [.ix k])) ed
  obtain ⟨w, ew, via⟩ := at2
  obtain ⟨u', v1, pp, xs, y, rfl, ep, ey, hy⟩ := Via.snoc via
  cases hy
  have at12 : AtP att H2 σ q u := via_at at1 (.inl sm2)
  have eu := at12.inj ⟨w, ew, v1⟩
  subst eu
  have ex12 := ex1.trans ok2.ext
  refine ⟨pp, xs, k, x, rfl, rfl, SqL.of ep, ey, F2, Pa2, a2, ok2.sr, (o2.head.at ex12).imp fun d2 a3 e3 o3 v3 F3 H3 P3 Pa3 ok3 => ?_⟩
  split at o3
  case h_2 => exact o3.elim
  rename_i d ed2
  obtain ⟨i1, j1, rfl, rfl, rfl⟩ := hg _ _ _ ed2
  obtain ⟨rfl, _⟩ := rep_int.mp rx
  obtain ⟨rfl, _⟩ := rep_int.mp ok3.rep
  refine ⟨i1, j1, rfl, rfl, ?_⟩
  obtain ⟨s, es, o4⟩ := o3.of
  have ex3 := ok3.ext
  obtain ⟨w', p', vs, vs', P', ew', via', ep', ⟨j, hj, rfl⟩, sr4, sb, ex4⟩ := ok3.sr.write (Pd := Emp) (T := fun vs vs' => ∃ j, ixN vs.length k = some j ∧ vs' = vs.set j (.int (g i1 j1))) hC emp_dis (fun x h => h.elim) es fun e e' hf => by
    cases e <;> first | (simp only [fSet, reduceCtorEq] at hf; done) | skip
    rename_i m ds
    cases m <;> simp only [fSet, reduceCtorEq, Option.map_eq_some_iff] at hf
    obtain ⟨j, hj, rfl⟩ := hf
    refine ⟨ds, ds.set j (.int (g i1 j1)), rfl, rfl, fun vs Q rs dq => ?_⟩
    have hlt := (ixN_seq hj).2.1
    obtain ⟨x, Q1, Q2, ex', rfl, d12, rx, put⟩ := rs.hole (List.getElem?_eq_getElem hlt)
    exact ⟨vs.set j (.int (g i1 j1)), Uni Emp Q2, ⟨j, by rw [Reps.len rs]; exact hj, rfl⟩, put F3 H3 _ (.int (g i1 j1)) Emp (fun _ _ z => z) (fun _ _ => rfl) (rep_int.mpr ⟨rfl, rfl⟩) emp_dis, fun y h => h.elim .inl fun z => .inr (.inr z)⟩
  have at3 : AtP att H3 σ q (.ref pp) := via_at at12 (.inl (ok3.same hpe))
  have eu := at3.inj ⟨w', ew', via'⟩
  cases eu
  rw [emp_uni] at ex4
  exact ⟨pp, vs, k, j, rfl, rfl, ep', hj, o4 σ F3 _ P' sr4 ((ex12.trans ex3).trans ex4) Fix.rfl'⟩
theorem s_augSA {mp mi me : ME} {xo i e : Expr} {p1 pos : Pos} (hC : ClsOk X.K att S)
    (ho : PE X xo (tP att S (ZW S Wd) G W mp)) (hi : PE X i (tEw S Wd G W true mi)) (he : PE X e (tEw S Wd G W true me))
    (ha : ∀ ov iv new, augStore i ov iv new = (do holding [new, ov, iv] (setItem ov iv new); release [new, ov, iv] []; pure .next)) :
    PS X (.AugAssign (.Subscript xo i p1) .Add e pos) (tSt S Wd G W fix (.augI mp mi .add me)) := s_augS ip_add (fun a b d h => by
    cases a <;> first | (simp only [augD, reduceCtorEq] at h; done) | skip
    cases b <;> simp only [augD, reduceCtorEq, Option.some.injEq] at h
    exact ⟨_, _, rfl, rfl, h.symm⟩) hC ho hi he ha
theorem s_augSS {mp mi me : ME} {xo i e : Expr} {p1 pos : Pos} (hC : ClsOk X.K att S)
    (ho : PE X xo (tP att S (ZW S Wd) G W mp)) (hi : PE X i (tEw S Wd G W true mi)) (he : PE X e (tEw S Wd G W true me))
    (ha : ∀ ov iv new, augStore i ov iv new = (do holding [new, ov, iv] (setItem ov iv new); release [new, ov, iv] []; pure .next)) :
    PS X (.AugAssign (.Subscript xo i p1) .Sub e pos) (tSt S Wd G W fix (.augI mp mi .sub me)) := s_augS ip_sub (fun a b d h => by
    cases a <;> first | (simp only [augD, reduceCtorEq] at h; done) | skip
    cases b <;> simp only [augD, reduceCtorEq, Option.some.injEq] at h
    exact ⟨_, _, rfl, rfl, h.symm⟩) hC ho hi he ha
theorem ks_swap (c : Ctx X S att k Wd) (p : Nat) {m1 m2 ma mb : ME} {x : Str} {i j e : Expr} {px p1 px2 p2 p3 pos : Pos} {n : Nat}
    (hi : PE X i (tEw S Wd G W true m1)) (hj : PE X j (tEw S Wd G W true m2)) (he : PE X e (tEw S Wd G W false (.tup (.cons ma (.cons mb .nil)))))
    (hx : PE X (.Name x px) (tP att S (ZW S Wd) G W (.slot p)) := by exact kp_slot _) (hx2 : PE X (.Name x px2) (tP att S (ZW S Wd) G W (.slot p)) := by exact kp_slot _)
    (ha : ∀ v, assign (.Subscript (.Name x px) i p1) X.env v = (do
      let ov ← holding [v] (eval (.Name x px) X.env)
      let iv ← holding [v, ov] (eval i X.env)
      standAt p1
      holding [v, ov, iv] (setItem ov iv v)
      release [v, ov, iv] []) := by intro _; rfl)
    (ha2 : ∀ v, assign (.Subscript (.Name x px2) j p2) X.env v = (do
      let ov ← holding [v] (eval (.Name x px2) X.env)
      let iv ← holding [v, ov] (eval j X.env)
      standAt p2
      holding [v, ov, iv] (setItem ov iv v)
      release [v, ov, iv] []) := by intro _; rfl)
    (hs : swapsWithSole [.Tuple [.Subscript (.Name x px) i p1, .Subscript (.Name x px2) j p2] n p3] e pos.line X.env = pure false := by rfl)
    (hw : swappedStores [.Tuple [.Subscript (.Name x px) i p1, .Subscript (.Name x px2) j p2] n p3] e X.env = pure none := by rfl)
    (h1 : (assignEach [.Tuple [.Subscript (.Name x px) i p1, .Subscript (.Name x px2) j p2] n p3] X.env).map (·.2) = [assign (.Tuple [.Subscript (.Name x px) i p1, .Subscript (.Name x px2) j p2] n p3) X.env] := by rfl)
    (c1 : (assignEach [.Subscript (.Name x px) i p1, .Subscript (.Name x px2) j p2] X.env).map (·.2) = assign (.Subscript (.Name x px) i p1) X.env :: (assignEach [.Subscript (.Name x px2) j p2] X.env).map (·.2) := by rfl)
    (c2 : (assignEach [.Subscript (.Name x px2) j p2] X.env).map (·.2) = assign (.Subscript (.Name x px2) j p2) X.env :: (assignEach [] X.env).map (·.2) := by rfl)
    (hn : (assignEach [.Subscript (.Name x px) i p1, .Subscript (.Name x px2) j p2] X.env).length = 2 := by rfl)
    (hst : (assignEach [.Subscript (.Name x px) i p1, .Subscript (.Name x px2) j p2] X.env).findIdx? (·.1) = none := by rfl) :
    PS X (.Assign [.Tuple [.Subscript (.Name x px) i p1, .Subscript (.Name x px2) j p2] n p3] e pos) (tSt S Wd G W fix (.swap p m1 m2 ma mb)) :=
  s_swap c.hC c.calm hx hx2 hi hj he ha ha2 hs hw h1 c1 c2 hn hst
theorem ks_augSA (c : Ctx X S att k Wd) {mp mi me : ME} {xo i e : Expr} {p1 pos : Pos} (ho : PE X xo (tP att S (ZW S Wd) G W mp)) (hi : PE X i (tEw S Wd G W true mi)) (he : PE X e (tEw S Wd G W true me))
    (ha : ∀ ov iv new, augStore i ov iv new = (do holding [new, ov, iv] (setItem ov iv new); release [new, ov, iv] []; pure .next) := by intros; rfl) :
    PS X (.AugAssign (.Subscript xo i p1) .Add e pos) (tSt S Wd G W fix (.augI mp mi .add me)) := s_augSA c.hC ho hi he ha
theorem ks_augSS (c : Ctx X S att k Wd) {mp mi me : ME} {xo i e : Expr} {p1 pos : Pos} (ho : PE X xo (tP att S (ZW S Wd) G W mp)) (hi : PE X i (tEw S Wd G W true mi)) (he : PE X e (tEw S Wd G W true me))
    (ha : ∀ ov iv new, augStore i ov iv new = (do holding [new, ov, iv] (setItem ov iv new); release [new, ov, iv] []; pure .next) := by intros; rfl) :
    PS X (.AugAssign (.Subscript xo i p1) .Sub e pos) (tSt S Wd G W fix (.augI mp mi .sub me)) := s_augSS c.hC ho hi he ha
end
end Ab
namespace Ab
open PySem L2
/-! Ab39: dicts -/
def tDispT (tk tv : TE) : TE := fun σ H Q => ∀ p, H p = none → tPairs [(tk, tv)] σ (upd H p (.dT [])) fun ps H2 => ∃ b k y, ps = [(.ref b, y)] ∧ H2 b = some (.tup (k.map kV)) ∧ H2 p = some (.dT []) ∧ Q (.ref p) (upd H2 p (.dT [(k, y)]))
section
variable {X : Cx}
theorem pe_dispT {pos : Pos} {k v : Expr} {tk tv : TE} (hu : X.A.units + 1 < cLine) (hk : PE X k tk) (hv : PE X v tv) : PE X (.Dict [some k] [v] pos) (tDispT tk tv) := by
  refine ⟨fun pins s σ H Q I q => ?_⟩
  have hn := I.hok.fresh (Nat.le_refl s.heap.objs.size)
  have I1 := I.laid (a := s.heap.objs.size) (o := .dT []) (h' := s.heap.push { cls := .type "dict", data := .dict #[] }) (t' := s.toks) (fun _ _ q => Heap.get?_push_of_some _ q) (Nat.le_refl _) (dt_empty s.heap I.big)
  have hsh := PySem.zip_pairTrees [some k] [v] X.env pos rfl rfl
  have hln := PySem.pairTrees_length [some k] [v] X.env pos rfl rfl
  rw [arm_eval_Dict, hsh, dictDisplay_pairs (pairTrees [some k] [v] X.env pos) (by intro e; rw [e] at hln; cases hln) (by rw [hln, List.length_singleton]; omega)]
  have hp : PPs X pos [some k] [v] [(tk, tv)] := pps_cons hk hv pps_nil
  refine wpAny_bind (wpAny_standAt (wpAny_bind (wpAny_subDictH (knd := tupleKind (mixKind X.prog X.w)) (by show X.A.units < cLine; omega) (by rw [hln, List.length_singleton]; omega) ?_)))
  refine thn (hp.run pins _ σ _ _ I1 (q _ hn)) ?_
  · rintro ws s2 ⟨ps, H2, I2, rel, b, k1, y, rfl, eb, ep, q2⟩
    cases rel with
    | @cons a b1 as bs h t =>
      cases t
      obtain ⟨b11, b12⟩ := b1
      obtain ⟨h1, h2⟩ := h
      cases (show b11 = Value.ref b from h1)
      obtain ⟨z, hd, xs, rel0, dd⟩ := dt_of I2.hok ep
      cases rel0
      refine ⟨[(k1, b, b12)], ⟨rfl, rfl, key_of I2.hok eb, trivial⟩, dd, fun h' tk' dd' hs => ?_⟩
      refine wpAny_pure ⟨.ref s.heap.objs.size, _, ?_, rfl, q2⟩
      obtain ⟨q, es, ep', hq, h2', h3, h4, _, h5⟩ := dd'
      refine d_write I2 (by rw [ep]; exact True.intro) hs ⟨q, hq⟩ ⟨by rw [List.length_singleton, sizeLine_eq]; decide, hd, _, (show KT _ _ [(k1, b, b12)] from .cons ⟨rfl, ?_, h2⟩ .nil), q, es, ep', hq, h2', h3, h4, h5⟩
      rw [upd_ne (ne_of eb ep (fun z => nomatch z))]
      exact eb
end
variable {S : Sig} {Wd : WX} {Z : L2.St → Nat → Hp → Prop} {fix : List Nat} {F F' H H' : Hp} {P : Fp} {σ : L2.St} {a a' : SA}
theorem Rep.dicO {t : Nat} {ks ds : List D} {vs : List V} {p : Addr} {Pd : Fp} (hk : ks.all (kOk t) = true) (hl : ks.length = ds.length) (h : Reps S F H ds vs Pd) (hp : ¬ Pd p) : Rep S F (upd H p (dO t ks vs)) (.dic true t ks ds) (.ref p) (Uni (One p) Pd) := by
  simp only [Rep]
  refine ⟨p, vs, rfl, hk, hl, ?_⟩
  rw [if_pos trivial]
  exact ⟨upd_same, .inl rfl, Pd, hp, rfl, Reps.keep (fun _ _ z => z) ds h fun x z => upd_ne fun e => hp (e ▸ z)⟩
theorem New.dic {t : Nat} {ks ds : List D} {vs : List V} {p : Addr} (hs : Same F H) (hk : ks.all (kOk t) = true) (hl : ks.length = ds.length) (h : Reps S F H ds vs Emp) (hp : H p = none) : New S F H (.dic true t ks ds) (.ref p) F (upd H p (dO t ks vs)) (One p) := by
  have r := Rep.dicO (p := p) hk hl h (fun z => z)
  rw [uni_emp] at r
  exact ⟨r, fun _ _ z => z, same_up hp, hs.trans (same_up hp), fun x e => by have e : x = p := e; rw [e]; exact hp, fun x e => by have e : x = p := e; rw [e]; exact hs.free hp, fun _ o z => .inl ⟨o, z⟩⟩
section
variable {X : Cx} {G : Env0A} {W : Nat} {att : Nat → Str}
theorem c_dnew (t : Nat) {pos : Pos} {v : Bool} : PE X (.Dict [] [] pos) (tE S Z G W v (.dnew t)) := by
  by_cases h0 : t = 0
  · refine pe_dnewK.weak fun σ H Q h p hp => ?_
    obtain ⟨F, P, a, sr, o⟩ := h
    simp only [ev] at o
    have n := New.dic (S := S) (F := F) (t := t) (ks := []) (ds := []) (vs := []) sr.sub rfl rfl (by simp only [Reps]; exact ⟨trivial, trivial⟩) hp
    rw [dO, if_pos h0] at n
    refine o (.ref p) F _ (One p) P ?_
    have := n.ok (P := P) (σ := σ) (kp := true) sr .refl (fun _ _ _ z => z)
    simpa [atE, rootOf, slotOf, pureE] using this
  · refine pe_dnewT.weak fun σ H Q h p hp => ?_
    obtain ⟨F, P, a, sr, o⟩ := h
    simp only [ev] at o
    have n := New.dic (S := S) (F := F) (t := t) (ks := []) (ds := []) (vs := []) sr.sub rfl rfl (by simp only [Reps]; exact ⟨trivial, trivial⟩) hp
    rw [dO, if_neg h0] at n
    refine o (.ref p) F _ (One p) P ?_
    have := n.ok (P := P) (σ := σ) (kp := true) sr .refl (fun _ _ _ z => z)
    simpa [atE, rootOf, slotOf, pureE] using this
/-- {k: v} -/
theorem dlit_ok {t : Nat} {ea eb : ME} {v : Bool} {H : Hp} {Q : VK} {o0 : HO} {p : Addr} (hp : H p = none) (h : tE S Z G W v (.dlit t ea eb) σ H Q)
    {R : V → V → Hp → Prop} (hR : ∀ F2 H2 kd d x y Pk Pd, Same F2 H2 → Rep S F2 H2 kd x Pk → Rep S F2 H2 d y Pd → kOk t kd = true → still d = true → H2 p = some o0 → Q (.ref p) (upd H2 p (dO t [kd] [y])) → R x y H2) :
    tE S Z G W true ea σ (upd H p o0) fun x H1 => tE S Z G W false eb σ H1 fun y H2 => R x y H2 := by
  obtain ⟨F, P, a, sr, o⟩ := h
  simp only [ev] at o
  have nP : ¬ P p := fun z => by
    obtain ⟨q, e⟩ := sr.rep.held p z
    rw [hp] at e; cases e
  have up := same_up (o := o0) hp
  have ex0 : Ext F F H (upd H p o0) P P := ⟨fun _ _ z => z, fun x q h _ => up x q h, fun x h => .inl h, fun x q h => .inl ⟨q, h⟩⟩
  have sr0 : SR S F (upd H p o0) a σ P := sr.keepF (fun _ _ z => z) (fun x q h => .inl ⟨q, h⟩) (sr.sub.trans up) up
  refine ⟨F, P, a, sr0, (o.bind.at ex0).imp fun kd a1 e1 o1 x F1 H1 P1 Pa1 ok1 => ⟨F1, Pa1, a1, ok1.sr, (o1.bind.at (ex0.trans ok1.ext)).imp fun d a2 e2 o2 y F2 H2 P2 Pa2 ok2 => ?_⟩⟩
  split at o2
  case isFalse => exact o2.elim
  rename_i hc
  simp only [Bool.and_eq_true] at hc
  have ex12 := ok1.ext.trans ok2.ext
  have e2 : H2 p = some o0 := ex12.kept p o0 upd_same nP
  have nPa : ¬ Pa2 p := fun z => (ex12.own p z).elim nP fun e => by rw [upd_same] at e; cases e
  have nF : F2 p = none := by
    cases q : F2 p with
    | none => rfl
    | some u =>
      rcases ex12.frz p u q with ⟨w, z⟩ | z | z
      · rw [sr.sub.free hp] at z; cases z
      · exact (nP z).elim
      · rw [upd_same] at z; cases z
  have hpd := ok2.rep.still d hc.2
  subst hpd
  have kst : ∃ Pk, Rep S F2 H2 kd x Pk := by
    have hks : still kd = true := by
      rcases kOk_of hc.1 with ⟨_, i, rfl⟩ | ⟨_, l, rfl⟩ <;> rfl
    have hpk := ok1.rep.still kd hks
    subst hpk
    exact ⟨Emp, ok2.ext.aside ok1.rep emp_dis⟩
  obtain ⟨Pk, rk⟩ := kst
  refine hR F2 H2 kd d x y Pk Emp ok2.sr.sub rk ok2.rep hc.1 hc.2 e2 ?_
  have rds : Reps S F2 H2 [d] [y] Emp := by
    simp only [Reps]
    exact ⟨y, [], Emp, Emp, rfl, (uni_emp _).symm, emp_dis, ok2.rep, rfl, rfl⟩
  have rn := Rep.dicO (p := p) (t := t) (ks := [kd]) (ds := [d]) (by simp [hc.1]) rfl rds (fun z => z)
  rw [uni_emp] at rn
  have sub2 : Same F2 (upd H2 p (dO t [kd] [y])) := fun b q e => by
    rw [upd_ne (show b ≠ p from fun z => by rw [z, nF] at e; cases e)]
    exact ok2.sr.sub b q e
  have sr2 : SR S F2 (upd H2 p (dO t [kd] [y])) a2 σ Pa2 := ⟨ok2.sr.rep.keep (fun _ _ z => z) fun b hb => upd_ne fun z => nPa (z ▸ hb), ok2.sr.fr, sub2⟩
  have exA : Ext F F2 H H2 P Pa2 := ex0.trans ex12
  have exB : Ext F F2 H (upd H2 p (dO t [kd] [y])) P Pa2 := ⟨exA.same, fun b q e n => by
    rw [upd_ne (show b ≠ p from fun z => by rw [z, hp] at e; cases e)]
    exact exA.kept b q e n, exA.own, exA.frz⟩
  have exC : Ext F F2 H (upd H2 p (dO t [kd] [y])) P (Uni (One p) Pa2) := ⟨exB.same, exB.kept, fun b h => h.elim (fun z => .inr (by have z : b = p := z; rw [z]; exact hp)) (exB.own b), exB.frz⟩
  refine o2 _ F2 _ (One p) Pa2 ⟨rn, sr2, exB, fun _ => exC, fun _ => fun b h1 h2 => by have h1 : b = p := h1; exact nPa (h1 ▸ h2), fun _ b h1 => by have h1 : b = p := h1; rw [h1]; exact nF, fun hkp => fun b q e => ?_, fun i h => by simp [atE, slotOf] at h⟩
  simp only [atE, pureE, Bool.and_eq_true] at hkp
  rw [upd_ne (show b ≠ p from fun z => by rw [z, hp] at e; cases e)]
  exact ok2.same hkp.2 b q (ok1.same hkp.1 b q (up b q e))
theorem c_dlit (t : Nat) {ea eb : ME} {k x : Expr} {pos : Pos} {v : Bool} (hu : X.A.units + 1 < cLine) (hk : PE X k (tE S Z G W true ea)) (hx : PE X x (tE S Z G W false eb)) : PE X (.Dict [some k] [x] pos) (tE S Z G W v (.dlit t ea eb)) := by
  by_cases h0 : t = 0
  · refine (pe_disp (pps_cons hk hx pps_nil) rfl rfl (by simp) (by simp)).weak fun σ H Q h p hp => ?_
    refine dlit_ok hp h fun F2 H2 kd d x y Pk Pd sub rk rd hko hst e2 q => ?_
    subst h0
    have ek := (key_at sub rk).1 hko
    subst ek
    refine ⟨e2, [(kI kd, y)], rfl, by simp, ?_⟩
    exact q
  · have h1 : kOk t = kOk t := rfl
    refine (pe_dispT hu hk hx).weak fun σ H Q h p hp => ?_
    refine dlit_ok hp h fun F2 H2 kd d x y Pk Pd sub rk rd hko hst e2 q => ?_
    rcases kOk_of hko with ⟨e, _⟩ | ⟨e, l, rfl⟩
    · exact absurd e h0
    · subst e
      obtain ⟨b, rfl, eb⟩ := (key_at sub rk).2 hko
      exact ⟨b, _, y, rfl, eb, e2, q⟩
theorem getK_some {d k e : D} (h : getK d k = some e) : ∃ m t ks ds, d = .dic m t ks ds ∧ kOk t k = true ∧ dval ks ds k = some e := by
  cases d <;> simp only [getK, reduceCtorEq] at h
  split at h
  · rename_i hk; exact ⟨_, _, _, _, rfl, hk, h⟩
  · cases h
theorem c_dget {ea ei : ME} {x i : Expr} {pos : Pos} {v : Bool} (hu : X.A.units + 1 < cLine) (ha : PE X x (tE S Z G W true ea)) (hi : PE X i (tE S Z G W true ei)) (hn : NoSl i) : PE X (.Subscript x i pos) (tE S Z G W v (.dget ea ei)) := by
  refine (pe_dget hu ha hi hn).weak fun σ H Q h => ?_
  refine tA_two (ta := atE true ea) (tb := atE true ei) h fun F P a d1 a1 v1 F1 H1 P1 Pa1 d2 a2 v2 F2 H2 P2 Pa2 sr o1 o2 out => ?_
  split at out
  · rename_i d ed
    simp only [Option.bind_eq_some_iff] at ed
    obtain ⟨d1', es, ed⟩ := ed
    obtain ⟨P1', r1, q1⟩ := stayed o1 o2 es rfl rfl
    obtain ⟨m, t, ks, ds, rfl, hk, hv⟩ := getK_some ed
    obtain ⟨p, rfl, hg⟩ := dget_rep o2.sr.sub r1 o2.rep hk
    rcases hg with ⟨_, d', w, Pd, h2, h3, r, sb⟩ | ⟨_, h2, _⟩
    · rw [hv] at h2; cases h2
      refine ⟨p, w, rfl, h3, ?_⟩
      split at out
      · rename_i hst
        have e0 := r.still d hst
        subst e0
        exact out w F2 H2 Emp Pa2 (.flat o2.sr (o1.ext.trans o2.ext) (fun h => pure2 o1 o2 (by simpa [atE, pureE] using h)) rfl r)
      · exact out.elim
    · rw [hv] at h2; cases h2
  · exact out.elim
theorem getKD_some {d k x e : D} (h : getKD d k x = some e) : ∃ m t ks ds, d = .dic m t ks ds ∧ kOk t k = true ∧ (dval ks ds k).getD x = e := by
  cases d <;> simp only [getKD, reduceCtorEq] at h
  split at h
  · rename_i hk; cases h; exact ⟨_, _, _, _, rfl, hk, rfl⟩
  · cases h
theorem kOk_still {t : Nat} {k : D} (h : kOk t k = true) : still k = true := by
  rcases kOk_of h with ⟨_, i, rfl⟩ | ⟨_, l, rfl⟩ <;> rfl
theorem c_dgetD {ea ei ex : ME} {o i x : Expr} {apos pos : Pos} {v : Bool} (hu : X.A.units + 1 < cLine) (ha : PE X o (tE S Z G W true ea)) (hi : PE X i (tE S Z G W true ei)) (hx : PE X x (tE S Z G W false ex)) (m : M2 X o "get" apos i x pos) : PE X (.Call (.Attribute o "get" apos) [i, x] [] pos) (tE S Z G W v (.dgetD ea ei ex)) := by
  refine (pe_dget2 hu ha hi hx m).weak fun σ H Q h => ?_
  obtain ⟨F, P, a, sr, o⟩ := h
  simp only [ev] at o
  refine ⟨F, P, a, sr, o.bind.imp fun d1 a1 e1 o1 v1 F1 H1 P1 Pa1 ok1 => ?_⟩
  split at o1
  · exact o1.elim
  rename_i hd
  obtain ⟨m1, t1, ks1, ds1, rfl⟩ : ∃ m t ks ds, d1 = .dic m t ks ds := by
    cases d1 <;> first | exact ⟨_, _, _, _, rfl⟩ | exact absurd rfl hd
  obtain ⟨p, vs, P', rfl, _, _, hrd, _, _⟩ := ok1.rep.dic_at ok1.sr.sub
  have hisd : IsD H1 p := by
    unfold dO at hrd
    split at hrd
    · exact .inl ⟨_, hrd⟩
    · exact .inr ⟨_, hrd⟩
  refine ⟨p, rfl, hisd, F1, Pa1, a1, ok1.sr, (o1.bind.at ok1.ext).imp fun kd a2 e2 o2 y F2 H2 P2 Pa2 ok2 => ⟨F2, Pa2, a2, ok2.sr, (o2.bind.at (ok1.ext.trans ok2.ext)).imp fun dx a3 e3 o3 z F3 H3 P3 Pa3 ok3 => ?_⟩⟩
  split at o3
  · rename_i d ed
    simp only [Option.bind_eq_some_iff] at ed
    obtain ⟨d1', es, ed⟩ := ed
    obtain ⟨P1', r1⟩ := stayed' ok1 ok3.sr (ok2.ext.trans ok3.ext) (same_trans' ok2.same ok3.same) es
    obtain ⟨m, t, ks, ds, rfl, hk, hv⟩ := getKD_some ed
    have hpk := ok2.rep.still kd (kOk_still hk)
    subst hpk
    have rk := ok3.ext.aside ok2.rep emp_dis
    obtain ⟨p', ep, hg⟩ := dget_rep ok3.sr.sub r1 rk hk
    cases ep
    split at o3
    case isFalse => exact o3.elim
    rename_i hst
    simp only [Bool.and_eq_true] at hst
    have exA := ok1.ext.trans (ok2.ext.trans ok3.ext)
    have smA : (pureE (.dgetD ea ei ex)) = true → Same H H3 := fun h => by
      simp only [pureE, Bool.and_eq_true] at h
      exact (ok1.same h.1.1).trans ((ok2.same h.1.2).trans (ok3.same h.2))
    rcases hg with ⟨_, d', w, Pd, h2, h3, r, sb⟩ | ⟨_, h2, h3⟩
    · rw [h2] at hv; cases hv
      have e0 := r.still _ hst.2
      subst e0
      exact ⟨_, h3, o3 w F3 H3 Emp Pa3 (.flat ok3.sr exA smA rfl r)⟩
    · rw [h2] at hv; cases hv
      have e0 := ok3.rep.still _ hst.1
      subst e0
      exact ⟨_, h3, o3 z F3 H3 Emp Pa3 (.flat ok3.sr exA smA rfl ok3.rep)⟩
  · exact o3.elim
theorem c_isb {ea : ME} {b : Bool} {x : Expr} {j : Nat} {p pos : Pos} {v : Bool} (ha : PE X x (tE S Z G W true ea)) : PE X (.Compare x [.Is] [.Constant (.bool b) j p] pos) (tE S Z G W v (.isb b ea)) := by
  refine (pe_cmpR op_isBl ha pe_bl (by rfl)).weak fun σ H Q h => ?_
  refine tA_one (ta := atE true ea) h fun F P a d1 a1 v1 F1 H1 P1 Pa1 sr o1 out => ?_
  obtain ⟨d, e, q⟩ := out.of
  cases d1 <;> simp only [isB, reduceCtorEq, Option.some.injEq] at e
  subst e
  obtain ⟨rfl, _⟩ := rep_bl.mp o1.rep
  exact ⟨_, _, rfl, rfl, q _ F1 H1 Emp Pa1 (.flat o1.sr o1.ext o1.same rfl (rep_bl.mpr ⟨rfl, rfl⟩))⟩
/-! stores -/
def vupd : List D → List V → D → V → List V
  | k :: ks, u :: vs, x, w => (if eqD k x then w else u) :: vupd ks vs x w
  | _, _, _, _ => []
theorem dupd_len : ∀ (ks ds : List D) (x d : D), ks.length = ds.length → (dupd ks ds x d).length = ks.length
  | [], ds, x, d, h => by cases ds <;> rfl
  | k :: ks, [], x, d, h => by simp at h
  | k :: ks, e :: ds, x, d, h => by simp [dupd, dupd_len ks ds x d (by simpa using h)]
theorem put_zip {κ : Type} [DecidableEq κ] (ky : D → κ) {t : Nat} (he : ∀ a b, kOk t a = true → kOk t b = true → eqD a b = decide (ky a = ky b)) {kd : D} (hk : kOk t kd = true) (w : V) : ∀ {ks : List D} {vs : List V}, ks.all (kOk t) = true → ks.length = vs.length →
    (((ks.map ky).zip vs).map fun kv => if kv.1 = ky kd then (kv.1, w) else kv) = (ks.map ky).zip (vupd ks vs kd w)
  | [], vs, _, hl => by cases vs <;> rfl
  | k :: ks, [], _, hl => by simp at hl
  | k :: ks, u :: vs, ha, hl => by
    simp only [List.all_cons, Bool.and_eq_true] at ha
    have e := he k kd ha.1 hk
    simp only [List.map_cons, List.zip_cons_cons, vupd, put_zip ky he hk w ha.2 (show ks.length = vs.length by simpa using hl)]
    by_cases h : ky k = ky kd
    · rw [decide_eq_true h] at e; simp [h, e]
    · rw [decide_eq_false h] at e; simp [h, e]
theorem any_zip {κ : Type} [DecidableEq κ] (ky : D → κ) {t : Nat} (he : ∀ a b, kOk t a = true → kOk t b = true → eqD a b = decide (ky a = ky b)) {kd : D} (hk : kOk t kd = true) : ∀ {ks : List D} {vs : List V}, ks.all (kOk t) = true → ks.length = vs.length →
    (((ks.map ky).zip vs).any fun kv => decide (kv.1 = ky kd)) = memD kd ks
  | [], vs, _, hl => by cases vs <;> rfl
  | k :: ks, [], _, hl => by simp at hl
  | k :: ks, u :: vs, ha, hl => by
    simp only [List.all_cons, Bool.and_eq_true] at ha
    have ih := any_zip ky he hk ha.2 (show ks.length = vs.length by simpa using hl)
    simp only [List.map_cons, List.zip_cons_cons, List.any_cons, ih, memD, he k kd ha.1 hk]
theorem zip_snoc {α β : Type} {a : α} {b : β} : ∀ {l : List α} {m : List β}, l.length = m.length → l.zip m ++ [(a, b)] = (l ++ [a]).zip (m ++ [b])
  | [], m, h => by cases m <;> simp at h ⊢
  | x :: l, [], h => by simp at h
  | x :: l, y :: m, h => by simp only [List.zip_cons_cons, List.cons_append, zip_snoc (show l.length = m.length by simpa using h)]
theorem Reps.upd {kd d : D} {w : V} (rd : Rep S F H d w Emp) : ∀ {ks ds : List D} {vs : List V} {P : Fp}, ks.length = ds.length → Reps S F H ds vs P → ∃ P2, Reps S F H (dupd ks ds kd d) (vupd ks vs kd w) P2 ∧ ∀ x, P2 x → P x
  | [], ds, vs, P, hl, r => by
    cases ds with
    | nil => simp only [Reps] at r; obtain ⟨rfl, rfl⟩ := r; exact ⟨Emp, by simp [dupd, vupd, Reps], fun x z => z⟩
    | cons _ _ => simp at hl
  | k :: ks, [], vs, P, hl, r => by simp at hl
  | k :: ks, e :: ds, vs, P, hl, r => by
    simp only [Reps] at r
    obtain ⟨v, vr, P1, P2, rfl, rfl, di, r1, r2⟩ := r
    obtain ⟨P3, r3, sb⟩ := Reps.upd rd (kd := kd) (show ks.length = ds.length by simpa using hl) r2
    simp only [dupd, vupd, Reps]
    by_cases h : eqD k kd = true
    · rw [if_pos h, if_pos h]
      exact ⟨P3, ⟨w, _, Emp, P3, rfl, (emp_uni _).symm, emp_dis, rd, r3⟩, fun x z => .inr (sb x z)⟩
    · rw [if_neg h, if_neg h]
      exact ⟨Uni P1 P3, ⟨v, _, P1, P3, rfl, rfl, fun x h1 h2 => di x h1 (sb x h2), r1, r3⟩, fun x z => z.elim .inl fun z => .inr (sb x z)⟩
theorem s_dset {i : Nat} {mk me : ME} {x : Str} {k e : Expr} {px p1 pos : Pos} (hu : X.A.units + 1 < cLine) (hN : X.N[i]? = some x) (hv : Vis X.env.scope x) (hd : (x == ("__debug__" : Str)) = false) (hcd : (x == ("__classdict__" : Str)) = false)
    (hk : PE X k (tEw S Wd G W true mk)) (he : PE X e (tEw S Wd G W false me)) : PS X (.Assign [.Subscript (.Name x px) k p1] e pos) (tSt S Wd G W fix (.dset i mk me)) :=
  (ps_dput hu (pe_var hN hv hd hcd) hk he (sw_other (t := .Subscript (.Name x px) k p1) (l := pos.line) (env := X.env) rfl)).weak fun E σ H h => by
    obtain ⟨F, P, a, sr, out⟩ := h
    simp only [ex] at out
    refine ⟨F, P, a, sr, out.head.imp fun d a1 e1 o1 v F1 H1 P1 Pa1 ok1 => ?_⟩
    split at o1
    case isFalse => exact o1.elim
    rename_i hsome
    obtain ⟨d0, hd0⟩ := Option.isSome_iff_exists.mp hsome
    obtain ⟨w, _, _, ew, _⟩ := ok1.sr.rep.focus (rd_some hd0)
    refine ⟨w, ew, F1, Pa1, a1, ok1.sr, (o1.head.at ok1.ext).imp fun kd a2 e2 o2 y F2 H2 P2 Pa2 ok2 => ?_⟩
    split at o2
    case h_2 => exact o2.elim
    rename_i t ks ds hrd
    split at o2
    case isFalse => exact o2.elim
    rename_i hc
    simp only [Bool.and_eq_true] at hc
    obtain ⟨⟨hk, hst⟩, hln⟩ := hc
    have e0 := ok1.rep.still d hst
    subst e0
    have rv := ok2.ext.aside ok1.rep emp_dis
    obtain ⟨w', R1, R2, ew', eP, di, re, _, up⟩ := ok2.sr.rep.focus (rd_some hrd)
    rw [ew] at ew'; cases ew'
    simp only [Rep] at re
    obtain ⟨p, vs, rfl, hks, hl, re⟩ := re
    rw [if_pos trivial] at re
    obtain ⟨ep, _, P', np, rfl, rs⟩ := re
    have hvl := Reps.len rs
    have hFp : F2 p = none := ok2.sr.fr p (by rw [eP]; exact .inl (.inl rfl))
    have n2 : ¬ R2 p := fun z => di p (.inl rfl) z
    have hlt : ks.length < sizeLine := by simpa [line] using hln
    -- the dict as it is stored
    obtain ⟨ks', ds', vs', Q', en, hks', hl', rs', sb, hput⟩ : ∃ ks' ds' vs' Q', dput t ks ds kd d = .dic true t ks' ds' ∧ ks'.all (kOk t) = true ∧ ks'.length = ds'.length ∧ Reps S F2 H2 ds' vs' Q' ∧ (∀ x, Q' x → P' x) ∧ DPut H2 p y v (upd H2 p (dO t ks' vs')) := by
      have core : ∃ ks' ds' vs' Q', dput t ks ds kd d = .dic true t ks' ds' ∧ ks'.all (kOk t) = true ∧ ks'.length = ds'.length ∧ Reps S F2 H2 ds' vs' Q' ∧ (∀ x, Q' x → P' x) ∧
          (∀ (κ : Type) [DecidableEq κ] (ky : D → κ), (∀ a b, kOk t a = true → kOk t b = true → eqD a b = decide (ky a = ky b)) → putK ((ks.map ky).zip vs) (ky kd) v = (ks'.map ky).zip vs') := by
        by_cases hm : memD kd ks = true
        · obtain ⟨Q', r', sb⟩ := Reps.upd (kd := kd) rv hl rs
          refine ⟨ks, _, _, Q', by rw [dput, if_pos hm], hks, (dupd_len ks ds kd d hl).symm, r', sb, fun κ _ ky he => ?_⟩
          have h1 := any_zip (vs := vs) ky he hk hks (by omega)
          rw [hm] at h1
          rw [putK, if_pos h1]
          exact put_zip ky he hk v hks (by omega)
        · have hm := Bool.not_eq_true _ |>.mp hm
          refine ⟨ks ++ [kd], ds ++ [d], vs ++ [v], Uni P' Emp, by rw [dput, hm]; rfl, by rw [List.all_append, hks]; simp [hk], by simp [hl], rs.snoc rv dis_emp, fun x z => z.elim id False.elim, fun κ _ ky he => ?_⟩
          have h1 := any_zip (vs := vs) ky he hk hks (by omega)
          rw [hm] at h1
          rw [putK, if_neg (by rw [h1]; decide), zip_snoc (by rw [List.length_map]; omega), List.map_append]; rfl
      obtain ⟨ks', ds', vs', Q', h1, h2, h3, h4, h5, h6⟩ := core
      refine ⟨ks', ds', vs', Q', h1, h2, h3, h4, h5, ?_⟩
      obtain ⟨k0, k1⟩ := key_at ok2.sr.sub ok2.rep
      have hzl : ∀ (κ : Type) (ky : D → κ), ((ks.map ky).zip vs).length < sizeLine := fun κ ky => by rw [List.length_zip, List.length_map]; omega
      rcases kOk_of hk with ⟨rfl, _⟩ | ⟨rfl, _⟩
      · have ey := k0 hk
        subst ey
        have := DPut.k (v := v) (k := kI kd) (show H2 p = some (.dK ((ks.map kI).zip vs)) from ep) (hzl _ _)
        rw [h6 _ kI fun a b => eqD_kI] at this
        exact this
      · obtain ⟨b, rfl, eb⟩ := k1 hk
        have := DPut.t (v := v) (show H2 p = some (.dT ((ks.map kT).zip vs)) from ep) eb (hzl _ _)
        rw [h6 _ kT fun a b => eqD_kT] at this
        exact this
    refine ⟨p, _, rfl, hput, ?_⟩
    have nQ : ¬ Q' p := fun z => np (sb p z)
    have rl := Rep.dicO (p := p) hks' hl' rs' nQ
    have d2 : Dis (Uni (One p) Q') R2 := Dis.uni (fun x h1 h2 => by have h1 : x = p := h1; rw [h1] at h2; exact n2 h2) fun x h1 h2 => di x (.inr (sb x h1)) h2
    have rS := up F2 (upd H2 p (dO t ks' vs')) R2 (RepS.keep (fun _ _ z => z) ‹_› fun x hx => upd_ne fun z => n2 (z ▸ hx)) _ _ rl d2
    have sbA : ∀ x, Uni (Uni (One p) Q') R2 x → Pa2 x := fun x h => by
      rw [eP]
      rcases h with (h | h) | h
      · exact .inl (.inl h)
      · exact .inl (.inr (sb x h))
      · exact .inr h
    have sr4 : SR S F2 (upd H2 p (dO t ks' vs')) (a2.set i (some (dput t ks ds kd d))) σ (Uni (Uni (One p) Q') R2) := ⟨by rw [en]; exact rS, fun x h => ok2.sr.fr x (sbA x h), fun x q e => by
      rw [upd_ne (show x ≠ p from fun z => by rw [z, hFp] at e; cases e)]
      exact ok2.sr.sub x q e⟩
    exact o2 σ F2 _ _ sr4 ((ok1.ext.trans ok2.ext).trans ((Ext.updIn (by rw [eP]; exact .inl (.inl rfl))).less sbA)) Fix.rfl'
theorem k_dnew (t : Nat) {pos : Pos} {v : Bool} : PE X (.Dict [] [] pos) (tE S Z G W v (.dnew t)) := c_dnew t
variable {k : Nat}
theorem k_dlit (c : Ctx X S att k Wd) (t : Nat) {ea eb : ME} {x y : Expr} {pos : Pos} {v : Bool} (ha : PE X x (tE S Z G W true ea)) (hb : PE X y (tE S Z G W false eb)) : PE X (.Dict [some x] [y] pos) (tE S Z G W v (.dlit t ea eb)) := c_dlit t (by have := c.hu; omega) ha hb
theorem k_dget (c : Ctx X S att k Wd) {ea ei : ME} {x i : Expr} {pos : Pos} {v : Bool} (ha : PE X x (tE S Z G W true ea)) (hi : PE X i (tE S Z G W true ei)) (hn : NoSl i := by intro _ _; rfl) : PE X (.Subscript x i pos) (tE S Z G W v (.dget ea ei)) := c_dget (by have := c.hu; omega) ha hi hn
theorem k_dgetD (c : Ctx X S att k Wd) {ea ei ex : ME} {o i x : Expr} {apos pos : Pos} {v : Bool} (ha : PE X o (tE S Z G W true ea)) (hi : PE X i (tE S Z G W true ei)) (hx : PE X x (tE S Z G W false ex)) (m : M2 X o "get" apos i x pos := by exact ⟨rfl, rfl, rfl, rfl⟩) :
    PE X (.Call (.Attribute o "get" apos) [i, x] [] pos) (tE S Z G W v (.dgetD ea ei ex)) := c_dgetD (by have := c.hu; omega) ha hi hx m
theorem k_isb (b : Bool) {ea : ME} {x : Expr} {j : Nat} {p pos : Pos} {v : Bool} (ha : PE X x (tE S Z G W true ea)) : PE X (.Compare x [.Is] [.Constant (.bool b) j p] pos) (tE S Z G W v (.isb b ea)) := c_isb ha
theorem ks_dset (c : Ctx X S att k Wd) (i : Nat) {mk me : ME} {x : Str} {e1 e : Expr} {px p1 pos : Pos} (hk : PE X e1 (tEw S Wd G W true mk)) (he : PE X e (tEw S Wd G W false me)) (hN : X.N[i]? = some x := by rfl) (hv : Vis X.env.scope x := by first | exact Or.inl rfl | exact Or.inr (Or.inl rfl) | exact Or.inr (Or.inr rfl))
    (hd : (x == ("__debug__" : Str)) = false := by decide) (hcd : (x == ("__classdict__" : Str)) = false := by decide) : PS X (.Assign [.Subscript (.Name x px) e1 p1] e pos) (tSt S Wd G W fix (.dset i mk me)) := s_dset (by have := c.hu; omega) hN hv hd hcd hk he
end
end Ab
namespace Ab
open PySem L2
def f_fits : MF := -- 0
  ⟨2, 3, [], (.cons (.ite (.cmp .eq (.bi1 .len (.slot 0)) (.int 0)) (.cons (.ret (.bl false)) .nil) .nil) (.cons (.forr (.name 2) (.r1 (.bi1 .len (.slot 0))) (.cons (.ite (.or (.cmp .lt (.sub (.slot 0) (.slot 2)) (.int 0)) (.or (.cmp .ge (.sub (.slot 0) (.slot 2)) (.slot 1)) (.and (.cmp .gt (.slot 2) (.int 0)) (.cmp .le (.sub (.slot 0) (.slot 2)) (.sub (.slot 0) (.bin .sub (.slot 2) (.int 1))))))) (.cons (.ret (.bl false)) .nil) .nil) .nil)) (.cons (.ret (.bl true)) .nil)))⟩
def f_Alphabet_init : MF := -- 1
  ⟨3, 5, [0], (.cons (.asg 3 (.and2 (.chain .le .le (.int 1) (.slot 1) (.glob "MOST_PLACES" 4)) (.chain .le .le (.int 1) (.bi1 .len (.slot 2)) (.glob "MOST_LETTERS" 6)))) (.cons (.forr (.name 4) (.of (.slot 2)) (.cons (.asg 3 (.and2 (.slot 3) (.call 0 (.cons (.rd (.slot 4)) (.cons (.rd (.slot 1)) .nil))))) .nil)) (.cons (.ite (.not (.val (.slot 3))) (.cons (.raise 0) .nil) .nil) (.cons (.setF 0 0 (.slot 1)) (.cons (.setF 0 1 (.bi1 .tuple (.comp 4 (.bi1 .tuple (.slot 4)) (.of (.slot 2)) .none))) .nil)))))⟩
def f_independent : MF := -- 2
  ⟨3, 4, [], (.cons (.forr (.name 3) (.of (.sub (.fld (.slot 0) 1) (.slot 1))) (.cons (.ite (.cmp .inn (.slot 3) (.sub (.fld (.slot 0) 1) (.slot 2))) (.cons (.ret (.bl false)) .nil) .nil) .nil)) (.cons (.ret (.bl true)) .nil))⟩
def f_l_draws : MF := -- 5
  ⟨2, 9, [], (.cons (.asg 2 (.bi1 .list (.slot 0))) (.cons (.ite (.cmp .eq (.bi1 .len (.slot 2)) (.int 0)) (.cons (.asg 2 (.lst (.cons (.int 7) .nil))) .nil) .nil) (.cons (.asg 3 (.lst .nil)) (.cons (.asg 4 (.int 12345)) (.cons (.forr (.name 5) (.r1 (.slot 1)) (.cons (.asg 6 (.bin .mod (.slot 5) (.bi1 .len (.slot 2)))) (.cons (.asg 7 (.sub (.slot 2) (.slot 6))) (.cons (.asg 4 (.bin .mod (.bi1 .int (.bin .add (.bin .add (.bin .add (.bin .mul (.slot 4) (.int 48271)) (.bin .mul (.bin .mod (.bi1 .int (.slot 7)) (.int 1000003)) (.int 69621))) (.bin .mul (.slot 5) (.int 7919))) (.int 11))) (.int 2147483647))) (.cons (.asg 8 (.bin .mod (.bi1 .int (.bin .add (.bin .add (.bin .mul (.slot 4) (.slot 4)) (.bin .mul (.int 31) (.slot 4))) (.slot 5))) (.int 1000003))) (.cons (.ite (.cmp .ge (.slot 7) (.bin .pow (.int 10) (.int 18))) (.cons (.append (.slot 3) (.bin .mod (.bi1 .int (.slot 7)) (.int 1000))) (.cons (.setI (.slot 2) (.slot 6) (.bin .fdiv (.slot 7) (.int 1000))) .nil)) (.cons (.append (.slot 3) (.bin .mod (.bi1 .int (.slot 8)) (.int 1000))) .nil)) .nil)))))) (.cons (.reverse (.slot 3)) (.cons (.ret (.slot 3)) .nil)))))))⟩
def f_l_take : MF := -- 6
  ⟨2, 2, [0], (.cons (.ite (.cmp .eq (.bi1 .len (.slot 0)) (.int 0)) (.cons (.ret (.int 0)) .nil) .nil) (.cons (.ret (.bin .mod (.bi1 .int (.pop 0)) (.slot 1))) .nil))⟩
def f_l_alphabet : MF := -- 7
  ⟨3, 9, [0], (.cons (.asg 3 (.bin .add (.int 1) (.call 6 (.cons (.mv 0) (.cons (.rd (.slot 1)) .nil))))) (.cons (.asg 4 (.lst .nil)) (.cons (.forr (.name 5) (.r1 (.bin .add (.int 1) (.call 6 (.cons (.mv 0) (.cons (.rd (.slot 2)) .nil))))) (.cons (.asg 6 (.sub (.lst (.cons (.int 1) (.cons (.int 1) (.cons (.int 1) (.cons (.int 2) (.cons (.int 2) (.cons (.int 3) .nil))))))) (.call 6 (.cons (.mv 0) (.cons (.rd (.int 6)) .nil))))) (.cons (.asg 7 (.comp 8 (.call 6 (.cons (.mv 0) (.cons (.rd (.slot 3)) .nil))) (.r1 (.slot 6)) .none)) (.cons (.append (.slot 4) (.bi1 .tuple (.bi1 .sset (.slot 7)))) .nil)))) (.cons (.ret (.tup (.cons (.slot 3) (.cons (.slot 4) .nil)))) .nil))))⟩
def f_l_free : MF := -- 8
  ⟨3, 4, [], (.cons (.ret (.cmp .eq (.bi1 .len (.comp 3 (.slot 3) (.of (.sub (.slot 0) (.slot 1))) (.some (.cmp .inn (.slot 3) (.sub (.slot 0) (.slot 2)))))) (.int 0))) .nil)⟩
def f_place_word : MF := -- 12
  ⟨3, 4, [], (.cons (.ret (.bi1 .tuple (.comp 3 (.slot 3) (.of (.slot 1)) (.some (.cmp .inn (.slot 2) (.sub (.fld (.slot 0) 1) (.slot 3))))))) .nil)⟩
def f_equivalent : MF := -- 13
  ⟨3, 4, [], (.cons (.forr (.name 3) (.r1 (.fld (.slot 0) 0)) (.cons (.ite (.cmp .ne (.call 12 (.cons (.rd (.slot 0)) (.cons (.rd (.slot 1)) (.cons (.rd (.slot 3)) .nil)))) (.call 12 (.cons (.rd (.slot 0)) (.cons (.rd (.slot 2)) (.cons (.rd (.slot 3)) .nil))))) (.cons (.ret (.bl false)) .nil) .nil) .nil)) (.cons (.ret (.bl true)) .nil))⟩
def f_l_word : MF := -- 14
  ⟨3, 4, [0], (.cons (.ret (.bi1 .tuple (.comp 3 (.call 6 (.cons (.mv 0) (.cons (.rd (.slot 1)) .nil))) (.r1 (.call 6 (.cons (.mv 0) (.cons (.rd (.bin .add (.slot 2) (.int 1))) .nil)))) .none))) .nil)⟩
def f_l_place : MF := -- 15
  ⟨3, 4, [], (.cons (.ret (.bi1 .tuple (.comp 3 (.slot 3) (.of (.slot 1)) (.some (.cmp .inn (.slot 2) (.sub (.slot 0) (.slot 3))))))) .nil)⟩
def f_l_shuffled : MF := -- 16
  ⟨4, 8, [0], (.cons (.asg 4 (.bi1 .list (.slot 2))) (.cons (.forr (.name 5) (.r1 (.slot 3)) (.cons (.ite (.cmp .gt (.bi1 .len (.slot 4)) (.int 1)) (.cons (.asg 6 (.call 6 (.cons (.mv 0) (.cons (.rd (.bin .sub (.bi1 .len (.slot 4)) (.int 1))) .nil)))) (.cons (.ite (.val (.call 8 (.cons (.rd (.slot 1)) (.cons (.rd (.sub (.slot 4) (.slot 6))) (.cons (.rd (.sub (.slot 4) (.bin .add (.slot 6) (.int 1)))) .nil))))) (.cons (.asg 7 (.sub (.slot 4) (.slot 6))) (.cons (.setI (.slot 4) (.slot 6) (.sub (.slot 4) (.bin .add (.slot 6) (.int 1)))) (.cons (.setI (.slot 4) (.bin .add (.slot 6) (.int 1)) (.slot 7)) .nil))) .nil) .nil)) .nil) .nil)) (.cons (.ret (.bi1 .tuple (.slot 4))) .nil)))⟩
def f_swaps : MF := -- 17
  ⟨3, 7, [], (.cons (.ite (.not (.val (.call 13 (.cons (.rd (.slot 0)) (.cons (.rd (.slot 1)) (.cons (.rd (.slot 2)) .nil)))))) (.cons (.ret .non) .nil) .nil) (.cons (.asg 3 (.bi1 .list (.slot 1))) (.cons (.asg 4 (.lst .nil)) (.cons (.forr (.name 5) (.r1 (.bi1 .len (.slot 2))) (.cons (.asg 6 (.slot 5)) (.cons (.whil (.cmp .ne (.sub (.slot 3) (.slot 6)) (.sub (.slot 2) (.slot 5))) (.cons (.aug 6 .add (.int 1)) .nil)) (.cons (.whil (.cmp .gt (.slot 6) (.slot 5)) (.cons (.swap 3 (.bin .sub (.slot 6) (.int 1)) (.slot 6) (.sub (.slot 3) (.slot 6)) (.sub (.slot 3) (.bin .sub (.slot 6) (.int 1)))) (.cons (.aug 6 .sub (.int 1)) (.cons (.append (.slot 4) (.slot 6)) .nil)))) .nil)))) (.cons (.ret (.slot 4)) .nil)))))⟩
def f_swapped : MF := -- 18
  ⟨3, 5, [], (.cons (.asg 3 (.bi1 .list (.slot 1))) (.cons (.forr (.name 4) (.of (.slot 2)) (.cons (.ite (.or (.cmp .lt (.slot 4) (.int 0)) (.or (.cmp .ge (.bin .add (.slot 4) (.int 1)) (.bi1 .len (.slot 3))) (.not (.val (.call 2 (.cons (.rd (.slot 0)) (.cons (.rd (.sub (.slot 3) (.slot 4))) (.cons (.rd (.sub (.slot 3) (.bin .add (.slot 4) (.int 1)))) .nil)))))))) (.cons (.ret .non) .nil) .nil) (.cons (.swap 3 (.slot 4) (.bin .add (.slot 4) (.int 1)) (.sub (.slot 3) (.bin .add (.slot 4) (.int 1))) (.sub (.slot 3) (.slot 4))) .nil))) (.cons (.ret (.bi1 .tuple (.slot 3))) .nil)))⟩
def f_l_is_integer : MF := -- 19
  ⟨1, 1, [], (.cons (.ret (.and2 (.isi (.slot 0) .int) (.nt (.isi (.slot 0) .bool)))) .nil)⟩
def f_l_alike : MF := -- 20
  ⟨4, 5, [], (.cons (.forr (.name 4) (.r1 (.slot 0)) (.cons (.ite (.cmp .ne (.call 15 (.cons (.rd (.slot 1)) (.cons (.rd (.slot 2)) (.cons (.rd (.slot 4)) .nil)))) (.call 15 (.cons (.rd (.slot 1)) (.cons (.rd (.slot 3)) (.cons (.rd (.slot 4)) .nil))))) (.cons (.ret (.bl false)) .nil) .nil) .nil)) (.cons (.ret (.bl true)) .nil))⟩
def f_masks : MF := -- 24
  ⟨1, 5, [], (.cons (.asg 1 (.lst .nil)) (.cons (.forr (.name 2) (.r1 (.bi1 .len (.fld (.slot 0) 1))) (.cons (.asg 3 (.int 0)) (.cons (.forr (.name 4) (.r1 (.bi1 .len (.fld (.slot 0) 1))) (.cons (.ite (.not (.val (.call 2 (.cons (.rd (.slot 0)) (.cons (.rd (.slot 2)) (.cons (.rd (.slot 4)) .nil)))))) (.cons (.asg 3 (.bin .bor (.slot 3) (.bin .shl (.int 1) (.slot 4)))) .nil) .nil) .nil)) (.cons (.append (.slot 1) (.slot 3)) .nil)))) (.cons (.ret (.slot 1)) .nil)))⟩
def f_layers : MF := -- 25
  ⟨2, 9, [], (.cons (.asg 2 (.lst .nil)) (.cons (.asg 3 (.bin .mul (.lst (.cons (.int 0) .nil)) (.bi1 .len (.fld (.slot 0) 1)))) (.cons (.asg 4 (.call 24 (.cons (.rd (.slot 0)) .nil))) (.cons (.forr (.name 5) (.of (.slot 1)) (.cons (.asg 6 (.int 0)) (.cons (.forr (.name 7) (.r1 (.bi1 .len (.slot 3))) (.cons (.ite (.cmp .eq (.bin .band (.bin .shr (.sub (.slot 4) (.slot 5)) (.slot 7)) (.int 1)) (.int 1)) (.cons (.asg 6 (.bi2 .max (.slot 6) (.sub (.slot 3) (.slot 7)))) .nil) .nil) .nil)) (.cons (.ite (.cmp .eq (.slot 6) (.bi1 .len (.slot 2))) (.cons (.append (.slot 2) (.lst .nil)) .nil) .nil) (.cons (.append (.sub (.slot 2) (.slot 6)) (.slot 5)) (.cons (.setI (.slot 3) (.slot 5) (.bin .add (.slot 6) (.int 1))) .nil)))))) (.cons (.ret (.comp 8 (.bi1 .tuple (.bi1 .sorted (.slot 8))) (.of (.slot 2)) .none)) .nil)))))⟩
def f_l_is_word : MF := -- 26
  ⟨2, 3, [], (.cons (.ite (.not (.val (.isi (.slot 0) .tuple))) (.cons (.ret (.bl false)) .nil) .nil) (.cons (.forr (.name 2) (.of (.slot 0)) (.cons (.ite (.or (.not (.val (.call 19 (.cons (.rd (.slot 2)) .nil)))) (.or (.cmp .lt (.slot 2) (.int 0)) (.cmp .ge (.slot 2) (.slot 1)))) (.cons (.ret (.bl false)) .nil) .nil) .nil)) (.cons (.ret (.bl true)) .nil)))⟩
def f_l_all_words : MF := -- 27
  ⟨2, 3, [], (.cons (.ite (.not (.val (.isi (.slot 0) .list))) (.cons (.ret (.bl false)) .nil) .nil) (.cons (.forr (.name 2) (.of (.slot 0)) (.cons (.ite (.or (.not (.val (.isi (.slot 2) .tuple))) (.not (.val (.call 26 (.cons (.rd (.slot 2)) (.cons (.rd (.slot 1)) .nil)))))) (.cons (.ret (.bl false)) .nil) .nil) .nil)) (.cons (.ret (.bl true)) .nil)))⟩
def f_law_k04 : MF := -- 28
  ⟨1, 12, [], (.cons (.asg 1 (.call 5 (.cons (.rd (.slot 0)) (.cons (.rd (.int 80)) .nil)))) (.cons (.asgT (.pair 2 3) (.call 7 (.cons (.mv 1) (.cons (.rd (.int 4)) (.cons (.rd (.int 5)) .nil))))) (.cons (.asg 4 (.make 0 1 (.cons (.rd (.slot 2)) (.cons (.rd (.bi1 .list (.slot 3))) .nil)))) (.cons (.asg 5 (.call 14 (.cons (.mv 1) (.cons (.rd (.bi1 .len (.slot 3))) (.cons (.rd (.int 10)) .nil))))) (.cons (.asg 6 (.call 25 (.cons (.rd (.slot 4)) (.cons (.rd (.slot 5)) .nil)))) (.cons (.ite (.not (.val (.call 27 (.cons (.rd (.slot 6)) (.cons (.rd (.bi1 .len (.slot 3))) .nil))))) (.cons (.ret (.bl false)) .nil) .nil) (.cons (.asg 7 (.tup .nil)) (.cons (.forr (.name 8) (.r1 (.bi1 .len (.slot 6))) (.cons (.asg 9 (.sub (.slot 6) (.slot 8))) (.cons (.ite (.or (.cmp .eq (.bi1 .len (.slot 9)) (.int 0)) (.cmp .ne (.bi1 .list (.slot 9)) (.bi1 .sset (.slot 9)))) (.cons (.ret (.bl false)) .nil) .nil) (.cons (.forr (.name 10) (.of (.slot 9)) (.cons (.ite (.cmp .gt (.bi1 .len (.comp 11 (.slot 11) (.of (.slot 9)) (.some (.and (.cmp .ne (.slot 11) (.slot 10)) (.not (.val (.call 8 (.cons (.rd (.slot 3)) (.cons (.rd (.slot 10)) (.cons (.rd (.slot 11)) .nil)))))))))) (.int 0)) (.cons (.ret (.bl false)) .nil) .nil) (.cons (.ite (.and (.cmp .gt (.slot 8) (.int 0)) (.cmp .eq (.bi1 .len (.comp 11 (.slot 11) (.of (.sub (.slot 6) (.bin .sub (.slot 8) (.int 1)))) (.some (.not (.val (.call 8 (.cons (.rd (.slot 3)) (.cons (.rd (.slot 10)) (.cons (.rd (.slot 11)) .nil))))))))) (.int 0))) (.cons (.ret (.bl false)) .nil) .nil) .nil))) (.cons (.asg 7 (.bin .add (.slot 7) (.slot 9))) .nil))))) (.cons (.ite (.not (.val (.call 20 (.cons (.rd (.slot 2)) (.cons (.rd (.slot 3)) (.cons (.rd (.slot 7)) (.cons (.rd (.slot 5)) .nil))))))) (.cons (.ret (.bl false)) .nil) .nil) (.cons (.ret (.cmp .eq (.call 25 (.cons (.rd (.slot 4)) (.cons (.rd (.bi1 .list (.call 16 (.cons (.mv 1) (.cons (.rd (.slot 3)) (.cons (.rd (.slot 5)) (.cons (.rd (.int 15)) .nil))))))) .nil))) (.slot 6))) .nil))))))))))⟩
def f_first_letters : MF := -- 29
  ⟨2, 6, [], (.cons (.asg 2 (.lst .nil)) (.cons (.asg 3 (.int 0)) (.cons (.asg 4 (.call 24 (.cons (.rd (.slot 0)) .nil))) (.cons (.forr (.name 5) (.r1 (.bi1 .len (.slot 1))) (.cons (.ite (.cmp .eq (.bin .band (.bin .shr (.slot 3) (.sub (.slot 1) (.slot 5))) (.int 1)) (.int 0)) (.cons (.append (.slot 2) (.slot 5)) .nil) .nil) (.cons (.asg 3 (.bin .bor (.slot 3) (.sub (.slot 4) (.sub (.slot 1) (.slot 5))))) .nil))) (.cons (.ret (.slot 2)) .nil)))))⟩
def f_least_form : MF := -- 30
  ⟨2, 6, [], (.cons (.asg 2 (.bi1 .list (.slot 1))) (.cons (.asg 3 (.lst .nil)) (.cons (.whil (.cmp .gt (.bi1 .len (.slot 2)) (.int 0)) (.cons (.asg 4 (.un .neg (.int 1))) (.cons (.forr (.name 5) (.of (.call 29 (.cons (.rd (.slot 0)) (.cons (.bor 2) .nil)))) (.cons (.ite (.or (.cmp .lt (.slot 4) (.int 0)) (.cmp .lt (.sub (.slot 2) (.slot 5)) (.sub (.slot 2) (.slot 4)))) (.cons (.asg 4 (.slot 5)) .nil) .nil) .nil)) (.cons (.append (.slot 3) (.popAt 2 (.slot 4))) .nil)))) (.cons (.ret (.bi1 .tuple (.slot 3))) .nil))))⟩
def f_next_barred : MF := -- 31
  ⟨3, 4, [], (.cons (.asg 3 (.bin .sub (.bin .shl (.int 1) (.slot 2)) (.int 1))) (.cons (.ret (.bin .band (.bin .bor (.slot 1) (.slot 3)) (.un .inv (.sub (.slot 0) (.slot 2))))) .nil))⟩
def f_is_least : MF := -- 32
  ⟨2, 5, [], (.cons (.asg 2 (.call 24 (.cons (.rd (.slot 0)) .nil))) (.cons (.asg 3 (.int 0)) (.cons (.forr (.name 4) (.of (.slot 1)) (.cons (.ite (.cmp .eq (.bin .band (.bin .shr (.slot 3) (.slot 4)) (.int 1)) (.int 1)) (.cons (.ret (.bl false)) .nil) .nil) (.cons (.asg 3 (.call 31 (.cons (.rd (.slot 2)) (.cons (.rd (.slot 3)) (.cons (.rd (.slot 4)) .nil))))) .nil))) (.cons (.ret (.bl true)) .nil))))⟩
def f_law_k06 : MF := -- 33
  ⟨1, 12, [], (.cons (.asg 1 (.call 5 (.cons (.rd (.slot 0)) (.cons (.rd (.int 100)) .nil)))) (.cons (.asgT (.pair 2 3) (.call 7 (.cons (.mv 1) (.cons (.rd (.int 4)) (.cons (.rd (.int 6)) .nil))))) (.cons (.asg 4 (.make 0 1 (.cons (.rd (.slot 2)) (.cons (.rd (.bi1 .list (.slot 3))) .nil)))) (.cons (.asg 5 (.call 14 (.cons (.mv 1) (.cons (.rd (.bi1 .len (.slot 3))) (.cons (.rd (.int 14)) .nil))))) (.cons (.asg 6 (.call 16 (.cons (.mv 1) (.cons (.rd (.slot 3)) (.cons (.rd (.slot 5)) (.cons (.rd (.int 25)) .nil)))))) (.cons (.asg 7 (.call 6 (.cons (.mv 1) (.cons (.rd (.int 4)) .nil)))) (.cons (.ite (.and (.cmp .gt (.bi1 .len (.slot 6)) (.int 1)) (.cmp .eq (.slot 7) (.int 0))) (.cons (.asg 8 (.call 6 (.cons (.mv 1) (.cons (.rd (.bin .sub (.bi1 .len (.slot 6)) (.int 1))) .nil)))) (.cons (.asg 6 (.bin .add (.bin .add (.slc (.slot 6) .none (.some (.slot 8))) (.tup (.cons (.sub (.slot 6) (.bin .add (.slot 8) (.int 1))) (.cons (.sub (.slot 6) (.slot 8)) .nil)))) (.slc (.slot 6) (.some (.bin .add (.slot 8) (.int 2))) .none))) .nil)) .nil) (.cons (.ite (.and (.cmp .gt (.bi1 .len (.slot 6)) (.int 0)) (.cmp .eq (.slot 7) (.int 1))) (.cons (.asg 8 (.call 6 (.cons (.mv 1) (.cons (.rd (.bi1 .len (.slot 6))) .nil)))) (.cons (.asg 6 (.bin .add (.bin .add (.slc (.slot 6) .none (.some (.slot 8))) (.tup (.cons (.call 6 (.cons (.mv 1) (.cons (.rd (.bi1 .len (.slot 3))) .nil))) .nil))) (.slc (.slot 6) (.some (.bin .add (.slot 8) (.int 1))) .none))) .nil)) .nil) (.cons (.asg 9 (.call 20 (.cons (.rd (.slot 2)) (.cons (.rd (.slot 3)) (.cons (.rd (.slot 5)) (.cons (.rd (.slot 6)) .nil)))))) (.cons (.ite (.cmp .ne (.call 13 (.cons (.rd (.slot 4)) (.cons (.rd (.slot 5)) (.cons (.rd (.slot 6)) .nil)))) (.slot 9)) (.cons (.ret (.bl false)) .nil) .nil) (.cons (.ite (.cmp .ne (.cmp .eq (.call 25 (.cons (.rd (.slot 4)) (.cons (.rd (.slot 5)) .nil))) (.call 25 (.cons (.rd (.slot 4)) (.cons (.rd (.slot 6)) .nil)))) (.slot 9)) (.cons (.ret (.bl false)) .nil) .nil) (.cons (.asg 10 (.call 30 (.cons (.rd (.slot 4)) (.cons (.rd (.slot 5)) .nil)))) (.cons (.ite (.or (.cmp .ne (.cmp .eq (.slot 10) (.call 30 (.cons (.rd (.slot 4)) (.cons (.rd (.slot 6)) .nil)))) (.slot 9)) (.not (.val (.call 32 (.cons (.rd (.slot 4)) (.cons (.rd (.slot 10)) .nil)))))) (.cons (.ret (.bl false)) .nil) .nil) (.cons (.ite (.or (.cmp .ne (.call 25 (.cons (.rd (.slot 4)) (.cons (.rd (.slot 10)) .nil))) (.call 25 (.cons (.rd (.slot 4)) (.cons (.rd (.slot 5)) .nil)))) (.not (.val (.call 20 (.cons (.rd (.slot 2)) (.cons (.rd (.slot 3)) (.cons (.rd (.slot 10)) (.cons (.rd (.slot 5)) .nil)))))))) (.cons (.ret (.bl false)) .nil) .nil) (.cons (.asg 11 (.call 17 (.cons (.rd (.slot 4)) (.cons (.rd (.slot 5)) (.cons (.rd (.slot 6)) .nil))))) (.cons (.ite (.cmp .ne (.isn true (.slot 11)) (.slot 9)) (.cons (.ret (.bl false)) .nil) .nil) (.cons (.ret (.or2 (.isn false (.slot 11)) (.cmp .eq (.call 18 (.cons (.rd (.slot 4)) (.cons (.rd (.slot 5)) (.cons (.rd (.slot 11)) .nil)))) (.slot 6)))) .nil)))))))))))))))))⟩
def f_below_all : MF := -- 34
  ⟨3, 7, [], (.cons (.asg 3 (.lst .nil)) (.cons (.forr (.name 4) (.r3 (.bin .sub (.bi1 .len (.slot 1)) (.int 1)) (.un .neg (.int 1)) (.un .neg (.int 1))) (.cons (.asg 5 (.cmp .inn (.slot 4) (.slot 2))) (.cons (.forr (.name 6) (.of (.slot 3)) (.cons (.asg 5 (.or2 (.slot 5) (.and2 (.cmp .lt (.slot 4) (.slot 6)) (.nt (.call 2 (.cons (.rd (.slot 0)) (.cons (.rd (.sub (.slot 1) (.slot 4))) (.cons (.rd (.sub (.slot 1) (.slot 6))) .nil)))))))) .nil)) (.cons (.ite (.val (.slot 5)) (.cons (.append (.slot 3) (.slot 4)) .nil) .nil) .nil)))) (.cons (.ret (.rev (.slot 3))) .nil)))⟩
def f_is_below : MF := -- 35
  ⟨4, 4, [], (.cons (.ret (.cmp .inn (.slot 2) (.call 34 (.cons (.rd (.slot 0)) (.cons (.rd (.slot 1)) (.cons (.rd (.lst (.cons (.slot 3) .nil))) .nil)))))) .nil)⟩
def f_events_at : MF := -- 36
  ⟨3, 4, [], (.cons (.ret (.comp 3 (.slot 3) (.r1 (.bi1 .len (.slot 1))) (.some (.cmp .inn (.slot 2) (.sub (.fld (.slot 0) 1) (.sub (.slot 1) (.slot 3))))))) .nil)⟩
def f_view : MF := -- 37
  ⟨3, 3, [], (.cons (.ret (.call 34 (.cons (.rd (.slot 0)) (.cons (.rd (.slot 1)) (.cons (.rd (.call 36 (.cons (.rd (.slot 0)) (.cons (.rd (.slot 1)) (.cons (.rd (.slot 2)) .nil))))) .nil))))) .nil)⟩
def f_newest : MF := -- 38
  ⟨3, 8, [], (.cons (.asg 3 (.call 37 (.cons (.rd (.slot 0)) (.cons (.rd (.slot 1)) (.cons (.rd (.slot 2)) .nil))))) (.cons (.asg 4 (.lst .nil)) (.cons (.forr (.name 5) (.r1 (.fld (.slot 0) 0)) (.cons (.asg 6 (.comp 7 (.slot 7) (.of (.slot 3)) (.some (.cmp .inn (.slot 5) (.sub (.fld (.slot 0) 1) (.sub (.slot 1) (.slot 7))))))) (.cons (.append (.slot 4) (.bi1 .max (.bin .add (.slot 6) (.lst (.cons (.un .neg (.int 1)) .nil))))) .nil))) (.cons (.ret (.bi1 .tuple (.slot 4))) .nil))))⟩
def f_l_numbers : MF := -- 39
  ⟨3, 4, [], (.cons (.ite (.or (.not (.val (.isi (.slot 0) .tuple))) (.cmp .ne (.bi1 .len (.slot 0)) (.slot 1))) (.cons (.ret (.bl false)) .nil) .nil) (.cons (.forr (.name 3) (.of (.slot 0)) (.cons (.ite (.or (.not (.val (.call 19 (.cons (.rd (.slot 3)) .nil)))) (.cmp .lt (.slot 3) (.slot 2))) (.cons (.ret (.bl false)) .nil) .nil) .nil)) (.cons (.ret (.bl true)) .nil)))⟩
def f_l_below : MF := -- 40
  ⟨2, 7, [], (.cons (.asg 2 (.bi1 .len (.slot 1))) (.cons (.asg 3 (.comp 5 (.comp 4 (.cmp .eq (.slot 5) (.slot 4)) (.r1 (.slot 2)) .none) (.r1 (.slot 2)) .none)) (.cons (.forr (.name 4) (.r1 (.slot 2)) (.cons (.forr (.name 5) (.r1 (.slot 4)) (.cons (.ite (.not (.val (.call 8 (.cons (.rd (.slot 0)) (.cons (.rd (.sub (.slot 1) (.slot 5))) (.cons (.rd (.sub (.slot 1) (.slot 4))) .nil)))))) (.cons (.forr (.name 6) (.r1 (.slot 2)) (.cons (.ite (.val (.sub (.sub (.slot 3) (.slot 6)) (.slot 5))) (.cons (.setI (.sub (.slot 3) (.slot 6)) (.slot 4) (.bl true)) .nil) .nil) .nil)) .nil) .nil) .nil)) .nil)) (.cons (.ret (.slot 3)) .nil))))⟩
def f_l_view : MF := -- 41
  ⟨3, 7, [], (.cons (.asg 3 (.call 40 (.cons (.rd (.slot 0)) (.cons (.rd (.slot 1)) .nil)))) (.cons (.asg 4 (.comp 5 (.slot 5) (.r1 (.bi1 .len (.slot 1))) (.some (.cmp .inn (.slot 2) (.sub (.slot 0) (.sub (.slot 1) (.slot 5))))))) (.cons (.ret (.comp 6 (.slot 6) (.r1 (.bi1 .len (.slot 1))) (.some (.cmp .gt (.bi1 .len (.comp 5 (.slot 5) (.of (.slot 4)) (.some (.val (.sub (.sub (.slot 3) (.slot 6)) (.slot 5)))))) (.int 0))))) .nil)))⟩
def f_l_newest : MF := -- 42
  ⟨4, 8, [], (.cons (.asg 4 (.call 41 (.cons (.rd (.slot 1)) (.cons (.rd (.slot 2)) (.cons (.rd (.slot 3)) .nil))))) (.cons (.asg 5 (.lst .nil)) (.cons (.forr (.name 6) (.r1 (.slot 0)) (.cons (.append (.slot 5) (.bi1 .max (.bin .add (.lst (.cons (.un .neg (.int 1)) .nil)) (.comp 7 (.slot 7) (.of (.slot 4)) (.some (.cmp .inn (.slot 6) (.sub (.slot 1) (.sub (.slot 2) (.slot 7))))))))) .nil)) (.cons (.ret (.slot 5)) .nil))))⟩
def f_law_k07 : MF := -- 43
  ⟨1, 11, [], (.cons (.asg 1 (.call 5 (.cons (.rd (.slot 0)) (.cons (.rd (.int 60)) .nil)))) (.cons (.asgT (.pair 2 3) (.call 7 (.cons (.mv 1) (.cons (.rd (.int 4)) (.cons (.rd (.int 5)) .nil))))) (.cons (.asg 4 (.make 0 1 (.cons (.rd (.slot 2)) (.cons (.rd (.bi1 .list (.slot 3))) .nil)))) (.cons (.asg 5 (.call 14 (.cons (.mv 1) (.cons (.rd (.bi1 .len (.slot 3))) (.cons (.rd (.int 9)) .nil))))) (.cons (.asg 6 (.call 40 (.cons (.rd (.slot 3)) (.cons (.rd (.slot 5)) .nil)))) (.cons (.ite (.cmp .gt (.bi1 .len (.slot 5)) (.int 0)) (.cons (.asg 7 (.call 6 (.cons (.mv 1) (.cons (.rd (.bi1 .len (.slot 5))) .nil)))) (.cons (.forr (.name 8) (.r1 (.bi1 .len (.slot 5))) (.cons (.asg 9 (.call 35 (.cons (.rd (.slot 4)) (.cons (.rd (.slot 5)) (.cons (.rd (.slot 7)) (.cons (.rd (.slot 8)) .nil)))))) (.cons (.ite (.or (.not (.val (.isi (.slot 9) .bool))) (.cmp .ne (.slot 9) (.sub (.sub (.slot 6) (.slot 7)) (.slot 8)))) (.cons (.ret (.bl false)) .nil) .nil) .nil))) .nil)) .nil) (.cons (.forr (.name 10) (.r1 (.slot 2)) (.cons (.ite (.cmp .ne (.call 37 (.cons (.rd (.slot 4)) (.cons (.rd (.bi1 .list (.slot 5))) (.cons (.rd (.slot 10)) .nil)))) (.call 41 (.cons (.rd (.slot 3)) (.cons (.rd (.slot 5)) (.cons (.rd (.slot 10)) .nil))))) (.cons (.ret (.bl false)) .nil) .nil) (.cons (.asg 9 (.call 38 (.cons (.rd (.slot 4)) (.cons (.rd (.slot 5)) (.cons (.rd (.slot 10)) .nil))))) (.cons (.ite (.or (.not (.val (.call 39 (.cons (.rd (.slot 9)) (.cons (.rd (.slot 2)) (.cons (.rd (.un .neg (.int 1))) .nil)))))) (.cmp .ne (.bi1 .list (.slot 9)) (.call 42 (.cons (.rd (.slot 2)) (.cons (.rd (.slot 3)) (.cons (.rd (.slot 5)) (.cons (.rd (.slot 10)) .nil))))))) (.cons (.ret (.bl false)) .nil) .nil) .nil)))) (.cons (.ret (.bl true)) .nil))))))))⟩
def f_first_place : MF := -- 44
  ⟨3, 4, [], (.cons (.forr (.name 3) (.of (.call 29 (.cons (.rd (.slot 0)) (.cons (.rd (.slot 1)) .nil)))) (.cons (.ite (.cmp .eq (.sub (.slot 1) (.slot 3)) (.slot 2)) (.cons (.ret (.slot 3)) .nil) .nil) .nil)) (.cons (.ret (.un .neg (.int 1))) .nil))⟩
def f_without : MF := -- 45
  ⟨2, 2, [], (.cons (.ret (.bin .add (.bi1 .tuple (.slc (.slot 0) .none (.some (.slot 1)))) (.bi1 .tuple (.slc (.slot 0) (.some (.bin .add (.slot 1) (.int 1))) .none)))) .nil)⟩
def f_rest : MF := -- 46
  ⟨3, 6, [], (.cons (.asg 3 (.bi1 .tuple (.slot 2))) (.cons (.forr (.name 4) (.of (.slot 1)) (.cons (.asg 5 (.call 44 (.cons (.rd (.slot 0)) (.cons (.rd (.slot 3)) (.cons (.rd (.slot 4)) .nil))))) (.cons (.ite (.cmp .lt (.slot 5) (.int 0)) (.cons (.ret .non) .nil) .nil) (.cons (.asg 3 (.call 45 (.cons (.rd (.slot 3)) (.cons (.rd (.slot 5)) .nil)))) .nil)))) (.cons (.ret (.call 30 (.cons (.rd (.slot 0)) (.cons (.rd (.slot 3)) .nil)))) .nil)))⟩
def f_common_prefix : MF := -- 47
  ⟨3, 9, [], (.cons (.asg 3 (.bi1 .tuple (.slot 1))) (.cons (.asg 4 (.bi1 .tuple (.slot 2))) (.cons (.asg 5 (.lst .nil)) (.cons (.asg 6 (.int 0)) (.cons (.whil (.cmp .lt (.slot 6) (.bi1 .len (.fld (.slot 0) 1))) (.cons (.asg 7 (.call 44 (.cons (.rd (.slot 0)) (.cons (.rd (.slot 3)) (.cons (.rd (.slot 6)) .nil))))) (.cons (.asg 8 (.call 44 (.cons (.rd (.slot 0)) (.cons (.rd (.slot 4)) (.cons (.rd (.slot 6)) .nil))))) (.cons (.ite (.and (.cmp .ge (.slot 7) (.int 0)) (.cmp .ge (.slot 8) (.int 0))) (.cons (.append (.slot 5) (.slot 6)) (.cons (.asg 3 (.call 45 (.cons (.rd (.slot 3)) (.cons (.rd (.slot 7)) .nil)))) (.cons (.asg 4 (.call 45 (.cons (.rd (.slot 4)) (.cons (.rd (.slot 8)) .nil)))) (.cons (.asg 6 (.int 0)) .nil)))) (.cons (.aug 6 .add (.int 1)) .nil)) .nil)))) (.cons (.ret (.call 30 (.cons (.rd (.slot 0)) (.cons (.bor 5) .nil)))) .nil))))))⟩
def f_l_least : MF := -- 50
  ⟨2, 9, [], (.cons (.asg 2 (.bi1 .list (.slot 1))) (.cons (.asg 3 (.lst .nil)) (.cons (.forr (.name 4) (.r1 (.bi1 .len (.slot 1))) (.cons (.asg 5 (.un .neg (.int 1))) (.cons (.forr (.name 6) (.r1 (.bi1 .len (.slot 2))) (.cons (.asg 7 (.comp 8 (.slot 8) (.r1 (.slot 6)) (.some (.not (.val (.call 8 (.cons (.rd (.slot 0)) (.cons (.rd (.sub (.slot 2) (.slot 8))) (.cons (.rd (.sub (.slot 2) (.slot 6))) .nil))))))))) (.cons (.ite (.and (.cmp .eq (.bi1 .len (.slot 7)) (.int 0)) (.or (.cmp .lt (.slot 5) (.int 0)) (.cmp .lt (.sub (.slot 2) (.slot 6)) (.sub (.slot 2) (.slot 5))))) (.cons (.asg 5 (.slot 6)) .nil) .nil) .nil))) (.cons (.append (.slot 3) (.sub (.slot 2) (.slot 5))) (.cons (.asg 2 (.bin .add (.slc (.slot 2) .none (.some (.slot 5))) (.slc (.slot 2) (.some (.bin .add (.slot 5) (.int 1))) .none))) .nil))))) (.cons (.ret (.bi1 .tuple (.slot 3))) .nil))))⟩
def f_l_cuts : MF := -- 51
  ⟨2, 8, [], (.cons (.asg 2 (.lst (.cons (.tup .nil) .nil))) (.cons (.forr (.name 3) (.r1 (.bi1 .len (.slot 1))) (.cons (.asg 4 (.lst .nil)) (.cons (.forr (.name 5) (.of (.slot 2)) (.cons (.asg 6 (.comp 7 (.slot 7) (.r1 (.slot 3)) (.some (.and (.not (.val (.call 8 (.cons (.rd (.slot 0)) (.cons (.rd (.sub (.slot 1) (.slot 7))) (.cons (.rd (.sub (.slot 1) (.slot 3))) .nil)))))) (.cmp .nin (.slot 7) (.slot 5)))))) (.cons (.ite (.cmp .eq (.bi1 .len (.slot 6)) (.int 0)) (.cons (.append (.slot 4) (.bin .add (.slot 5) (.tup (.cons (.slot 3) .nil)))) .nil) .nil) .nil))) (.cons (.asg 2 (.bin .add (.slot 2) (.slot 4))) .nil)))) (.cons (.ret (.slot 2)) .nil)))⟩
def f_is_cut : MF := -- 161
  ⟨3, 3, [], (.cons (.ret (.cmp .eq (.call 34 (.cons (.rd (.slot 0)) (.cons (.rd (.slot 1)) (.cons (.rd (.bi1 .list (.slot 2))) .nil)))) (.bi1 .sorted (.slot 2)))) .nil)⟩
def f_last_letter : MF := -- 162
  ⟨4, 6, [], (.cons (.asg 4 (.comp 5 (.slot 5) (.of (.slot 2)) (.some (.cmp .inn (.slot 3) (.sub (.fld (.slot 0) 1) (.sub (.slot 1) (.slot 5))))))) (.cons (.ite (.cmp .eq (.bi1 .len (.slot 4)) (.int 0)) (.cons (.ret (.glob "NOTHING" (-1))) .nil) .nil) (.cons (.ret (.sub (.slot 1) (.bi1 .max (.slot 4)))) .nil)))⟩
def f_holds : MF := -- 163
  ⟨4, 5, [], (.cons (.forr (.name 4) (.r1 (.fld (.slot 0) 0)) (.cons (.ite (.cmp .nin (.call 162 (.cons (.rd (.slot 0)) (.cons (.rd (.slot 1)) (.cons (.rd (.slot 2)) (.cons (.rd (.slot 4)) .nil))))) (.sub (.slot 3) (.slot 4))) (.cons (.ret (.bl false)) .nil) .nil) .nil)) (.cons (.ret (.bl true)) .nil))⟩
def f_wanting_place : MF := -- 164
  ⟨4, 5, [], (.cons (.forr (.name 4) (.r1 (.fld (.slot 0) 0)) (.cons (.ite (.cmp .nin (.call 162 (.cons (.rd (.slot 0)) (.cons (.rd (.slot 1)) (.cons (.rd (.slot 2)) (.cons (.rd (.slot 4)) .nil))))) (.sub (.slot 3) (.slot 4))) (.cons (.ret (.slot 4)) .nil) .nil) .nil)) (.cons (.ret (.un .neg (.int 1))) .nil))⟩
def f_l_holds : MF := -- 166
  ⟨5, 8, [], (.cons (.forr (.name 5) (.r1 (.slot 0)) (.cons (.asg 6 (.un .neg (.int 1))) (.cons (.forr (.name 7) (.of (.slot 3)) (.cons (.ite (.cmp .inn (.slot 5) (.sub (.slot 1) (.sub (.slot 2) (.slot 7)))) (.cons (.asg 6 (.sub (.slot 2) (.slot 7))) .nil) .nil) .nil)) (.cons (.ite (.cmp .nin (.slot 6) (.sub (.slot 4) (.slot 5))) (.cons (.ret (.bl false)) .nil) .nil) .nil)))) (.cons (.ret (.bl true)) .nil))⟩
def f_beginning : MF := -- 197
  ⟨3, 4, [], (.cons (.asg 3 (.slot 0)) (.cons (.whil (.and (.cmp .gt (.bi1 .len (.slot 1)) (.int 0)) (.cmp .lt (.bi1 .len (.slot 3)) (.slot 2))) (.cons (.asg 3 (.bin .add (.slot 3) (.slot 1))) .nil)) (.cons (.ret (.slc (.slot 3) .none (.some (.slot 2)))) .nil)))⟩
def f_same_loop : MF := -- 198
  ⟨3, 8, [], (.cons (.forr (.name 3) (.r1 (.fld (.slot 0) 0)) (.cons (.asg 4 (.comp 5 (.call 12 (.cons (.rd (.slot 0)) (.cons (.rd (.sub (.slot 5) (.int 0))) (.cons (.rd (.slot 3)) .nil)))) (.of (.tup (.cons (.slot 1) (.cons (.slot 2) .nil)))) .none)) (.cons (.asg 6 (.comp 5 (.call 12 (.cons (.rd (.slot 0)) (.cons (.rd (.sub (.slot 5) (.int 1))) (.cons (.rd (.slot 3)) .nil)))) (.of (.tup (.cons (.slot 1) (.cons (.slot 2) .nil)))) .none)) (.cons (.ite (.cmp .ne (.cmp .eq (.bi1 .len (.sub (.slot 6) (.int 0))) (.int 0)) (.cmp .eq (.bi1 .len (.sub (.slot 6) (.int 1))) (.int 0))) (.cons (.ret (.bl false)) .nil) .nil) (.cons (.asg 7 (.bin .add (.bin .add (.bi2 .max (.bi1 .len (.sub (.slot 4) (.int 0))) (.bi1 .len (.sub (.slot 4) (.int 1)))) (.bi1 .len (.sub (.slot 6) (.int 0)))) (.bi1 .len (.sub (.slot 6) (.int 1))))) (.cons (.ite (.cmp .ne (.call 197 (.cons (.rd (.sub (.slot 4) (.int 0))) (.cons (.rd (.sub (.slot 6) (.int 0))) (.cons (.rd (.slot 7)) .nil)))) (.call 197 (.cons (.rd (.sub (.slot 4) (.int 1))) (.cons (.rd (.sub (.slot 6) (.int 1))) (.cons (.rd (.slot 7)) .nil))))) (.cons (.ret (.bl false)) .nil) .nil) .nil)))))) (.cons (.ret (.bl true)) .nil))⟩
def f_l_long : MF := -- 199
  ⟨3, 5, [], (.cons (.asg 3 (.call 15 (.cons (.rd (.slot 0)) (.cons (.rd (.sub (.slot 1) (.int 0))) (.cons (.rd (.slot 2)) .nil))))) (.cons (.asg 4 (.call 15 (.cons (.rd (.slot 0)) (.cons (.rd (.sub (.slot 1) (.int 1))) (.cons (.rd (.slot 2)) .nil))))) (.cons (.ite (.cmp .eq (.bi1 .len (.slot 4)) (.int 0)) (.cons (.ret (.tup (.cons (.slot 3) (.cons (.bl true) .nil)))) .nil) .nil) (.cons (.ret (.tup (.cons (.slc (.bin .add (.slot 3) (.bin .mul (.slot 4) (.int 80))) .none (.some (.int 80))) (.cons (.bl false) .nil)))) .nil))))⟩
def f_l_orders : MF := -- 234
  ⟨2, 8, [], (.cons (.asg 2 (.lst (.cons (.bi1 .tuple (.slot 1)) .nil))) (.cons (.asg 3 (.dlit 1 (.bi1 .tuple (.slot 1)) (.bl true))) (.cons (.forr (.name 4) (.r1 (.int 6000)) (.cons (.ite (.cmp .lt (.slot 4) (.bi1 .len (.slot 2))) (.cons (.asg 5 (.sub (.slot 2) (.slot 4))) (.cons (.forr (.name 6) (.r1 (.bin .sub (.bi1 .len (.slot 5)) (.int 1))) (.cons (.ite (.val (.call 8 (.cons (.rd (.slot 0)) (.cons (.rd (.sub (.slot 5) (.slot 6))) (.cons (.rd (.sub (.slot 5) (.bin .add (.slot 6) (.int 1)))) .nil))))) (.cons (.asg 7 (.bin .add (.bin .add (.slc (.slot 5) .none (.some (.slot 6))) (.tup (.cons (.sub (.slot 5) (.bin .add (.slot 6) (.int 1))) (.cons (.sub (.slot 5) (.slot 6)) .nil)))) (.slc (.slot 5) (.some (.bin .add (.slot 6) (.int 2))) .none))) (.cons (.ite (.cmp .nin (.slot 7) (.slot 3)) (.cons (.dset 3 (.slot 7) (.bl true)) (.cons (.append (.slot 2) (.slot 7)) .nil)) .nil) .nil)) .nil) .nil)) .nil)) .nil) .nil)) (.cons (.ret (.bi1 .sorted (.slot 2))) .nil))))⟩
def f_law_k05 : MF := -- 236
  ⟨1, 9, [], (.cons (.asg 1 (.call 5 (.cons (.rd (.slot 0)) (.cons (.rd (.int 60)) .nil)))) (.cons (.asgT (.pair 2 3) (.call 7 (.cons (.mv 1) (.cons (.rd (.int 3)) (.cons (.rd (.int 4)) .nil))))) (.cons (.asg 4 (.make 0 1 (.cons (.rd (.slot 2)) (.cons (.rd (.bi1 .list (.slot 3))) .nil)))) (.cons (.asg 5 (.call 14 (.cons (.mv 1) (.cons (.rd (.bi1 .len (.slot 3))) (.cons (.rd (.int 7)) .nil))))) (.cons (.asg 6 (.call 16 (.cons (.mv 1) (.cons (.rd (.slot 3)) (.cons (.rd (.slot 5)) (.cons (.rd (.int 10)) .nil)))))) (.cons (.asg 7 (.sub (.call 234 (.cons (.rd (.slot 3)) (.cons (.rd (.slot 5)) .nil))) (.int 0))) (.cons (.ite (.or (.cmp .ne (.call 30 (.cons (.rd (.slot 4)) (.cons (.rd (.slot 5)) .nil))) (.slot 7)) (.cmp .ne (.call 30 (.cons (.rd (.slot 4)) (.cons (.rd (.bi1 .list (.slot 6))) .nil))) (.slot 7))) (.cons (.ret (.bl false)) .nil) .nil) (.cons (.asg 8 (.call 32 (.cons (.rd (.slot 4)) (.cons (.rd (.slot 6)) .nil)))) (.cons (.ret (.and2 (.isi (.slot 8) .bool) (.and2 (.cmp .eq (.slot 8) (.cmp .eq (.slot 6) (.slot 7))) (.isb true (.call 32 (.cons (.rd (.slot 4)) (.cons (.rd (.slot 7)) .nil))))))) .nil)))))))))⟩
end Ab
namespace Ab
open PySem L2
section
def b_fits_1 : MSs := (.cons (.ite (.or (.cmp .lt (.sub (.slot 0) (.slot 2)) (.int 0)) (.or (.cmp .ge (.sub (.slot 0) (.slot 2)) (.slot 1)) (.and (.cmp .gt (.slot 2) (.int 0)) (.cmp .le (.sub (.slot 0) (.slot 2)) (.sub (.slot 0) (.bin .sub (.slot 2) (.int 1))))))) (.cons (.ret (.bl false)) .nil) .nil) .nil)
def g_fits : MF := ⟨2, 3, [], (.cons (.ite (.cmp .eq (.bi1 .len (.slot 0)) (.int 0)) (.cons (.ret (.bl false)) .nil) .nil) (.cons (.forr (.name 2) (.r1 (.bi1 .len (.slot 0))) b_fits_1) (.cons (.ret (.bl true)) .nil)))⟩
theorem f_fits_eq : f_fits = g_fits := rfl
def b_Alphabet_init_1 : MSs := (.cons (.asg 3 (.and2 (.slot 3) (.call 0 (.cons (.rd (.slot 4)) (.cons (.rd (.slot 1)) .nil))))) .nil)
def e_Alphabet_init_2 : ME := (.bi1 .tuple (.slot 4))
def g_Alphabet_init : MF := ⟨3, 5, [0], (.cons (.asg 3 (.and2 (.chain .le .le (.int 1) (.slot 1) (.glob "MOST_PLACES" 4)) (.chain .le .le (.int 1) (.bi1 .len (.slot 2)) (.glob "MOST_LETTERS" 6)))) (.cons (.forr (.name 4) (.of (.slot 2)) b_Alphabet_init_1) (.cons (.ite (.not (.val (.slot 3))) (.cons (.raise 0) .nil) .nil) (.cons (.setF 0 0 (.slot 1)) (.cons (.setF 0 1 (.bi1 .tuple (.comp 4 e_Alphabet_init_2 (.of (.slot 2)) .none))) .nil)))))⟩
theorem f_Alphabet_init_eq : f_Alphabet_init = g_Alphabet_init := rfl
def b_independent_1 : MSs := (.cons (.ite (.cmp .inn (.slot 3) (.sub (.fld (.slot 0) 1) (.slot 2))) (.cons (.ret (.bl false)) .nil) .nil) .nil)
def g_independent : MF := ⟨3, 4, [], (.cons (.forr (.name 3) (.of (.sub (.fld (.slot 0) 1) (.slot 1))) b_independent_1) (.cons (.ret (.bl true)) .nil))⟩
theorem f_independent_eq : f_independent = g_independent := rfl
def b_l_draws_1 : MSs := (.cons (.asg 6 (.bin .mod (.slot 5) (.bi1 .len (.slot 2)))) (.cons (.asg 7 (.sub (.slot 2) (.slot 6))) (.cons (.asg 4 (.bin .mod (.bi1 .int (.bin .add (.bin .add (.bin .add (.bin .mul (.slot 4) (.int 48271)) (.bin .mul (.bin .mod (.bi1 .int (.slot 7)) (.int 1000003)) (.int 69621))) (.bin .mul (.slot 5) (.int 7919))) (.int 11))) (.int 2147483647))) (.cons (.asg 8 (.bin .mod (.bi1 .int (.bin .add (.bin .add (.bin .mul (.slot 4) (.slot 4)) (.bin .mul (.int 31) (.slot 4))) (.slot 5))) (.int 1000003))) (.cons (.ite (.cmp .ge (.slot 7) (.bin .pow (.int 10) (.int 18))) (.cons (.append (.slot 3) (.bin .mod (.bi1 .int (.slot 7)) (.int 1000))) (.cons (.setI (.slot 2) (.slot 6) (.bin .fdiv (.slot 7) (.int 1000))) .nil)) (.cons (.append (.slot 3) (.bin .mod (.bi1 .int (.slot 8)) (.int 1000))) .nil)) .nil)))))
def g_l_draws : MF := ⟨2, 9, [], (.cons (.asg 2 (.bi1 .list (.slot 0))) (.cons (.ite (.cmp .eq (.bi1 .len (.slot 2)) (.int 0)) (.cons (.asg 2 (.lst (.cons (.int 7) .nil))) .nil) .nil) (.cons (.asg 3 (.lst .nil)) (.cons (.asg 4 (.int 12345)) (.cons (.forr (.name 5) (.r1 (.slot 1)) b_l_draws_1) (.cons (.reverse (.slot 3)) (.cons (.ret (.slot 3)) .nil)))))))⟩
theorem f_l_draws_eq : f_l_draws = g_l_draws := rfl
def g_l_take : MF := ⟨2, 2, [0], (.cons (.ite (.cmp .eq (.bi1 .len (.slot 0)) (.int 0)) (.cons (.ret (.int 0)) .nil) .nil) (.cons (.ret (.bin .mod (.bi1 .int (.pop 0)) (.slot 1))) .nil))⟩
theorem f_l_take_eq : f_l_take = g_l_take := rfl
def e_l_alphabet_1 : ME := (.call 6 (.cons (.mv 0) (.cons (.rd (.slot 3)) .nil)))
def b_l_alphabet_2 : MSs := (.cons (.asg 6 (.sub (.lst (.cons (.int 1) (.cons (.int 1) (.cons (.int 1) (.cons (.int 2) (.cons (.int 2) (.cons (.int 3) .nil))))))) (.call 6 (.cons (.mv 0) (.cons (.rd (.int 6)) .nil))))) (.cons (.asg 7 (.comp 8 e_l_alphabet_1 (.r1 (.slot 6)) .none)) (.cons (.append (.slot 4) (.bi1 .tuple (.bi1 .sset (.slot 7)))) .nil)))
def g_l_alphabet : MF := ⟨3, 9, [0], (.cons (.asg 3 (.bin .add (.int 1) (.call 6 (.cons (.mv 0) (.cons (.rd (.slot 1)) .nil))))) (.cons (.asg 4 (.lst .nil)) (.cons (.forr (.name 5) (.r1 (.bin .add (.int 1) (.call 6 (.cons (.mv 0) (.cons (.rd (.slot 2)) .nil))))) b_l_alphabet_2) (.cons (.ret (.tup (.cons (.slot 3) (.cons (.slot 4) .nil)))) .nil))))⟩
theorem f_l_alphabet_eq : f_l_alphabet = g_l_alphabet := rfl
def e_l_free_1 : ME := (.slot 3)
def t_l_free_2 : MTo := (.some (.cmp .inn (.slot 3) (.sub (.slot 0) (.slot 2))))
def g_l_free : MF := ⟨3, 4, [], (.cons (.ret (.cmp .eq (.bi1 .len (.comp 3 e_l_free_1 (.of (.sub (.slot 0) (.slot 1))) t_l_free_2)) (.int 0))) .nil)⟩
theorem f_l_free_eq : f_l_free = g_l_free := rfl
def e_place_word_1 : ME := (.slot 3)
def t_place_word_2 : MTo := (.some (.cmp .inn (.slot 2) (.sub (.fld (.slot 0) 1) (.slot 3))))
def g_place_word : MF := ⟨3, 4, [], (.cons (.ret (.bi1 .tuple (.comp 3 e_place_word_1 (.of (.slot 1)) t_place_word_2))) .nil)⟩
theorem f_place_word_eq : f_place_word = g_place_word := rfl
def b_equivalent_1 : MSs := (.cons (.ite (.cmp .ne (.call 12 (.cons (.rd (.slot 0)) (.cons (.rd (.slot 1)) (.cons (.rd (.slot 3)) .nil)))) (.call 12 (.cons (.rd (.slot 0)) (.cons (.rd (.slot 2)) (.cons (.rd (.slot 3)) .nil))))) (.cons (.ret (.bl false)) .nil) .nil) .nil)
def g_equivalent : MF := ⟨3, 4, [], (.cons (.forr (.name 3) (.r1 (.fld (.slot 0) 0)) b_equivalent_1) (.cons (.ret (.bl true)) .nil))⟩
theorem f_equivalent_eq : f_equivalent = g_equivalent := rfl
def e_l_word_1 : ME := (.call 6 (.cons (.mv 0) (.cons (.rd (.slot 1)) .nil)))
def g_l_word : MF := ⟨3, 4, [0], (.cons (.ret (.bi1 .tuple (.comp 3 e_l_word_1 (.r1 (.call 6 (.cons (.mv 0) (.cons (.rd (.bin .add (.slot 2) (.int 1))) .nil)))) .none))) .nil)⟩
theorem f_l_word_eq : f_l_word = g_l_word := rfl
def e_l_place_1 : ME := (.slot 3)
def t_l_place_2 : MTo := (.some (.cmp .inn (.slot 2) (.sub (.slot 0) (.slot 3))))
def g_l_place : MF := ⟨3, 4, [], (.cons (.ret (.bi1 .tuple (.comp 3 e_l_place_1 (.of (.slot 1)) t_l_place_2))) .nil)⟩
theorem f_l_place_eq : f_l_place = g_l_place := rfl
def b_l_shuffled_1 : MSs := (.cons (.ite (.cmp .gt (.bi1 .len (.slot 4)) (.int 1)) (.cons (.asg 6 (.call 6 (.cons (.mv 0) (.cons (.rd (.bin .sub (.bi1 .len (.slot 4)) (.int 1))) .nil)))) (.cons (.ite (.val (.call 8 (.cons (.rd (.slot 1)) (.cons (.rd (.sub (.slot 4) (.slot 6))) (.cons (.rd (.sub (.slot 4) (.bin .add (.slot 6) (.int 1)))) .nil))))) (.cons (.asg 7 (.sub (.slot 4) (.slot 6))) (.cons (.setI (.slot 4) (.slot 6) (.sub (.slot 4) (.bin .add (.slot 6) (.int 1)))) (.cons (.setI (.slot 4) (.bin .add (.slot 6) (.int 1)) (.slot 7)) .nil))) .nil) .nil)) .nil) .nil)
def g_l_shuffled : MF := ⟨4, 8, [0], (.cons (.asg 4 (.bi1 .list (.slot 2))) (.cons (.forr (.name 5) (.r1 (.slot 3)) b_l_shuffled_1) (.cons (.ret (.bi1 .tuple (.slot 4))) .nil)))⟩
theorem f_l_shuffled_eq : f_l_shuffled = g_l_shuffled := rfl
def t_swaps_1 : MT := (.cmp .ne (.sub (.slot 3) (.slot 6)) (.sub (.slot 2) (.slot 5)))
def b_swaps_2 : MSs := (.cons (.aug 6 .add (.int 1)) .nil)
def t_swaps_3 : MT := (.cmp .gt (.slot 6) (.slot 5))
def b_swaps_4 : MSs := (.cons (.swap 3 (.bin .sub (.slot 6) (.int 1)) (.slot 6) (.sub (.slot 3) (.slot 6)) (.sub (.slot 3) (.bin .sub (.slot 6) (.int 1)))) (.cons (.aug 6 .sub (.int 1)) (.cons (.append (.slot 4) (.slot 6)) .nil)))
def b_swaps_5 : MSs := (.cons (.asg 6 (.slot 5)) (.cons (.whil t_swaps_1 b_swaps_2) (.cons (.whil t_swaps_3 b_swaps_4) .nil)))
def g_swaps : MF := ⟨3, 7, [], (.cons (.ite (.not (.val (.call 13 (.cons (.rd (.slot 0)) (.cons (.rd (.slot 1)) (.cons (.rd (.slot 2)) .nil)))))) (.cons (.ret .non) .nil) .nil) (.cons (.asg 3 (.bi1 .list (.slot 1))) (.cons (.asg 4 (.lst .nil)) (.cons (.forr (.name 5) (.r1 (.bi1 .len (.slot 2))) b_swaps_5) (.cons (.ret (.slot 4)) .nil)))))⟩
theorem f_swaps_eq : f_swaps = g_swaps := rfl
def b_swapped_1 : MSs := (.cons (.ite (.or (.cmp .lt (.slot 4) (.int 0)) (.or (.cmp .ge (.bin .add (.slot 4) (.int 1)) (.bi1 .len (.slot 3))) (.not (.val (.call 2 (.cons (.rd (.slot 0)) (.cons (.rd (.sub (.slot 3) (.slot 4))) (.cons (.rd (.sub (.slot 3) (.bin .add (.slot 4) (.int 1)))) .nil)))))))) (.cons (.ret .non) .nil) .nil) (.cons (.swap 3 (.slot 4) (.bin .add (.slot 4) (.int 1)) (.sub (.slot 3) (.bin .add (.slot 4) (.int 1))) (.sub (.slot 3) (.slot 4))) .nil))
def g_swapped : MF := ⟨3, 5, [], (.cons (.asg 3 (.bi1 .list (.slot 1))) (.cons (.forr (.name 4) (.of (.slot 2)) b_swapped_1) (.cons (.ret (.bi1 .tuple (.slot 3))) .nil)))⟩
theorem f_swapped_eq : f_swapped = g_swapped := rfl
def g_l_is_integer : MF := ⟨1, 1, [], (.cons (.ret (.and2 (.isi (.slot 0) .int) (.nt (.isi (.slot 0) .bool)))) .nil)⟩
theorem f_l_is_integer_eq : f_l_is_integer = g_l_is_integer := rfl
def b_l_alike_1 : MSs := (.cons (.ite (.cmp .ne (.call 15 (.cons (.rd (.slot 1)) (.cons (.rd (.slot 2)) (.cons (.rd (.slot 4)) .nil)))) (.call 15 (.cons (.rd (.slot 1)) (.cons (.rd (.slot 3)) (.cons (.rd (.slot 4)) .nil))))) (.cons (.ret (.bl false)) .nil) .nil) .nil)
def g_l_alike : MF := ⟨4, 5, [], (.cons (.forr (.name 4) (.r1 (.slot 0)) b_l_alike_1) (.cons (.ret (.bl true)) .nil))⟩
theorem f_l_alike_eq : f_l_alike = g_l_alike := rfl
def b_masks_1 : MSs := (.cons (.ite (.not (.val (.call 2 (.cons (.rd (.slot 0)) (.cons (.rd (.slot 2)) (.cons (.rd (.slot 4)) .nil)))))) (.cons (.asg 3 (.bin .bor (.slot 3) (.bin .shl (.int 1) (.slot 4)))) .nil) .nil) .nil)
def b_masks_2 : MSs := (.cons (.asg 3 (.int 0)) (.cons (.forr (.name 4) (.r1 (.bi1 .len (.fld (.slot 0) 1))) b_masks_1) (.cons (.append (.slot 1) (.slot 3)) .nil)))
def g_masks : MF := ⟨1, 5, [], (.cons (.asg 1 (.lst .nil)) (.cons (.forr (.name 2) (.r1 (.bi1 .len (.fld (.slot 0) 1))) b_masks_2) (.cons (.ret (.slot 1)) .nil)))⟩
theorem f_masks_eq : f_masks = g_masks := rfl
def b_layers_1 : MSs := (.cons (.ite (.cmp .eq (.bin .band (.bin .shr (.sub (.slot 4) (.slot 5)) (.slot 7)) (.int 1)) (.int 1)) (.cons (.asg 6 (.bi2 .max (.slot 6) (.sub (.slot 3) (.slot 7)))) .nil) .nil) .nil)
def b_layers_2 : MSs := (.cons (.asg 6 (.int 0)) (.cons (.forr (.name 7) (.r1 (.bi1 .len (.slot 3))) b_layers_1) (.cons (.ite (.cmp .eq (.slot 6) (.bi1 .len (.slot 2))) (.cons (.append (.slot 2) (.lst .nil)) .nil) .nil) (.cons (.append (.sub (.slot 2) (.slot 6)) (.slot 5)) (.cons (.setI (.slot 3) (.slot 5) (.bin .add (.slot 6) (.int 1))) .nil)))))
def e_layers_3 : ME := (.bi1 .tuple (.bi1 .sorted (.slot 8)))
def g_layers : MF := ⟨2, 9, [], (.cons (.asg 2 (.lst .nil)) (.cons (.asg 3 (.bin .mul (.lst (.cons (.int 0) .nil)) (.bi1 .len (.fld (.slot 0) 1)))) (.cons (.asg 4 (.call 24 (.cons (.rd (.slot 0)) .nil))) (.cons (.forr (.name 5) (.of (.slot 1)) b_layers_2) (.cons (.ret (.comp 8 e_layers_3 (.of (.slot 2)) .none)) .nil)))))⟩
theorem f_layers_eq : f_layers = g_layers := rfl
def b_l_is_word_1 : MSs := (.cons (.ite (.or (.not (.val (.call 19 (.cons (.rd (.slot 2)) .nil)))) (.or (.cmp .lt (.slot 2) (.int 0)) (.cmp .ge (.slot 2) (.slot 1)))) (.cons (.ret (.bl false)) .nil) .nil) .nil)
def g_l_is_word : MF := ⟨2, 3, [], (.cons (.ite (.not (.val (.isi (.slot 0) .tuple))) (.cons (.ret (.bl false)) .nil) .nil) (.cons (.forr (.name 2) (.of (.slot 0)) b_l_is_word_1) (.cons (.ret (.bl true)) .nil)))⟩
theorem f_l_is_word_eq : f_l_is_word = g_l_is_word := rfl
def b_l_all_words_1 : MSs := (.cons (.ite (.or (.not (.val (.isi (.slot 2) .tuple))) (.not (.val (.call 26 (.cons (.rd (.slot 2)) (.cons (.rd (.slot 1)) .nil)))))) (.cons (.ret (.bl false)) .nil) .nil) .nil)
def g_l_all_words : MF := ⟨2, 3, [], (.cons (.ite (.not (.val (.isi (.slot 0) .list))) (.cons (.ret (.bl false)) .nil) .nil) (.cons (.forr (.name 2) (.of (.slot 0)) b_l_all_words_1) (.cons (.ret (.bl true)) .nil)))⟩
theorem f_l_all_words_eq : f_l_all_words = g_l_all_words := rfl
def e_law_k04_1 : ME := (.slot 11)
def t_law_k04_2 : MTo := (.some (.and (.cmp .ne (.slot 11) (.slot 10)) (.not (.val (.call 8 (.cons (.rd (.slot 3)) (.cons (.rd (.slot 10)) (.cons (.rd (.slot 11)) .nil))))))))
def e_law_k04_3 : ME := (.slot 11)
def t_law_k04_4 : MTo := (.some (.not (.val (.call 8 (.cons (.rd (.slot 3)) (.cons (.rd (.slot 10)) (.cons (.rd (.slot 11)) .nil)))))))
def b_law_k04_5 : MSs := (.cons (.ite (.cmp .gt (.bi1 .len (.comp 11 e_law_k04_1 (.of (.slot 9)) t_law_k04_2)) (.int 0)) (.cons (.ret (.bl false)) .nil) .nil) (.cons (.ite (.and (.cmp .gt (.slot 8) (.int 0)) (.cmp .eq (.bi1 .len (.comp 11 e_law_k04_3 (.of (.sub (.slot 6) (.bin .sub (.slot 8) (.int 1)))) t_law_k04_4)) (.int 0))) (.cons (.ret (.bl false)) .nil) .nil) .nil))
def b_law_k04_6 : MSs := (.cons (.asg 9 (.sub (.slot 6) (.slot 8))) (.cons (.ite (.or (.cmp .eq (.bi1 .len (.slot 9)) (.int 0)) (.cmp .ne (.bi1 .list (.slot 9)) (.bi1 .sset (.slot 9)))) (.cons (.ret (.bl false)) .nil) .nil) (.cons (.forr (.name 10) (.of (.slot 9)) b_law_k04_5) (.cons (.asg 7 (.bin .add (.slot 7) (.slot 9))) .nil))))
def c_law_k04_1 : MSs := (.cons (.ite (.not (.val (.call 27 (.cons (.rd (.slot 6)) (.cons (.rd (.bi1 .len (.slot 3))) .nil))))) (.cons (.ret (.bl false)) .nil) .nil) (.cons (.asg 7 (.tup .nil)) (.cons (.forr (.name 8) (.r1 (.bi1 .len (.slot 6))) b_law_k04_6) (.cons (.ite (.not (.val (.call 20 (.cons (.rd (.slot 2)) (.cons (.rd (.slot 3)) (.cons (.rd (.slot 7)) (.cons (.rd (.slot 5)) .nil))))))) (.cons (.ret (.bl false)) .nil) .nil) (.cons (.ret (.cmp .eq (.call 25 (.cons (.rd (.slot 4)) (.cons (.rd (.bi1 .list (.call 16 (.cons (.mv 1) (.cons (.rd (.slot 3)) (.cons (.rd (.slot 5)) (.cons (.rd (.int 15)) .nil))))))) .nil))) (.slot 6))) .nil)))))
def g_law_k04 : MF := ⟨1, 12, [], (.cons (.asg 1 (.call 5 (.cons (.rd (.slot 0)) (.cons (.rd (.int 80)) .nil)))) (.cons (.asgT (.pair 2 3) (.call 7 (.cons (.mv 1) (.cons (.rd (.int 4)) (.cons (.rd (.int 5)) .nil))))) (.cons (.asg 4 (.make 0 1 (.cons (.rd (.slot 2)) (.cons (.rd (.bi1 .list (.slot 3))) .nil)))) (.cons (.asg 5 (.call 14 (.cons (.mv 1) (.cons (.rd (.bi1 .len (.slot 3))) (.cons (.rd (.int 10)) .nil))))) (.cons (.asg 6 (.call 25 (.cons (.rd (.slot 4)) (.cons (.rd (.slot 5)) .nil)))) c_law_k04_1)))))⟩
theorem f_law_k04_eq : f_law_k04 = g_law_k04 := rfl
def b_first_letters_1 : MSs := (.cons (.ite (.cmp .eq (.bin .band (.bin .shr (.slot 3) (.sub (.slot 1) (.slot 5))) (.int 1)) (.int 0)) (.cons (.append (.slot 2) (.slot 5)) .nil) .nil) (.cons (.asg 3 (.bin .bor (.slot 3) (.sub (.slot 4) (.sub (.slot 1) (.slot 5))))) .nil))
def g_first_letters : MF := ⟨2, 6, [], (.cons (.asg 2 (.lst .nil)) (.cons (.asg 3 (.int 0)) (.cons (.asg 4 (.call 24 (.cons (.rd (.slot 0)) .nil))) (.cons (.forr (.name 5) (.r1 (.bi1 .len (.slot 1))) b_first_letters_1) (.cons (.ret (.slot 2)) .nil)))))⟩
theorem f_first_letters_eq : f_first_letters = g_first_letters := rfl
def b_least_form_1 : MSs := (.cons (.ite (.or (.cmp .lt (.slot 4) (.int 0)) (.cmp .lt (.sub (.slot 2) (.slot 5)) (.sub (.slot 2) (.slot 4)))) (.cons (.asg 4 (.slot 5)) .nil) .nil) .nil)
def t_least_form_2 : MT := (.cmp .gt (.bi1 .len (.slot 2)) (.int 0))
def b_least_form_3 : MSs := (.cons (.asg 4 (.un .neg (.int 1))) (.cons (.forr (.name 5) (.of (.call 29 (.cons (.rd (.slot 0)) (.cons (.bor 2) .nil)))) b_least_form_1) (.cons (.append (.slot 3) (.popAt 2 (.slot 4))) .nil)))
def g_least_form : MF := ⟨2, 6, [], (.cons (.asg 2 (.bi1 .list (.slot 1))) (.cons (.asg 3 (.lst .nil)) (.cons (.whil t_least_form_2 b_least_form_3) (.cons (.ret (.bi1 .tuple (.slot 3))) .nil))))⟩
theorem f_least_form_eq : f_least_form = g_least_form := rfl
def g_next_barred : MF := ⟨3, 4, [], (.cons (.asg 3 (.bin .sub (.bin .shl (.int 1) (.slot 2)) (.int 1))) (.cons (.ret (.bin .band (.bin .bor (.slot 1) (.slot 3)) (.un .inv (.sub (.slot 0) (.slot 2))))) .nil))⟩
theorem f_next_barred_eq : f_next_barred = g_next_barred := rfl
def b_is_least_1 : MSs := (.cons (.ite (.cmp .eq (.bin .band (.bin .shr (.slot 3) (.slot 4)) (.int 1)) (.int 1)) (.cons (.ret (.bl false)) .nil) .nil) (.cons (.asg 3 (.call 31 (.cons (.rd (.slot 2)) (.cons (.rd (.slot 3)) (.cons (.rd (.slot 4)) .nil))))) .nil))
def g_is_least : MF := ⟨2, 5, [], (.cons (.asg 2 (.call 24 (.cons (.rd (.slot 0)) .nil))) (.cons (.asg 3 (.int 0)) (.cons (.forr (.name 4) (.of (.slot 1)) b_is_least_1) (.cons (.ret (.bl true)) .nil))))⟩
theorem f_is_least_eq : f_is_least = g_is_least := rfl
def c_law_k06_3 : MSs := (.cons (.ite (.cmp .ne (.isn true (.slot 11)) (.slot 9)) (.cons (.ret (.bl false)) .nil) .nil) (.cons (.ret (.or2 (.isn false (.slot 11)) (.cmp .eq (.call 18 (.cons (.rd (.slot 4)) (.cons (.rd (.slot 5)) (.cons (.rd (.slot 11)) .nil)))) (.slot 6)))) .nil))
def c_law_k06_2 : MSs := (.cons (.ite (.cmp .ne (.cmp .eq (.call 25 (.cons (.rd (.slot 4)) (.cons (.rd (.slot 5)) .nil))) (.call 25 (.cons (.rd (.slot 4)) (.cons (.rd (.slot 6)) .nil)))) (.slot 9)) (.cons (.ret (.bl false)) .nil) .nil) (.cons (.asg 10 (.call 30 (.cons (.rd (.slot 4)) (.cons (.rd (.slot 5)) .nil)))) (.cons (.ite (.or (.cmp .ne (.cmp .eq (.slot 10) (.call 30 (.cons (.rd (.slot 4)) (.cons (.rd (.slot 6)) .nil)))) (.slot 9)) (.not (.val (.call 32 (.cons (.rd (.slot 4)) (.cons (.rd (.slot 10)) .nil)))))) (.cons (.ret (.bl false)) .nil) .nil) (.cons (.ite (.or (.cmp .ne (.call 25 (.cons (.rd (.slot 4)) (.cons (.rd (.slot 10)) .nil))) (.call 25 (.cons (.rd (.slot 4)) (.cons (.rd (.slot 5)) .nil)))) (.not (.val (.call 20 (.cons (.rd (.slot 2)) (.cons (.rd (.slot 3)) (.cons (.rd (.slot 10)) (.cons (.rd (.slot 5)) .nil)))))))) (.cons (.ret (.bl false)) .nil) .nil) (.cons (.asg 11 (.call 17 (.cons (.rd (.slot 4)) (.cons (.rd (.slot 5)) (.cons (.rd (.slot 6)) .nil))))) c_law_k06_3)))))
def c_law_k06_1 : MSs := (.cons (.asg 7 (.call 6 (.cons (.mv 1) (.cons (.rd (.int 4)) .nil)))) (.cons (.ite (.and (.cmp .gt (.bi1 .len (.slot 6)) (.int 1)) (.cmp .eq (.slot 7) (.int 0))) (.cons (.asg 8 (.call 6 (.cons (.mv 1) (.cons (.rd (.bin .sub (.bi1 .len (.slot 6)) (.int 1))) .nil)))) (.cons (.asg 6 (.bin .add (.bin .add (.slc (.slot 6) .none (.some (.slot 8))) (.tup (.cons (.sub (.slot 6) (.bin .add (.slot 8) (.int 1))) (.cons (.sub (.slot 6) (.slot 8)) .nil)))) (.slc (.slot 6) (.some (.bin .add (.slot 8) (.int 2))) .none))) .nil)) .nil) (.cons (.ite (.and (.cmp .gt (.bi1 .len (.slot 6)) (.int 0)) (.cmp .eq (.slot 7) (.int 1))) (.cons (.asg 8 (.call 6 (.cons (.mv 1) (.cons (.rd (.bi1 .len (.slot 6))) .nil)))) (.cons (.asg 6 (.bin .add (.bin .add (.slc (.slot 6) .none (.some (.slot 8))) (.tup (.cons (.call 6 (.cons (.mv 1) (.cons (.rd (.bi1 .len (.slot 3))) .nil))) .nil))) (.slc (.slot 6) (.some (.bin .add (.slot 8) (.int 1))) .none))) .nil)) .nil) (.cons (.asg 9 (.call 20 (.cons (.rd (.slot 2)) (.cons (.rd (.slot 3)) (.cons (.rd (.slot 5)) (.cons (.rd (.slot 6)) .nil)))))) (.cons (.ite (.cmp .ne (.call 13 (.cons (.rd (.slot 4)) (.cons (.rd (.slot 5)) (.cons (.rd (.slot 6)) .nil)))) (.slot 9)) (.cons (.ret (.bl false)) .nil) .nil) c_law_k06_2)))))
def g_law_k06 : MF := ⟨1, 12, [], (.cons (.asg 1 (.call 5 (.cons (.rd (.slot 0)) (.cons (.rd (.int 100)) .nil)))) (.cons (.asgT (.pair 2 3) (.call 7 (.cons (.mv 1) (.cons (.rd (.int 4)) (.cons (.rd (.int 6)) .nil))))) (.cons (.asg 4 (.make 0 1 (.cons (.rd (.slot 2)) (.cons (.rd (.bi1 .list (.slot 3))) .nil)))) (.cons (.asg 5 (.call 14 (.cons (.mv 1) (.cons (.rd (.bi1 .len (.slot 3))) (.cons (.rd (.int 14)) .nil))))) (.cons (.asg 6 (.call 16 (.cons (.mv 1) (.cons (.rd (.slot 3)) (.cons (.rd (.slot 5)) (.cons (.rd (.int 25)) .nil)))))) c_law_k06_1)))))⟩
theorem f_law_k06_eq : f_law_k06 = g_law_k06 := rfl
def b_below_all_1 : MSs := (.cons (.asg 5 (.or2 (.slot 5) (.and2 (.cmp .lt (.slot 4) (.slot 6)) (.nt (.call 2 (.cons (.rd (.slot 0)) (.cons (.rd (.sub (.slot 1) (.slot 4))) (.cons (.rd (.sub (.slot 1) (.slot 6))) .nil)))))))) .nil)
def b_below_all_2 : MSs := (.cons (.asg 5 (.cmp .inn (.slot 4) (.slot 2))) (.cons (.forr (.name 6) (.of (.slot 3)) b_below_all_1) (.cons (.ite (.val (.slot 5)) (.cons (.append (.slot 3) (.slot 4)) .nil) .nil) .nil)))
def g_below_all : MF := ⟨3, 7, [], (.cons (.asg 3 (.lst .nil)) (.cons (.forr (.name 4) (.r3 (.bin .sub (.bi1 .len (.slot 1)) (.int 1)) (.un .neg (.int 1)) (.un .neg (.int 1))) b_below_all_2) (.cons (.ret (.rev (.slot 3))) .nil)))⟩
theorem f_below_all_eq : f_below_all = g_below_all := rfl
def g_is_below : MF := ⟨4, 4, [], (.cons (.ret (.cmp .inn (.slot 2) (.call 34 (.cons (.rd (.slot 0)) (.cons (.rd (.slot 1)) (.cons (.rd (.lst (.cons (.slot 3) .nil))) .nil)))))) .nil)⟩
theorem f_is_below_eq : f_is_below = g_is_below := rfl
def e_events_at_1 : ME := (.slot 3)
def t_events_at_2 : MTo := (.some (.cmp .inn (.slot 2) (.sub (.fld (.slot 0) 1) (.sub (.slot 1) (.slot 3)))))
def g_events_at : MF := ⟨3, 4, [], (.cons (.ret (.comp 3 e_events_at_1 (.r1 (.bi1 .len (.slot 1))) t_events_at_2)) .nil)⟩
theorem f_events_at_eq : f_events_at = g_events_at := rfl
def g_view : MF := ⟨3, 3, [], (.cons (.ret (.call 34 (.cons (.rd (.slot 0)) (.cons (.rd (.slot 1)) (.cons (.rd (.call 36 (.cons (.rd (.slot 0)) (.cons (.rd (.slot 1)) (.cons (.rd (.slot 2)) .nil))))) .nil))))) .nil)⟩
theorem f_view_eq : f_view = g_view := rfl
def e_newest_1 : ME := (.slot 7)
def t_newest_2 : MTo := (.some (.cmp .inn (.slot 5) (.sub (.fld (.slot 0) 1) (.sub (.slot 1) (.slot 7)))))
def b_newest_3 : MSs := (.cons (.asg 6 (.comp 7 e_newest_1 (.of (.slot 3)) t_newest_2)) (.cons (.append (.slot 4) (.bi1 .max (.bin .add (.slot 6) (.lst (.cons (.un .neg (.int 1)) .nil))))) .nil))
def g_newest : MF := ⟨3, 8, [], (.cons (.asg 3 (.call 37 (.cons (.rd (.slot 0)) (.cons (.rd (.slot 1)) (.cons (.rd (.slot 2)) .nil))))) (.cons (.asg 4 (.lst .nil)) (.cons (.forr (.name 5) (.r1 (.fld (.slot 0) 0)) b_newest_3) (.cons (.ret (.bi1 .tuple (.slot 4))) .nil))))⟩
theorem f_newest_eq : f_newest = g_newest := rfl
def b_l_numbers_1 : MSs := (.cons (.ite (.or (.not (.val (.call 19 (.cons (.rd (.slot 3)) .nil)))) (.cmp .lt (.slot 3) (.slot 2))) (.cons (.ret (.bl false)) .nil) .nil) .nil)
def g_l_numbers : MF := ⟨3, 4, [], (.cons (.ite (.or (.not (.val (.isi (.slot 0) .tuple))) (.cmp .ne (.bi1 .len (.slot 0)) (.slot 1))) (.cons (.ret (.bl false)) .nil) .nil) (.cons (.forr (.name 3) (.of (.slot 0)) b_l_numbers_1) (.cons (.ret (.bl true)) .nil)))⟩
theorem f_l_numbers_eq : f_l_numbers = g_l_numbers := rfl
def e_l_below_1 : ME := (.cmp .eq (.slot 5) (.slot 4))
def e_l_below_2 : ME := (.comp 4 e_l_below_1 (.r1 (.slot 2)) .none)
def b_l_below_3 : MSs := (.cons (.ite (.val (.sub (.sub (.slot 3) (.slot 6)) (.slot 5))) (.cons (.setI (.sub (.slot 3) (.slot 6)) (.slot 4) (.bl true)) .nil) .nil) .nil)
def b_l_below_4 : MSs := (.cons (.ite (.not (.val (.call 8 (.cons (.rd (.slot 0)) (.cons (.rd (.sub (.slot 1) (.slot 5))) (.cons (.rd (.sub (.slot 1) (.slot 4))) .nil)))))) (.cons (.forr (.name 6) (.r1 (.slot 2)) b_l_below_3) .nil) .nil) .nil)
def b_l_below_5 : MSs := (.cons (.forr (.name 5) (.r1 (.slot 4)) b_l_below_4) .nil)
def g_l_below : MF := ⟨2, 7, [], (.cons (.asg 2 (.bi1 .len (.slot 1))) (.cons (.asg 3 (.comp 5 e_l_below_2 (.r1 (.slot 2)) .none)) (.cons (.forr (.name 4) (.r1 (.slot 2)) b_l_below_5) (.cons (.ret (.slot 3)) .nil))))⟩
theorem f_l_below_eq : f_l_below = g_l_below := rfl
def e_l_view_1 : ME := (.slot 5)
def t_l_view_2 : MTo := (.some (.cmp .inn (.slot 2) (.sub (.slot 0) (.sub (.slot 1) (.slot 5)))))
def e_l_view_3 : ME := (.slot 5)
def t_l_view_4 : MTo := (.some (.val (.sub (.sub (.slot 3) (.slot 6)) (.slot 5))))
def e_l_view_5 : ME := (.slot 6)
def t_l_view_6 : MTo := (.some (.cmp .gt (.bi1 .len (.comp 5 e_l_view_3 (.of (.slot 4)) t_l_view_4)) (.int 0)))
def g_l_view : MF := ⟨3, 7, [], (.cons (.asg 3 (.call 40 (.cons (.rd (.slot 0)) (.cons (.rd (.slot 1)) .nil)))) (.cons (.asg 4 (.comp 5 e_l_view_1 (.r1 (.bi1 .len (.slot 1))) t_l_view_2)) (.cons (.ret (.comp 6 e_l_view_5 (.r1 (.bi1 .len (.slot 1))) t_l_view_6)) .nil)))⟩
theorem f_l_view_eq : f_l_view = g_l_view := rfl
def e_l_newest_1 : ME := (.slot 7)
def t_l_newest_2 : MTo := (.some (.cmp .inn (.slot 6) (.sub (.slot 1) (.sub (.slot 2) (.slot 7)))))
def b_l_newest_3 : MSs := (.cons (.append (.slot 5) (.bi1 .max (.bin .add (.lst (.cons (.un .neg (.int 1)) .nil)) (.comp 7 e_l_newest_1 (.of (.slot 4)) t_l_newest_2)))) .nil)
def g_l_newest : MF := ⟨4, 8, [], (.cons (.asg 4 (.call 41 (.cons (.rd (.slot 1)) (.cons (.rd (.slot 2)) (.cons (.rd (.slot 3)) .nil))))) (.cons (.asg 5 (.lst .nil)) (.cons (.forr (.name 6) (.r1 (.slot 0)) b_l_newest_3) (.cons (.ret (.slot 5)) .nil))))⟩
theorem f_l_newest_eq : f_l_newest = g_l_newest := rfl
def b_law_k07_1 : MSs := (.cons (.asg 9 (.call 35 (.cons (.rd (.slot 4)) (.cons (.rd (.slot 5)) (.cons (.rd (.slot 7)) (.cons (.rd (.slot 8)) .nil)))))) (.cons (.ite (.or (.not (.val (.isi (.slot 9) .bool))) (.cmp .ne (.slot 9) (.sub (.sub (.slot 6) (.slot 7)) (.slot 8)))) (.cons (.ret (.bl false)) .nil) .nil) .nil))
def b_law_k07_2 : MSs := (.cons (.ite (.cmp .ne (.call 37 (.cons (.rd (.slot 4)) (.cons (.rd (.bi1 .list (.slot 5))) (.cons (.rd (.slot 10)) .nil)))) (.call 41 (.cons (.rd (.slot 3)) (.cons (.rd (.slot 5)) (.cons (.rd (.slot 10)) .nil))))) (.cons (.ret (.bl false)) .nil) .nil) (.cons (.asg 9 (.call 38 (.cons (.rd (.slot 4)) (.cons (.rd (.slot 5)) (.cons (.rd (.slot 10)) .nil))))) (.cons (.ite (.or (.not (.val (.call 39 (.cons (.rd (.slot 9)) (.cons (.rd (.slot 2)) (.cons (.rd (.un .neg (.int 1))) .nil)))))) (.cmp .ne (.bi1 .list (.slot 9)) (.call 42 (.cons (.rd (.slot 2)) (.cons (.rd (.slot 3)) (.cons (.rd (.slot 5)) (.cons (.rd (.slot 10)) .nil))))))) (.cons (.ret (.bl false)) .nil) .nil) .nil)))
def g_law_k07 : MF := ⟨1, 11, [], (.cons (.asg 1 (.call 5 (.cons (.rd (.slot 0)) (.cons (.rd (.int 60)) .nil)))) (.cons (.asgT (.pair 2 3) (.call 7 (.cons (.mv 1) (.cons (.rd (.int 4)) (.cons (.rd (.int 5)) .nil))))) (.cons (.asg 4 (.make 0 1 (.cons (.rd (.slot 2)) (.cons (.rd (.bi1 .list (.slot 3))) .nil)))) (.cons (.asg 5 (.call 14 (.cons (.mv 1) (.cons (.rd (.bi1 .len (.slot 3))) (.cons (.rd (.int 9)) .nil))))) (.cons (.asg 6 (.call 40 (.cons (.rd (.slot 3)) (.cons (.rd (.slot 5)) .nil)))) (.cons (.ite (.cmp .gt (.bi1 .len (.slot 5)) (.int 0)) (.cons (.asg 7 (.call 6 (.cons (.mv 1) (.cons (.rd (.bi1 .len (.slot 5))) .nil)))) (.cons (.forr (.name 8) (.r1 (.bi1 .len (.slot 5))) b_law_k07_1) .nil)) .nil) (.cons (.forr (.name 10) (.r1 (.slot 2)) b_law_k07_2) (.cons (.ret (.bl true)) .nil))))))))⟩
theorem f_law_k07_eq : f_law_k07 = g_law_k07 := rfl
def b_first_place_1 : MSs := (.cons (.ite (.cmp .eq (.sub (.slot 1) (.slot 3)) (.slot 2)) (.cons (.ret (.slot 3)) .nil) .nil) .nil)
def g_first_place : MF := ⟨3, 4, [], (.cons (.forr (.name 3) (.of (.call 29 (.cons (.rd (.slot 0)) (.cons (.rd (.slot 1)) .nil)))) b_first_place_1) (.cons (.ret (.un .neg (.int 1))) .nil))⟩
theorem f_first_place_eq : f_first_place = g_first_place := rfl
def g_without : MF := ⟨2, 2, [], (.cons (.ret (.bin .add (.bi1 .tuple (.slc (.slot 0) .none (.some (.slot 1)))) (.bi1 .tuple (.slc (.slot 0) (.some (.bin .add (.slot 1) (.int 1))) .none)))) .nil)⟩
theorem f_without_eq : f_without = g_without := rfl
def b_rest_1 : MSs := (.cons (.asg 5 (.call 44 (.cons (.rd (.slot 0)) (.cons (.rd (.slot 3)) (.cons (.rd (.slot 4)) .nil))))) (.cons (.ite (.cmp .lt (.slot 5) (.int 0)) (.cons (.ret .non) .nil) .nil) (.cons (.asg 3 (.call 45 (.cons (.rd (.slot 3)) (.cons (.rd (.slot 5)) .nil)))) .nil)))
def g_rest : MF := ⟨3, 6, [], (.cons (.asg 3 (.bi1 .tuple (.slot 2))) (.cons (.forr (.name 4) (.of (.slot 1)) b_rest_1) (.cons (.ret (.call 30 (.cons (.rd (.slot 0)) (.cons (.rd (.slot 3)) .nil)))) .nil)))⟩
theorem f_rest_eq : f_rest = g_rest := rfl
def t_common_prefix_1 : MT := (.cmp .lt (.slot 6) (.bi1 .len (.fld (.slot 0) 1)))
def b_common_prefix_2 : MSs := (.cons (.asg 7 (.call 44 (.cons (.rd (.slot 0)) (.cons (.rd (.slot 3)) (.cons (.rd (.slot 6)) .nil))))) (.cons (.asg 8 (.call 44 (.cons (.rd (.slot 0)) (.cons (.rd (.slot 4)) (.cons (.rd (.slot 6)) .nil))))) (.cons (.ite (.and (.cmp .ge (.slot 7) (.int 0)) (.cmp .ge (.slot 8) (.int 0))) (.cons (.append (.slot 5) (.slot 6)) (.cons (.asg 3 (.call 45 (.cons (.rd (.slot 3)) (.cons (.rd (.slot 7)) .nil)))) (.cons (.asg 4 (.call 45 (.cons (.rd (.slot 4)) (.cons (.rd (.slot 8)) .nil)))) (.cons (.asg 6 (.int 0)) .nil)))) (.cons (.aug 6 .add (.int 1)) .nil)) .nil)))
def g_common_prefix : MF := ⟨3, 9, [], (.cons (.asg 3 (.bi1 .tuple (.slot 1))) (.cons (.asg 4 (.bi1 .tuple (.slot 2))) (.cons (.asg 5 (.lst .nil)) (.cons (.asg 6 (.int 0)) (.cons (.whil t_common_prefix_1 b_common_prefix_2) (.cons (.ret (.call 30 (.cons (.rd (.slot 0)) (.cons (.bor 5) .nil)))) .nil))))))⟩
theorem f_common_prefix_eq : f_common_prefix = g_common_prefix := rfl
def e_l_least_1 : ME := (.slot 8)
def t_l_least_2 : MTo := (.some (.not (.val (.call 8 (.cons (.rd (.slot 0)) (.cons (.rd (.sub (.slot 2) (.slot 8))) (.cons (.rd (.sub (.slot 2) (.slot 6))) .nil)))))))
def b_l_least_3 : MSs := (.cons (.asg 7 (.comp 8 e_l_least_1 (.r1 (.slot 6)) t_l_least_2)) (.cons (.ite (.and (.cmp .eq (.bi1 .len (.slot 7)) (.int 0)) (.or (.cmp .lt (.slot 5) (.int 0)) (.cmp .lt (.sub (.slot 2) (.slot 6)) (.sub (.slot 2) (.slot 5))))) (.cons (.asg 5 (.slot 6)) .nil) .nil) .nil))
def b_l_least_4 : MSs := (.cons (.asg 5 (.un .neg (.int 1))) (.cons (.forr (.name 6) (.r1 (.bi1 .len (.slot 2))) b_l_least_3) (.cons (.append (.slot 3) (.sub (.slot 2) (.slot 5))) (.cons (.asg 2 (.bin .add (.slc (.slot 2) .none (.some (.slot 5))) (.slc (.slot 2) (.some (.bin .add (.slot 5) (.int 1))) .none))) .nil))))
def g_l_least : MF := ⟨2, 9, [], (.cons (.asg 2 (.bi1 .list (.slot 1))) (.cons (.asg 3 (.lst .nil)) (.cons (.forr (.name 4) (.r1 (.bi1 .len (.slot 1))) b_l_least_4) (.cons (.ret (.bi1 .tuple (.slot 3))) .nil))))⟩
theorem f_l_least_eq : f_l_least = g_l_least := rfl
def e_l_cuts_1 : ME := (.slot 7)
def t_l_cuts_2 : MTo := (.some (.and (.not (.val (.call 8 (.cons (.rd (.slot 0)) (.cons (.rd (.sub (.slot 1) (.slot 7))) (.cons (.rd (.sub (.slot 1) (.slot 3))) .nil)))))) (.cmp .nin (.slot 7) (.slot 5))))
def b_l_cuts_3 : MSs := (.cons (.asg 6 (.comp 7 e_l_cuts_1 (.r1 (.slot 3)) t_l_cuts_2)) (.cons (.ite (.cmp .eq (.bi1 .len (.slot 6)) (.int 0)) (.cons (.append (.slot 4) (.bin .add (.slot 5) (.tup (.cons (.slot 3) .nil)))) .nil) .nil) .nil))
def b_l_cuts_4 : MSs := (.cons (.asg 4 (.lst .nil)) (.cons (.forr (.name 5) (.of (.slot 2)) b_l_cuts_3) (.cons (.asg 2 (.bin .add (.slot 2) (.slot 4))) .nil)))
def g_l_cuts : MF := ⟨2, 8, [], (.cons (.asg 2 (.lst (.cons (.tup .nil) .nil))) (.cons (.forr (.name 3) (.r1 (.bi1 .len (.slot 1))) b_l_cuts_4) (.cons (.ret (.slot 2)) .nil)))⟩
theorem f_l_cuts_eq : f_l_cuts = g_l_cuts := rfl
def g_is_cut : MF := ⟨3, 3, [], (.cons (.ret (.cmp .eq (.call 34 (.cons (.rd (.slot 0)) (.cons (.rd (.slot 1)) (.cons (.rd (.bi1 .list (.slot 2))) .nil)))) (.bi1 .sorted (.slot 2)))) .nil)⟩
theorem f_is_cut_eq : f_is_cut = g_is_cut := rfl
def e_last_letter_1 : ME := (.slot 5)
def t_last_letter_2 : MTo := (.some (.cmp .inn (.slot 3) (.sub (.fld (.slot 0) 1) (.sub (.slot 1) (.slot 5)))))
def g_last_letter : MF := ⟨4, 6, [], (.cons (.asg 4 (.comp 5 e_last_letter_1 (.of (.slot 2)) t_last_letter_2)) (.cons (.ite (.cmp .eq (.bi1 .len (.slot 4)) (.int 0)) (.cons (.ret (.glob "NOTHING" (-1))) .nil) .nil) (.cons (.ret (.sub (.slot 1) (.bi1 .max (.slot 4)))) .nil)))⟩
theorem f_last_letter_eq : f_last_letter = g_last_letter := rfl
def b_holds_1 : MSs := (.cons (.ite (.cmp .nin (.call 162 (.cons (.rd (.slot 0)) (.cons (.rd (.slot 1)) (.cons (.rd (.slot 2)) (.cons (.rd (.slot 4)) .nil))))) (.sub (.slot 3) (.slot 4))) (.cons (.ret (.bl false)) .nil) .nil) .nil)
def g_holds : MF := ⟨4, 5, [], (.cons (.forr (.name 4) (.r1 (.fld (.slot 0) 0)) b_holds_1) (.cons (.ret (.bl true)) .nil))⟩
theorem f_holds_eq : f_holds = g_holds := rfl
def b_wanting_place_1 : MSs := (.cons (.ite (.cmp .nin (.call 162 (.cons (.rd (.slot 0)) (.cons (.rd (.slot 1)) (.cons (.rd (.slot 2)) (.cons (.rd (.slot 4)) .nil))))) (.sub (.slot 3) (.slot 4))) (.cons (.ret (.slot 4)) .nil) .nil) .nil)
def g_wanting_place : MF := ⟨4, 5, [], (.cons (.forr (.name 4) (.r1 (.fld (.slot 0) 0)) b_wanting_place_1) (.cons (.ret (.un .neg (.int 1))) .nil))⟩
theorem f_wanting_place_eq : f_wanting_place = g_wanting_place := rfl
def b_l_holds_1 : MSs := (.cons (.ite (.cmp .inn (.slot 5) (.sub (.slot 1) (.sub (.slot 2) (.slot 7)))) (.cons (.asg 6 (.sub (.slot 2) (.slot 7))) .nil) .nil) .nil)
def b_l_holds_2 : MSs := (.cons (.asg 6 (.un .neg (.int 1))) (.cons (.forr (.name 7) (.of (.slot 3)) b_l_holds_1) (.cons (.ite (.cmp .nin (.slot 6) (.sub (.slot 4) (.slot 5))) (.cons (.ret (.bl false)) .nil) .nil) .nil)))
def g_l_holds : MF := ⟨5, 8, [], (.cons (.forr (.name 5) (.r1 (.slot 0)) b_l_holds_2) (.cons (.ret (.bl true)) .nil))⟩
theorem f_l_holds_eq : f_l_holds = g_l_holds := rfl
def t_beginning_1 : MT := (.and (.cmp .gt (.bi1 .len (.slot 1)) (.int 0)) (.cmp .lt (.bi1 .len (.slot 3)) (.slot 2)))
def b_beginning_2 : MSs := (.cons (.asg 3 (.bin .add (.slot 3) (.slot 1))) .nil)
def g_beginning : MF := ⟨3, 4, [], (.cons (.asg 3 (.slot 0)) (.cons (.whil t_beginning_1 b_beginning_2) (.cons (.ret (.slc (.slot 3) .none (.some (.slot 2)))) .nil)))⟩
theorem f_beginning_eq : f_beginning = g_beginning := rfl
def e_same_loop_1 : ME := (.call 12 (.cons (.rd (.slot 0)) (.cons (.rd (.sub (.slot 5) (.int 0))) (.cons (.rd (.slot 3)) .nil))))
def e_same_loop_2 : ME := (.call 12 (.cons (.rd (.slot 0)) (.cons (.rd (.sub (.slot 5) (.int 1))) (.cons (.rd (.slot 3)) .nil))))
def b_same_loop_3 : MSs := (.cons (.asg 4 (.comp 5 e_same_loop_1 (.of (.tup (.cons (.slot 1) (.cons (.slot 2) .nil)))) .none)) (.cons (.asg 6 (.comp 5 e_same_loop_2 (.of (.tup (.cons (.slot 1) (.cons (.slot 2) .nil)))) .none)) (.cons (.ite (.cmp .ne (.cmp .eq (.bi1 .len (.sub (.slot 6) (.int 0))) (.int 0)) (.cmp .eq (.bi1 .len (.sub (.slot 6) (.int 1))) (.int 0))) (.cons (.ret (.bl false)) .nil) .nil) (.cons (.asg 7 (.bin .add (.bin .add (.bi2 .max (.bi1 .len (.sub (.slot 4) (.int 0))) (.bi1 .len (.sub (.slot 4) (.int 1)))) (.bi1 .len (.sub (.slot 6) (.int 0)))) (.bi1 .len (.sub (.slot 6) (.int 1))))) (.cons (.ite (.cmp .ne (.call 197 (.cons (.rd (.sub (.slot 4) (.int 0))) (.cons (.rd (.sub (.slot 6) (.int 0))) (.cons (.rd (.slot 7)) .nil)))) (.call 197 (.cons (.rd (.sub (.slot 4) (.int 1))) (.cons (.rd (.sub (.slot 6) (.int 1))) (.cons (.rd (.slot 7)) .nil))))) (.cons (.ret (.bl false)) .nil) .nil) .nil)))))
def g_same_loop : MF := ⟨3, 8, [], (.cons (.forr (.name 3) (.r1 (.fld (.slot 0) 0)) b_same_loop_3) (.cons (.ret (.bl true)) .nil))⟩
theorem f_same_loop_eq : f_same_loop = g_same_loop := rfl
def g_l_long : MF := ⟨3, 5, [], (.cons (.asg 3 (.call 15 (.cons (.rd (.slot 0)) (.cons (.rd (.sub (.slot 1) (.int 0))) (.cons (.rd (.slot 2)) .nil))))) (.cons (.asg 4 (.call 15 (.cons (.rd (.slot 0)) (.cons (.rd (.sub (.slot 1) (.int 1))) (.cons (.rd (.slot 2)) .nil))))) (.cons (.ite (.cmp .eq (.bi1 .len (.slot 4)) (.int 0)) (.cons (.ret (.tup (.cons (.slot 3) (.cons (.bl true) .nil)))) .nil) .nil) (.cons (.ret (.tup (.cons (.slc (.bin .add (.slot 3) (.bin .mul (.slot 4) (.int 80))) .none (.some (.int 80))) (.cons (.bl false) .nil)))) .nil))))⟩
theorem f_l_long_eq : f_l_long = g_l_long := rfl
def b_l_orders_1 : MSs := (.cons (.ite (.val (.call 8 (.cons (.rd (.slot 0)) (.cons (.rd (.sub (.slot 5) (.slot 6))) (.cons (.rd (.sub (.slot 5) (.bin .add (.slot 6) (.int 1)))) .nil))))) (.cons (.asg 7 (.bin .add (.bin .add (.slc (.slot 5) .none (.some (.slot 6))) (.tup (.cons (.sub (.slot 5) (.bin .add (.slot 6) (.int 1))) (.cons (.sub (.slot 5) (.slot 6)) .nil)))) (.slc (.slot 5) (.some (.bin .add (.slot 6) (.int 2))) .none))) (.cons (.ite (.cmp .nin (.slot 7) (.slot 3)) (.cons (.dset 3 (.slot 7) (.bl true)) (.cons (.append (.slot 2) (.slot 7)) .nil)) .nil) .nil)) .nil) .nil)
def b_l_orders_2 : MSs := (.cons (.ite (.cmp .lt (.slot 4) (.bi1 .len (.slot 2))) (.cons (.asg 5 (.sub (.slot 2) (.slot 4))) (.cons (.forr (.name 6) (.r1 (.bin .sub (.bi1 .len (.slot 5)) (.int 1))) b_l_orders_1) .nil)) .nil) .nil)
def g_l_orders : MF := ⟨2, 8, [], (.cons (.asg 2 (.lst (.cons (.bi1 .tuple (.slot 1)) .nil))) (.cons (.asg 3 (.dlit 1 (.bi1 .tuple (.slot 1)) (.bl true))) (.cons (.forr (.name 4) (.r1 (.int 6000)) b_l_orders_2) (.cons (.ret (.bi1 .sorted (.slot 2))) .nil))))⟩
theorem f_l_orders_eq : f_l_orders = g_l_orders := rfl
def c_law_k05_1 : MSs := (.cons (.asg 7 (.sub (.call 234 (.cons (.rd (.slot 3)) (.cons (.rd (.slot 5)) .nil))) (.int 0))) (.cons (.ite (.or (.cmp .ne (.call 30 (.cons (.rd (.slot 4)) (.cons (.rd (.slot 5)) .nil))) (.slot 7)) (.cmp .ne (.call 30 (.cons (.rd (.slot 4)) (.cons (.rd (.bi1 .list (.slot 6))) .nil))) (.slot 7))) (.cons (.ret (.bl false)) .nil) .nil) (.cons (.asg 8 (.call 32 (.cons (.rd (.slot 4)) (.cons (.rd (.slot 6)) .nil)))) (.cons (.ret (.and2 (.isi (.slot 8) .bool) (.and2 (.cmp .eq (.slot 8) (.cmp .eq (.slot 6) (.slot 7))) (.isb true (.call 32 (.cons (.rd (.slot 4)) (.cons (.rd (.slot 7)) .nil))))))) .nil))))
def g_law_k05 : MF := ⟨1, 9, [], (.cons (.asg 1 (.call 5 (.cons (.rd (.slot 0)) (.cons (.rd (.int 60)) .nil)))) (.cons (.asgT (.pair 2 3) (.call 7 (.cons (.mv 1) (.cons (.rd (.int 3)) (.cons (.rd (.int 4)) .nil))))) (.cons (.asg 4 (.make 0 1 (.cons (.rd (.slot 2)) (.cons (.rd (.bi1 .list (.slot 3))) .nil)))) (.cons (.asg 5 (.call 14 (.cons (.mv 1) (.cons (.rd (.bi1 .len (.slot 3))) (.cons (.rd (.int 7)) .nil))))) (.cons (.asg 6 (.call 16 (.cons (.mv 1) (.cons (.rd (.slot 3)) (.cons (.rd (.slot 5)) (.cons (.rd (.int 10)) .nil)))))) c_law_k05_1)))))⟩
theorem f_law_k05_eq : f_law_k05 = g_law_k05 := rfl
/-! Abm0: the evaluator by simp: what it answers at typed data -/
theorem rd_cons0 {o : Option D} {s : SA} : rd (o :: s) 0 = o := by cases o <;> rfl
/-! loops -/
theorem forL_inv {st : SA → Fl} {g : MG} : ∀ (ds : List D) {I : Nat → SA → Prop} {s : SA}, I 0 s →
    (∀ k x s, ds[k]? = some x → I k s → ∃ s1 s2, asgG g x s = some s1 ∧ (st s1 = .nx s2 ∨ st s1 = .ct s2) ∧ I (k + 1) s2) →
    ∃ s', forL st g ds s = .nx s' ∧ I ds.length s'
  | [], I, s, h0, _ => ⟨s, rfl, h0⟩
  | x :: xs, I, s, h0, hs => by
    obtain ⟨s1, s2, e1, e2, h2⟩ := hs 0 x s rfl h0
    obtain ⟨s', e, h⟩ := forL_inv xs (I := fun k => I (k + 1)) h2 fun k y s hy hi => hs (k + 1) y s (by simpa using hy) hi
    refine ⟨s', ?_, h⟩
    rw [forL, e1]
    rcases e2 with e2 | e2 <;> simp only [e2] <;> exact e
/-- a loop that may return or raise: the body goes on, or ends with what R tells -/
theorem forL_ret {st : SA → Fl} {g : MG} {R : Fl → Prop} : ∀ (ds : List D) {I : Nat → SA → Prop} {s : SA}, I 0 s →
    (∀ k x s, ds[k]? = some x → I k s → ∃ s1, asgG g x s = some s1 ∧ ((∃ s2, (st s1 = .nx s2 ∨ st s1 = .ct s2) ∧ I (k + 1) s2) ∨ (∃ r, ((∃ d s2, r = .rt d s2) ∨ (∃ c s2, r = .rz c s2)) ∧ st s1 = r ∧ R r))) →
    (∃ s', forL st g ds s = .nx s' ∧ I ds.length s') ∨ R (forL st g ds s)
  | [], I, s, h0, _ => .inl ⟨s, rfl, h0⟩
  | x :: xs, I, s, h0, hs => by
    obtain ⟨s1, e1, h⟩ := hs 0 x s rfl h0
    rw [forL, e1]
    rcases h with ⟨s2, e2, h2⟩ | ⟨r, hr, e2, h2⟩
    · have := forL_ret (R := R) xs (I := fun k => I (k + 1)) h2 fun k y s hy hi => hs (k + 1) y s (by simpa using hy) hi
      rcases e2 with e2 | e2 <;> simp only [e2] <;> exact this
    · right
      rcases hr with ⟨d, s2, rfl⟩ | ⟨c, s2, rfl⟩ <;> simp only [e2] <;> exact h2
/-- a search: the body goes on or returns v -/
theorem forL_find {st : SA → Fl} {g : MG} {d : D} : ∀ (ds : List D) (p : Nat → Bool) {I : Nat → SA → Prop} {s : SA}, I 0 s →
    (∀ k x s, ds[k]? = some x → I k s → ∃ s1 s2, asgG g x s = some s1 ∧ (if p k then st s1 = .rt d s2 else ((st s1 = .nx s2 ∨ st s1 = .ct s2) ∧ I (k + 1) s2))) →
    if (List.range ds.length).any p then ∃ s', forL st g ds s = .rt d s' else ∃ s', forL st g ds s = .nx s' ∧ I ds.length s'
  | [], p, I, s, h0, _ => by simp [forL]; exact h0
  | x :: xs, p, I, s, h0, hs => by
    obtain ⟨s1, s2, e1, h⟩ := hs 0 x s rfl h0
    have hr : (List.range (x :: xs).length).any p = (p 0 || (List.range xs.length).any fun k => p (k + 1)) := by
      simp [List.range_succ_eq_map, List.any_map, Function.comp_def]
    rw [hr, forL, e1]
    by_cases hp : p 0 = true
    · rw [if_pos hp] at h
      simp only [hp, Bool.true_or, if_true, h]; exact ⟨s2, rfl⟩
    · rw [if_neg hp] at h
      have := forL_find xs (fun k => p (k + 1)) (I := fun k => I (k + 1)) h.2 fun k y s hy hi => hs (k + 1) y s (by simpa using hy) hi
      simp only [hp, Bool.false_or, List.length_cons]
      rcases h.1 with e2 | e2 <;> simp only [e2] <;> exact this
theorem forV_inv {st : SA → Fl} {g : MG} {i : Nat} {ds : List D} (hg : g.slots.contains i = false) (hst : stills ds = true) : ∀ (n k : Nat) {I : Nat → SA → Prop} {s : SA}, I k s → k ≤ ds.length → ds.length - k < n →
    (∀ k s, I k s → ∃ m, rd s i = some (.lst m ds)) →
    (∀ k x s, ds[k]? = some x → I k s → ∃ s1 s2, asgG g x s = some s1 ∧ (st s1 = .nx s2 ∨ st s1 = .ct s2) ∧ I (k + 1) s2) →
    ∃ s', forV st g i n k s = .nx s' ∧ I ds.length s'
  | 0, k, I, s, h0, hk, hn, hrd, hs => absurd hn (by omega)
  | n + 1, k, I, s, h0, hk, hn, hrd, hs => by
    obtain ⟨m, er⟩ := hrd k s h0
    rw [forV, er]
    by_cases hk' : k < ds.length
    · have ex : ds[k]? = some ds[k] := List.getElem?_eq_getElem hk'
      have hx : still ds[k] = true := by
        clear hrd hs h0 er ex
        have : ∀ (ds : List D) (k : Nat) (h : k < ds.length), stills ds = true → still ds[k] = true := by
          intro ds
          induction ds with
          | nil => intro k h; exact absurd h (by simp)
          | cons d ds ih =>
            intro k h hh
            simp only [stills, Bool.and_eq_true] at hh
            cases k with
            | zero => exact hh.1
            | succ k => exact ih k (by simpa using h) hh.2
        exact this ds k hk' hst
      obtain ⟨s1, s2, e1, e2, h2⟩ := hs k _ s ex h0
      have := forV_inv hg hst n (k + 1) h2 (by omega) (by omega) hrd hs
      simp only [ex, hx, hg, Bool.not_false, Bool.and_self, if_true, e1]
      rcases e2 with e2 | e2 <;> simp only [e2] <;> exact this
    · have : k = ds.length := by omega
      subst this
      simp only [List.getElem?_eq_none (Nat.le_refl _)]
      exact ⟨s, rfl, h0⟩
theorem whileL_inv {c : SA → Er Bool} {st : SA → Fl} {I : Nat → SA → Prop} {Q : SA → Prop}
    (hs : ∀ k s, I k s → (∃ s1, c s = .ok false s1 ∧ Q s1) ∨ (∃ s1 s2 k', c s = .ok true s1 ∧ ((st s1 = .nx s2 ∨ st s1 = .ct s2) ∧ I k' s2 ∧ k' < k))) :
    ∀ (n k : Nat) {s : SA}, I k s → k < n → ∃ s', whileL c st n s = .nx s' ∧ Q s'
  | 0, k, s, _, hk => absurd hk (by omega)
  | n + 1, k, s, hi, hk => by
    rcases hs k s hi with ⟨s1, e, q⟩ | ⟨s1, s2, k', e, e2, hi', hk'⟩
    · rw [whileL, e]; exact ⟨s1, rfl, q⟩
    · obtain ⟨s', e', q⟩ := whileL_inv hs n k' hi' (by omega)
      rw [whileL, e]
      rcases e2 with e2 | e2 <;> simp only [e2] <;> exact ⟨s', e', q⟩
theorem compL_map {α : Type} {f : SA → Er Bool} {g : SA → Er D} {own : Nat} {s : SA} (hs : s.set own none = s) (e : α → D) (p : α → Bool) (h : α → D) : ∀ (l : List α),
    (∀ x, x ∈ l → f (s.set own (some (e x))) = .ok (p x) (s.set own (some (e x))) ∧ (p x = true → g (s.set own (some (e x))) = .ok (h x) (s.set own (some (e x))))) →
    compL f g own (l.map e) s = .ok ((l.filter p).map h) s
  | [], _ => rfl
  | x :: xs, hx => by
    obtain ⟨h1, h2⟩ := hx x (by simp)
    have ih := compL_map hs e p h xs fun y hy => hx y (by simp [hy])
    have e' : (s.set own (some (e x))).set own none = s := by rw [List.set_set, hs]
    rw [List.map_cons, compL, h1]
    simp only [Er.bind]
    by_cases hp : p x = true
    · simp [hp, h2 hp, e', ih, List.filter_cons]
    · simp [hp, e', ih, List.filter_cons]
theorem compV_map {α : Type} {W : Nat} {f : SA → Er Bool} {g : SA → Er D} {own i : Nat} {s : SA} (hs : s.set own none = s) (hoi : own ≠ i) (e : α → D) (he : ∀ x, still (e x) = true) (p : α → Bool) (h : α → D) (l : List α) {m : Bool}
    (hl : rd s i = some (.lst m (l.map e))) (hz : l.length ≤ sizeLine) : ∀ (n k : Nat), k ≤ l.length → l.length - k < n →
    (∀ x, x ∈ l → f (s.set own (some (e x))) = .ok (p x) (s.set own (some (e x))) ∧ (p x = true → g (s.set own (some (e x))) = .ok (h x) (s.set own (some (e x))))) →
    compV W f g own i n k s = .ok (((l.drop k).filter p).map h) s
  | 0, k, hk, hn, _ => absurd hn (by omega)
  | n + 1, k, hk, hn, hx => by
    rw [compV, hl]
    by_cases hk' : k < l.length
    · obtain ⟨h1, h2⟩ := hx l[k] (List.getElem_mem hk')
      have ih := compV_map (W := W) hs hoi e he p h l hl hz n (k + 1) (by omega) (by omega) hx
      have e' : (s.set own (some (e l[k]))).set own none = s := by rw [List.set_set, hs]
      have hd : l.drop k = l[k] :: l.drop (k + 1) := List.drop_eq_getElem_cons hk'
      have hoi' : (own == i) = false := by simp [hoi]
      have hz' : decide (l.length ≤ sizeLine) = true := decide_eq_true hz
      simp only [List.getElem?_map, List.getElem?_eq_getElem hk', Option.map_some, he, hoi', List.length_map, hz', Bool.not_false, Bool.and_self, if_true]
      rw [h1]; simp only [Er.bind]
      rw [hd]
      cases hp : p l[k]
      · rw [List.filter_cons_of_neg (by rw [hp]; decide)]
        simp only [e', ih, Bool.false_eq_true, if_false]
      · rw [List.filter_cons_of_pos hp]
        simp only [h2 hp, e', ih, if_true, List.map_cons]
    · have : k = l.length := by omega
      subst this
      simp only [List.getElem?_map, List.getElem?_eq_none (Nat.le_refl _), Option.map_none, List.drop_length, List.filter_nil, List.map_nil]
@[local simp] theorem sizeLine_eq : sizeLine = 16777216 := rfl
@[local simp] theorem q_ex_1 : type_of% @ex.eq_1 := @ex.eq_1
@[local simp] theorem q_ex_2 : type_of% @ex.eq_2 := @ex.eq_2
@[local simp] theorem q_ex_3 : type_of% @ex.eq_3 := @ex.eq_3
@[local simp] theorem q_ex_4 : type_of% @ex.eq_4 := @ex.eq_4
@[local simp] theorem q_ex_5 : type_of% @ex.eq_5 := @ex.eq_5
@[local simp] theorem q_ex_6 : type_of% @ex.eq_6 := @ex.eq_6
@[local simp] theorem q_ex_7 : type_of% @ex.eq_7 := @ex.eq_7
@[local simp] theorem q_ex_8 : type_of% @ex.eq_8 := @ex.eq_8
@[local simp] theorem q_ex_9 : type_of% @ex.eq_9 := @ex.eq_9
@[local simp] theorem q_ex_10 : type_of% @ex.eq_10 := @ex.eq_10
@[local simp] theorem q_ex_11 : type_of% @ex.eq_11 := @ex.eq_11
@[local simp] theorem q_ex_12 : type_of% @ex.eq_12 := @ex.eq_12
@[local simp] theorem q_ex_13 : type_of% @ex.eq_13 := @ex.eq_13
@[local simp] theorem q_ex_14 : type_of% @ex.eq_14 := @ex.eq_14
@[local simp] theorem q_ex_15 : type_of% @ex.eq_15 := @ex.eq_15
@[local simp] theorem q_ex_16 : type_of% @ex.eq_16 := @ex.eq_16
@[local simp] theorem q_ex_17 : type_of% @ex.eq_17 := @ex.eq_17
@[local simp] theorem q_ex_18 : type_of% @ex.eq_18 := @ex.eq_18
@[local simp] theorem q_ex_19 : type_of% @ex.eq_19 := @ex.eq_19
@[local simp] theorem q_ex_20 : type_of% @ex.eq_20 := @ex.eq_20
@[local simp] theorem q_ex_21 : type_of% @ex.eq_21 := @ex.eq_21
@[local simp] theorem q_ex_22 : type_of% @ex.eq_22 := @ex.eq_22
@[local simp] theorem q_ex_23 : type_of% @ex.eq_23 := @ex.eq_23
@[local simp] theorem q_ex_24 : type_of% @ex.eq_24 := @ex.eq_24
@[local simp] theorem q_ev_1 : type_of% @ev.eq_1 := @ev.eq_1
@[local simp] theorem q_ev_2 : type_of% @ev.eq_2 := @ev.eq_2
@[local simp] theorem q_ev_3 : type_of% @ev.eq_3 := @ev.eq_3
@[local simp] theorem q_ev_4 : type_of% @ev.eq_4 := @ev.eq_4
@[local simp] theorem q_ev_5 : type_of% @ev.eq_5 := @ev.eq_5
@[local simp] theorem q_ev_6 : type_of% @ev.eq_6 := @ev.eq_6
@[local simp] theorem q_ev_7 : type_of% @ev.eq_7 := @ev.eq_7
@[local simp] theorem q_ev_8 : type_of% @ev.eq_8 := @ev.eq_8
@[local simp] theorem q_ev_9 : type_of% @ev.eq_9 := @ev.eq_9
@[local simp] theorem q_ev_10 : type_of% @ev.eq_10 := @ev.eq_10
@[local simp] theorem q_ev_11 : type_of% @ev.eq_11 := @ev.eq_11
@[local simp] theorem q_ev_12 : type_of% @ev.eq_12 := @ev.eq_12
@[local simp] theorem q_ev_13 : type_of% @ev.eq_13 := @ev.eq_13
@[local simp] theorem q_ev_14 : type_of% @ev.eq_14 := @ev.eq_14
@[local simp] theorem q_ev_15 : type_of% @ev.eq_15 := @ev.eq_15
@[local simp] theorem q_ev_16 : type_of% @ev.eq_16 := @ev.eq_16
@[local simp] theorem q_ev_17 : type_of% @ev.eq_17 := @ev.eq_17
@[local simp] theorem q_ev_18 : type_of% @ev.eq_18 := @ev.eq_18
@[local simp] theorem q_ev_19 : type_of% @ev.eq_19 := @ev.eq_19
@[local simp] theorem q_ev_20 : type_of% @ev.eq_20 := @ev.eq_20
@[local simp] theorem q_ev_21 : type_of% @ev.eq_21 := @ev.eq_21
@[local simp] theorem q_ev_22 : type_of% @ev.eq_22 := @ev.eq_22
@[local simp] theorem q_ev_23 : type_of% @ev.eq_23 := @ev.eq_23
@[local simp] theorem q_ev_24 : type_of% @ev.eq_24 := @ev.eq_24
@[local simp] theorem q_ev_25 : type_of% @ev.eq_25 := @ev.eq_25
@[local simp] theorem q_ev_26 : type_of% @ev.eq_26 := @ev.eq_26
@[local simp] theorem q_ev_27 : type_of% @ev.eq_27 := @ev.eq_27
@[local simp] theorem q_ev_28 : type_of% @ev.eq_28 := @ev.eq_28
@[local simp] theorem q_ev_29 : type_of% @ev.eq_29 := @ev.eq_29
@[local simp] theorem q_ev_30 : type_of% @ev.eq_30 := @ev.eq_30
@[local simp] theorem q_ev_31 : type_of% @ev.eq_31 := @ev.eq_31
@[local simp] theorem q_ev_32 : type_of% @ev.eq_32 := @ev.eq_32
@[local simp] theorem q_ev_33 : type_of% @ev.eq_33 := @ev.eq_33
@[local simp] theorem q_ev_34 : type_of% @ev.eq_34 := @ev.eq_34
@[local simp] theorem q_ev_35 : type_of% @ev.eq_35 := @ev.eq_35
@[local simp] theorem q_evI_1 : type_of% @evI.eq_1 := @evI.eq_1
@[local simp] theorem q_evI_2 : type_of% @evI.eq_2 := @evI.eq_2
@[local simp] theorem q_evI_3 : type_of% @evI.eq_3 := @evI.eq_3
@[local simp] theorem q_evI_4 : type_of% @evI.eq_4 := @evI.eq_4
@[local simp] theorem q_evT_1 : type_of% @evT.eq_1 := @evT.eq_1
@[local simp] theorem q_evT_2 : type_of% @evT.eq_2 := @evT.eq_2
@[local simp] theorem q_evT_3 : type_of% @evT.eq_3 := @evT.eq_3
@[local simp] theorem q_evT_4 : type_of% @evT.eq_4 := @evT.eq_4
@[local simp] theorem q_evT_5 : type_of% @evT.eq_5 := @evT.eq_5
@[local simp] theorem q_evT_6 : type_of% @evT.eq_6 := @evT.eq_6
@[local simp] theorem q_evT_7 : type_of% @evT.eq_7 := @evT.eq_7
@[local simp] theorem q_evT_8 : type_of% @evT.eq_8 := @evT.eq_8
@[local simp] theorem q_evTo_1 : type_of% @evTo.eq_1 := @evTo.eq_1
@[local simp] theorem q_evTo_2 : type_of% @evTo.eq_2 := @evTo.eq_2
@[local simp] theorem q_evs_1 : type_of% @evs.eq_1 := @evs.eq_1
@[local simp] theorem q_evs_2 : type_of% @evs.eq_2 := @evs.eq_2
@[local simp] theorem q_evA_1 : type_of% @evA.eq_1 := @evA.eq_1
@[local simp] theorem q_evA_2 : type_of% @evA.eq_2 := @evA.eq_2
@[local simp] theorem q_evA_3 : type_of% @evA.eq_3 := @evA.eq_3
@[local simp] theorem q_evAs_1 : type_of% @evAs.eq_1 := @evAs.eq_1
@[local simp] theorem q_evAs_2 : type_of% @evAs.eq_2 := @evAs.eq_2
@[local simp] theorem q_evO_1 : type_of% @evO.eq_1 := @evO.eq_1
@[local simp] theorem q_evO_2 : type_of% @evO.eq_2 := @evO.eq_2
@[local simp] theorem q_evP_1 : type_of% @evP.eq_1 := @evP.eq_1
@[local simp] theorem q_evP_2 : type_of% @evP.eq_2 := @evP.eq_2
@[local simp] theorem q_evP_3 : type_of% @evP.eq_3 := @evP.eq_3
@[local simp] theorem q_evP_4 : type_of% @evP.eq_4 := @evP.eq_4
@[local simp] theorem q_stay_1 : type_of% @stay.eq_1 := @stay.eq_1
@[local simp] theorem q_tmpz_1 : type_of% @tmpz.eq_1 := @tmpz.eq_1
@[local simp] theorem q_rootOf_1 : type_of% @rootOf.eq_1 := @rootOf.eq_1
@[local simp] theorem q_rootOf_2 : type_of% @rootOf.eq_2 := @rootOf.eq_2
@[local simp] theorem q_rootOf_3 : type_of% @rootOf.eq_3 := @rootOf.eq_3
@[local simp] theorem q_rootOf_4 : type_of% @rootOf.eq_4 := @rootOf.eq_4
@[local simp] theorem q_slotOf_1 : type_of% @slotOf.eq_1 := @slotOf.eq_1
@[local simp] theorem q_slotOf_2 : type_of% @slotOf.eq_2 := @slotOf.eq_2
@[local simp] theorem q_pureE_1 : type_of% @pureE.eq_1 := @pureE.eq_1
@[local simp] theorem q_pureE_2 : type_of% @pureE.eq_2 := @pureE.eq_2
@[local simp] theorem q_pureE_3 : type_of% @pureE.eq_3 := @pureE.eq_3
@[local simp] theorem q_pureE_4 : type_of% @pureE.eq_4 := @pureE.eq_4
@[local simp] theorem q_pureE_5 : type_of% @pureE.eq_5 := @pureE.eq_5
@[local simp] theorem q_pureE_6 : type_of% @pureE.eq_6 := @pureE.eq_6
@[local simp] theorem q_pureE_7 : type_of% @pureE.eq_7 := @pureE.eq_7
@[local simp] theorem q_pureE_8 : type_of% @pureE.eq_8 := @pureE.eq_8
@[local simp] theorem q_pureE_9 : type_of% @pureE.eq_9 := @pureE.eq_9
@[local simp] theorem q_pureE_10 : type_of% @pureE.eq_10 := @pureE.eq_10
@[local simp] theorem q_pureE_11 : type_of% @pureE.eq_11 := @pureE.eq_11
@[local simp] theorem q_pureE_12 : type_of% @pureE.eq_12 := @pureE.eq_12
@[local simp] theorem q_pureE_13 : type_of% @pureE.eq_13 := @pureE.eq_13
@[local simp] theorem q_pureE_14 : type_of% @pureE.eq_14 := @pureE.eq_14
@[local simp] theorem q_pureE_15 : type_of% @pureE.eq_15 := @pureE.eq_15
@[local simp] theorem q_pureE_16 : type_of% @pureE.eq_16 := @pureE.eq_16
@[local simp] theorem q_pureE_17 : type_of% @pureE.eq_17 := @pureE.eq_17
@[local simp] theorem q_pureE_18 : type_of% @pureE.eq_18 := @pureE.eq_18
@[local simp] theorem q_pureE_19 : type_of% @pureE.eq_19 := @pureE.eq_19
@[local simp] theorem q_pureE_20 : type_of% @pureE.eq_20 := @pureE.eq_20
@[local simp] theorem q_pureE_21 : type_of% @pureE.eq_21 := @pureE.eq_21
@[local simp] theorem q_pureE_22 : type_of% @pureE.eq_22 := @pureE.eq_22
@[local simp] theorem q_pureE_23 : type_of% @pureE.eq_23 := @pureE.eq_23
@[local simp] theorem q_pureE_24 : type_of% @pureE.eq_24 := @pureE.eq_24
@[local simp] theorem q_pureE_25 : type_of% @pureE.eq_25 := @pureE.eq_25
@[local simp] theorem q_pureE_26 : type_of% @pureE.eq_26 := @pureE.eq_26
@[local simp] theorem q_pureE_27 : type_of% @pureE.eq_27 := @pureE.eq_27
@[local simp] theorem q_pureE_28 : type_of% @pureE.eq_28 := @pureE.eq_28
@[local simp] theorem q_pureE_29 : type_of% @pureE.eq_29 := @pureE.eq_29
@[local simp] theorem q_pureO_1 : type_of% @pureO.eq_1 := @pureO.eq_1
@[local simp] theorem q_pureO_2 : type_of% @pureO.eq_2 := @pureO.eq_2
@[local simp] theorem q_pureEs_1 : type_of% @pureEs.eq_1 := @pureEs.eq_1
@[local simp] theorem q_pureEs_2 : type_of% @pureEs.eq_2 := @pureEs.eq_2
@[local simp] theorem q_pureA_1 : type_of% @pureA.eq_1 := @pureA.eq_1
@[local simp] theorem q_pureA_2 : type_of% @pureA.eq_2 := @pureA.eq_2
@[local simp] theorem q_pureA_3 : type_of% @pureA.eq_3 := @pureA.eq_3
@[local simp] theorem q_pureAs_1 : type_of% @pureAs.eq_1 := @pureAs.eq_1
@[local simp] theorem q_pureAs_2 : type_of% @pureAs.eq_2 := @pureAs.eq_2
@[local simp] theorem q_pureI_1 : type_of% @pureI.eq_1 := @pureI.eq_1
@[local simp] theorem q_pureI_2 : type_of% @pureI.eq_2 := @pureI.eq_2
@[local simp] theorem q_pureI_3 : type_of% @pureI.eq_3 := @pureI.eq_3
@[local simp] theorem q_pureI_4 : type_of% @pureI.eq_4 := @pureI.eq_4
@[local simp] theorem q_pureT_1 : type_of% @pureT.eq_1 := @pureT.eq_1
@[local simp] theorem q_pureT_2 : type_of% @pureT.eq_2 := @pureT.eq_2
@[local simp] theorem q_pureT_3 : type_of% @pureT.eq_3 := @pureT.eq_3
@[local simp] theorem q_pureT_4 : type_of% @pureT.eq_4 := @pureT.eq_4
@[local simp] theorem q_pureT_5 : type_of% @pureT.eq_5 := @pureT.eq_5
@[local simp] theorem q_pureT_6 : type_of% @pureT.eq_6 := @pureT.eq_6
@[local simp] theorem q_pureT_7 : type_of% @pureT.eq_7 := @pureT.eq_7
@[local simp] theorem q_pureT_8 : type_of% @pureT.eq_8 := @pureT.eq_8
@[local simp] theorem q_pureTo_1 : type_of% @pureTo.eq_1 := @pureTo.eq_1
@[local simp] theorem q_pureTo_2 : type_of% @pureTo.eq_2 := @pureTo.eq_2
@[local simp] theorem q_line_1 : type_of% @line.eq_1 := @line.eq_1
@[local simp] theorem q_rcv_1 : type_of% @rcv.eq_1 := @rcv.eq_1
@[local simp] theorem q_rcv_2 : type_of% @rcv.eq_2 := @rcv.eq_2
@[local simp] theorem q_rcv_3 : type_of% @rcv.eq_3 := @rcv.eq_3
@[local simp] theorem q_rcv_4 : type_of% @rcv.eq_4 := @rcv.eq_4
@[local simp] theorem q_rcv_5 : type_of% @rcv.eq_5 := @rcv.eq_5
@[local simp] theorem q_isTy_1 : type_of% @isTy.eq_1 := @isTy.eq_1
@[local simp] theorem q_isTy_2 : type_of% @isTy.eq_2 := @isTy.eq_2
@[local simp] theorem q_isTy_3 : type_of% @isTy.eq_3 := @isTy.eq_3
@[local simp] theorem q_isTy_4 : type_of% @isTy.eq_4 := @isTy.eq_4
@[local simp] theorem q_isTy_5 : type_of% @isTy.eq_5 := @isTy.eq_5
@[local simp] theorem q_isTy_6 : type_of% @isTy.eq_6 := @isTy.eq_6
@[local simp] theorem q_isTy_7 : type_of% @isTy.eq_7 := @isTy.eq_7
@[local simp] theorem q_isNon_1 : type_of% @isNon.eq_1 := @isNon.eq_1
@[local simp] theorem q_isNon_2 : type_of% @isNon.eq_2 := @isNon.eq_2
@[local simp] theorem q_avD_1 : type_of% @avD.eq_1 := @avD.eq_1
@[local simp] theorem q_avD_2 : type_of% @avD.eq_2 := @avD.eq_2
@[local simp] theorem q_avD_3 : type_of% @avD.eq_3 := @avD.eq_3
@[local simp] theorem q_avDs_1 : type_of% @avDs.eq_1 := @avDs.eq_1
@[local simp] theorem q_avDs_2 : type_of% @avDs.eq_2 := @avDs.eq_2
@[local simp] theorem q_mvs_1 : type_of% @mvs.eq_1 := @mvs.eq_1
@[local simp] theorem q_mvs_2 : type_of% @mvs.eq_2 := @mvs.eq_2
@[local simp] theorem q_mvs_3 : type_of% @mvs.eq_3 := @mvs.eq_3
@[local simp] theorem q_bors_1 : type_of% @bors.eq_1 := @bors.eq_1
@[local simp] theorem q_bors_2 : type_of% @bors.eq_2 := @bors.eq_2
@[local simp] theorem q_bors_3 : type_of% @bors.eq_3 := @bors.eq_3
@[local simp] theorem q_nodupB_1 : type_of% @nodupB.eq_1 := @nodupB.eq_1
@[local simp] theorem q_nodupB_2 : type_of% @nodupB.eq_2 := @nodupB.eq_2
@[local simp] theorem q_setMs_1 : type_of% @setMs.eq_1 := @setMs.eq_1
@[local simp] theorem q_setMs_2 : type_of% @setMs.eq_2 := @setMs.eq_2
@[local simp] theorem q_setMs_3 : type_of% @setMs.eq_3 := @setMs.eq_3
@[local simp] theorem q_okAV_1 : type_of% @okAV.eq_1 := @okAV.eq_1
@[local simp] theorem q_lent_1 : type_of% @lent.eq_1 := @lent.eq_1
@[local simp] theorem q_called_1 : type_of% @called.eq_1 := @called.eq_1
@[local simp] theorem q_made_1 : type_of% @made.eq_1 := @made.eq_1
@[local simp] theorem q_setN_1 : type_of% @setN.eq_1 := @setN.eq_1
@[local simp] theorem q_setN_2 : type_of% @setN.eq_2 := @setN.eq_2
@[local simp] theorem q_setN_3 : type_of% @setN.eq_3 := @setN.eq_3
@[local simp] theorem q_MG_slots_1 : type_of% @MG.slots.eq_1 := @MG.slots.eq_1
@[local simp] theorem q_MG_slots_2 : type_of% @MG.slots.eq_2 := @MG.slots.eq_2
@[local simp] theorem q_MG_slots_3 : type_of% @MG.slots.eq_3 := @MG.slots.eq_3
@[local simp] theorem q_MG_slots_4 : type_of% @MG.slots.eq_4 := @MG.slots.eq_4
@[local simp] theorem q_updD_1 : type_of% @updD.eq_1 := @updD.eq_1
@[local simp] theorem q_updD_2 : type_of% @updD.eq_2 := @updD.eq_2
@[local simp] theorem q_updD_3 : type_of% @updD.eq_3 := @updD.eq_3
@[local simp] theorem q_updD_4 : type_of% @updD.eq_4 := @updD.eq_4
@[local simp] theorem q_getP_1 : type_of% @getP.eq_1 := @getP.eq_1
@[local simp] theorem q_getP_2 : type_of% @getP.eq_2 := @getP.eq_2
@[local simp] theorem q_getP_3 : type_of% @getP.eq_3 := @getP.eq_3
@[local simp] theorem q_getP_4 : type_of% @getP.eq_4 := @getP.eq_4
@[local simp] theorem q_getD1_1 : type_of% @getD1.eq_1 := @getD1.eq_1
@[local simp] theorem q_getD1_2 : type_of% @getD1.eq_2 := @getD1.eq_2
@[local simp] theorem q_getD1_3 : type_of% @getD1.eq_3 := @getD1.eq_3
@[local simp] theorem q_mvals_1 : type_of% @mvals.eq_1 := @mvals.eq_1
@[local simp] theorem q_mvals_2 : type_of% @mvals.eq_2 := @mvals.eq_2
@[local simp] theorem q_flat_1 : type_of% @flat.eq_1 := @flat.eq_1
@[local simp] theorem q_flat_2 : type_of% @flat.eq_2 := @flat.eq_2
@[local simp] theorem q_flat_3 : type_of% @flat.eq_3 := @flat.eq_3
@[local simp] theorem q_flat_4 : type_of% @flat.eq_4 := @flat.eq_4
@[local simp] theorem q_flat_5 : type_of% @flat.eq_5 := @flat.eq_5
@[local simp] theorem q_frz_1 : type_of% @frz.eq_1 := @frz.eq_1
@[local simp] theorem q_frz_2 : type_of% @frz.eq_2 := @frz.eq_2
@[local simp] theorem q_frz_3 : type_of% @frz.eq_3 := @frz.eq_3
@[local simp] theorem q_frz_4 : type_of% @frz.eq_4 := @frz.eq_4
@[local simp] theorem q_frz_5 : type_of% @frz.eq_5 := @frz.eq_5
@[local simp] theorem q_frz_6 : type_of% @frz.eq_6 := @frz.eq_6
@[local simp] theorem q_frz_7 : type_of% @frz.eq_7 := @frz.eq_7
@[local simp] theorem q_frz_8 : type_of% @frz.eq_8 := @frz.eq_8
@[local simp] theorem q_frz_9 : type_of% @frz.eq_9 := @frz.eq_9
@[local simp] theorem q_frzs_1 : type_of% @frzs.eq_1 := @frzs.eq_1
@[local simp] theorem q_frzs_2 : type_of% @frzs.eq_2 := @frzs.eq_2
@[local simp] theorem q_still_1 : type_of% @still.eq_1 := @still.eq_1
@[local simp] theorem q_still_2 : type_of% @still.eq_2 := @still.eq_2
@[local simp] theorem q_still_3 : type_of% @still.eq_3 := @still.eq_3
@[local simp] theorem q_still_4 : type_of% @still.eq_4 := @still.eq_4
@[local simp] theorem q_stills_1 : type_of% @stills.eq_1 := @stills.eq_1
@[local simp] theorem q_stills_2 : type_of% @stills.eq_2 := @stills.eq_2
@[local simp] theorem q_noL_1 : type_of% @noL.eq_1 := @noL.eq_1
@[local simp] theorem q_noL_2 : type_of% @noL.eq_2 := @noL.eq_2
@[local simp] theorem q_noL_3 : type_of% @noL.eq_3 := @noL.eq_3
@[local simp] theorem q_noL_4 : type_of% @noL.eq_4 := @noL.eq_4
@[local simp] theorem q_noL_5 : type_of% @noL.eq_5 := @noL.eq_5
@[local simp] theorem q_noL_6 : type_of% @noL.eq_6 := @noL.eq_6
@[local simp] theorem q_noLs_1 : type_of% @noLs.eq_1 := @noLs.eq_1
@[local simp] theorem q_noLs_2 : type_of% @noLs.eq_2 := @noLs.eq_2
@[local simp] theorem q_rd_1 : type_of% @rd.eq_1 := @rd.eq_1
@[local simp] theorem q_toPD_1 : type_of% @toPD.eq_1 := @toPD.eq_1
@[local simp] theorem q_toPD_2 : type_of% @toPD.eq_2 := @toPD.eq_2
@[local simp] theorem q_toPD_3 : type_of% @toPD.eq_3 := @toPD.eq_3
@[local simp] theorem q_toPD_4 : type_of% @toPD.eq_4 := @toPD.eq_4
@[local simp] theorem q_toPD_5 : type_of% @toPD.eq_5 := @toPD.eq_5
@[local simp] theorem q_toPD_6 : type_of% @toPD.eq_6 := @toPD.eq_6
@[local simp] theorem q_toPD_7 : type_of% @toPD.eq_7 := @toPD.eq_7
@[local simp] theorem q_toPD_8 : type_of% @toPD.eq_8 := @toPD.eq_8
@[local simp] theorem q_toPD_9 : type_of% @toPD.eq_9 := @toPD.eq_9
@[local simp] theorem q_toPDs_1 : type_of% @toPDs.eq_1 := @toPDs.eq_1
@[local simp] theorem q_toPDs_2 : type_of% @toPDs.eq_2 := @toPDs.eq_2
@[local simp] theorem q_intsOf_1 : type_of% @intsOf.eq_1 := @intsOf.eq_1
@[local simp] theorem q_intsOf_2 : type_of% @intsOf.eq_2 := @intsOf.eq_2
@[local simp] theorem q_intsOf_3 : type_of% @intsOf.eq_3 := @intsOf.eq_3
@[local simp] theorem q_lstP_1 : type_of% @lstP.eq_1 := @lstP.eq_1
@[local simp] theorem q_methOf_1 : type_of% @methOf.eq_1 := @methOf.eq_1
@[local simp] theorem q_methOf_2 : type_of% @methOf.eq_2 := @methOf.eq_2
/-- what comes next, where simp does not look -/
class Kf (γ : Type) where
  k : γ
def sq (r : Fl) [k : Kf (SA → Fl)] : Fl := match r with
  | .nx s => k.k s
  | r => r
@[local simp] theorem sq_nx {s : SA} {k : SA → Fl} : @sq (.nx s) ⟨k⟩ = k s := rfl
@[local simp] theorem sq_ct {s : SA} {k : SA → Fl} : @sq (.ct s) ⟨k⟩ = .ct s := rfl
@[local simp] theorem sq_bk {s : SA} {k : SA → Fl} : @sq (.bk s) ⟨k⟩ = .bk s := rfl
@[local simp] theorem sq_rt {s : SA} {d : D} {k : SA → Fl} : @sq (.rt d s) ⟨k⟩ = .rt d s := rfl
@[local simp] theorem sq_rz {s : SA} {c : Nat} {k : SA → Fl} : @sq (.rz c s) ⟨k⟩ = .rz c s := rfl
@[local simp] theorem sq_bad {k : SA → Fl} : @sq .bad ⟨k⟩ = .bad := rfl
@[local simp] theorem exs_nil {s : SA} {G : Env0A} {W : Nat} {fix : List Nat} : exs G W fix .nil s = .nx s := by rw [exs]
@[local simp] theorem exs_cons {s : SA} {G : Env0A} {W : Nat} {fix : List Nat} {t : MS} {ts : MSs} : exs G W fix (.cons t ts) s = @sq (ex G W fix t s) ⟨fun s1 => exs G W fix ts s1⟩ := by rw [exs]; cases ex G W fix t s <;> rfl
def bI {α : Type} {β : Type} (x : Er α) [k : Kf (α → SA → Er β)] : Er β := x.bind k.k
@[local simp ↓] theorem bI_in {α : Type} {β : Type} {x : Er α} {f : α → SA → Er β} : x.bind f = @bI α β x ⟨f⟩ := rfl
@[local simp] theorem bind_ok {α : Type} {β : Type} {a : α} {s : SA} {f : α → SA → Er β} : @bI α β (Er.ok a s) ⟨f⟩ = f a s := rfl
@[local simp] theorem bind_rz {α : Type} {β : Type} {s : SA} {c : Nat} {f : α → SA → Er β} : @bI α β (Er.rz c s) ⟨f⟩ = .rz c s := rfl
@[local simp] theorem bind_bad {α : Type} {β : Type} {f : α → SA → Er β} : @bI α β Er.bad ⟨f⟩ = .bad := rfl
def fI {α : Type} (x : Er α) [k : Kf (α → SA → Fl)] : Fl := x.fl k.k
@[local simp ↓] theorem fI_in {α : Type} {x : Er α} {f : α → SA → Fl} : x.fl f = @fI α x ⟨f⟩ := rfl
@[local simp] theorem fl_ok {α : Type} {a : α} {s : SA} {f : α → SA → Fl} : @fI α (Er.ok a s) ⟨f⟩ = f a s := rfl
@[local simp] theorem fl_rz {α : Type} {s : SA} {c : Nat} {f : α → SA → Fl} : @fI α (Er.rz c s) ⟨f⟩ = .rz c s := rfl
@[local simp] theorem fl_bad {α : Type} {f : α → SA → Fl} : @fI α Er.bad ⟨f⟩ = .bad := rfl
def oI {α : Type} {β : Type} (x : Option α) [k : Kf (α → Option β)] : Option β := x.bind k.k
@[local simp ↓] theorem oI_in {α : Type} {β : Type} {x : Option α} {f : α → Option β} : x.bind f = @oI α β x ⟨f⟩ := rfl
@[local simp] theorem oI_some {α : Type} {β : Type} {a : α} {f : α → Option β} : @oI α β (some a) ⟨f⟩ = f a := rfl
@[local simp] theorem oI_none {α : Type} {β : Type} {f : α → Option β} : @oI α β none ⟨f⟩ = none := rfl
@[local simp] theorem of_some {α : Type} {a : α} {s : SA} : Er.of (some a) s = .ok a s := rfl
@[local simp] theorem of_none {α : Type} {s : SA} : Er.of (none : Option α) s = .bad := rfl
@[local simp] theorem noRz_okS {α : Type} {a : α} {s : SA} : (Er.ok a s).noRz = .ok a s := rfl
@[local simp] theorem flof_some {s : SA} : Fl.of (some s) = .nx s := rfl
@[local simp] theorem flof_none : Fl.of none = .bad := rfl
@[local simp] theorem own_true {s : SA} {d : D} {r : Option Nat} : own true r d s = .ok d s := rfl
theorem own_still {s : SA} {d : D} {v : Bool} {r : Option Nat} (h : still d = true) : own v r d s = .ok d s := by simp [own, h]
@[local simp] theorem own_int {s : SA} {i : Int} {v : Bool} {r : Option Nat} : own v r (.int i) s = .ok (.int i) s := own_still rfl
@[local simp] theorem own_bl {s : SA} {v : Bool} {r : Option Nat} {b : Bool} : own v r (.bl b) s = .ok (.bl b) s := own_still rfl
@[local simp] theorem own_non {s : SA} {v : Bool} {r : Option Nat} : own v r .non s = .ok .non s := own_still rfl
@[local simp] theorem own_str {s : SA} {v : Bool} {r : Option Nat} {x : Str} : own v r (.str x) s = .ok (.str x) s := own_still rfl
@[local simp] theorem own_scr {s : SA} {v : Bool} {r : Option Nat} {x : List Int} : own v r (.scr x) s = .ok (.scr x) s := own_still rfl
@[local simp] theorem own_tup {s : SA} {ds : List D} {v : Bool} {r : Option Nat} : own v r (.tup ds) s = .ok (.tup ds) s := own_still rfl
@[local simp] theorem own_lf {s : SA} {ds : List D} {v : Bool} {r : Option Nat} (h : stills ds = true) : own v r (.lst false ds) s = .ok (.lst false ds) s := own_still (by simp [still, h])
@[local simp] theorem own_if {s : SA} {ds : List D} {v : Bool} {r : Option Nat} {c : Nat} (h : stills ds = true) : own v r (.ins false c ds) s = .ok (.ins false c ds) s := own_still (by simp [still, h])
@[local simp] theorem own_lt {s : SA} {ds : List D} {k : Nat} (h : rd s k = some (.lst true ds)) : own false (some k) (.lst true ds) s = .ok (.lst false (frzs ds)) (s.set k (some (.lst false (frzs ds)))) := by simp only [own, still, Bool.not_true, Bool.false_and, Bool.or_self, Bool.false_eq_true, if_false, h, frz]
@[local simp] theorem own_it {s : SA} {ds : List D} {k c : Nat} (h : rd s k = some (.ins true c ds)) : own false (some k) (.ins true c ds) s = .ok (.ins false c (frzs ds)) (s.set k (some (.ins false c (frzs ds)))) := by simp only [own, still, Bool.not_true, Bool.false_and, Bool.or_self, Bool.false_eq_true, if_false, h, frz]
@[local simp] theorem asgG_name {s : SA} {d : D} {k : Nat} : asgG (.name k) d s = some (s.set k (some d)) := rfl
@[local simp] theorem asgG_pair {s : SA} {ds : List D} {k l : Nat} : asgG (.pair k l) (.tup ds) s = setN s [k, l] ds := rfl
@[local simp] theorem asgG_trip {s : SA} {ds : List D} {k l n : Nat} : asgG (.trip k l n) (.tup ds) s = setN s [k, l, n] ds := rfl
@[local simp] theorem asgG_quad {s : SA} {ds : List D} {k l n o : Nat} : asgG (.quad k l n o) (.tup ds) s = setN s [k, l, n, o] ds := rfl
@[local simp] theorem add_int {i : Int} {j : Int} : bin .add (.int i) (.int j) = some (.int (i + j)) := rfl
@[local simp] theorem add_tup {ds : List D} {es : List D} : bin .add (.tup ds) (.tup es) = if ds.length + es.length ≤ sizeLine then some (.tup (ds ++ es)) else none := rfl
@[local simp] theorem add_lst {ds : List D} {es : List D} {m : Bool} {m' : Bool} : bin .add (.lst m ds) (.lst m' es) = if stills ds && stills es && decide (ds.length + es.length ≤ sizeLine) then some (.lst true (ds ++ es)) else none := rfl
@[local simp] theorem sub_int {i : Int} {j : Int} : bin .sub (.int i) (.int j) = some (.int (i - j)) := rfl
@[local simp] theorem mul_int {i : Int} {j : Int} : bin .mul (.int i) (.int j) = if small64i i || small64i j then some (.int (i * j)) else none := rfl
@[local simp] theorem mul_lst {ds : List D} {m : Bool} {j : Int} : bin .mul (.lst m ds) (.int j) = if stills ds && decide (-(2 ^ 63) ≤ j ∧ j < 2 ^ 63 ∧ ds.length * j.toNat ≤ sizeLine) then some (.lst true (List.replicate j.toNat ds).flatten) else none := rfl
@[local simp] theorem fdiv_int {i : Int} {j : Int} : bin .fdiv (.int i) (.int j) = if decide (0 < j ∧ j < 1073741824) then some (.int (i / j)) else none := rfl
@[local simp] theorem mod_int {i : Int} {j : Int} : bin .mod (.int i) (.int j) = if decide (0 < j) then some (.int (i % j)) else none := rfl
@[local simp] theorem pow_int {i : Int} {j : Int} : bin .pow (.int i) (.int j) = if decide (0 ≤ j ∧ j ≤ 1000000 ∧ i.natAbs < 2 ^ 64) then some (.int (i ^ j.toNat)) else none := rfl
@[local simp] theorem shl_int {i : Int} {j : Int} : bin .shl (.int i) (.int j) = if decide (0 ≤ j ∧ j ≤ 1000000 ∧ i.natAbs < 2 ^ 64) then some (.int (i * 2 ^ j.toNat)) else none := rfl
@[local simp] theorem shr_int {i : Int} {j : Int} : bin .shr (.int i) (.int j) = if decide (0 ≤ j) then some (.int (i / 2 ^ j.toNat)) else none := rfl
@[local simp] theorem band_int {i : Int} {j : Int} : bin .band (.int i) (.int j) = some (.int (Builtin.bitAnd i j)) := rfl
@[local simp] theorem bor_int {i : Int} {j : Int} : bin .bor (.int i) (.int j) = some (.int (Builtin.bitOr i j)) := rfl
@[local simp] theorem neg_int {i : Int} : un .neg (.int i) = some (.int (-i)) := rfl
@[local simp] theorem inv_int {i : Int} : un .inv (.int i) = some (.int (Builtin.bitNot i)) := rfl
@[local simp] theorem isn_t {d : D} : isn true d = !isNon d := rfl
@[local simp] theorem isn_f {d : D} : isn false d = isNon d := rfl
@[local simp] theorem tru_int {i : Int} : truD (.int i) = some (i != 0) := rfl
@[local simp] theorem tru_lst {ds : List D} {m : Bool} : truD (.lst m ds) = some (!ds.isEmpty) := rfl
@[local simp] theorem tru_tup {ds : List D} : truD (.tup ds) = some (!ds.isEmpty) := rfl
@[local simp] theorem items_lst {ds : List D} {m : Bool} : itemsOf (.lst m ds) = some ds := rfl
@[local simp] theorem items_tup {ds : List D} : itemsOf (.tup ds) = some ds := rfl
@[local simp] theorem getIx_lst {ds : List D} {m : Bool} {i : Int} : getIx (.lst m ds) i = atI ds i := rfl
@[local simp] theorem getIx_tup {ds : List D} {i : Int} : getIx (.tup ds) i = atI ds i := rfl
@[local simp] theorem getIx_scr {i : Int} {x : List Int} : getIx (.scr x) i = (atI x i).map D.int := rfl
@[local simp] theorem getFd_ins {ds : List D} {m : Bool} {c k : Nat} : getFd (.ins m c ds) k = (fldIx c k).bind fun j => ds[j]? := rfl
@[local simp] theorem fld00 : fldIx 0 0 = some 0 := rfl
@[local simp] theorem fld01 : fldIx 0 1 = some 1 := rfl
@[local simp] theorem cutD_tup {ds : List D} {lo hi : Option Int} : cutD (.tup ds) lo hi = some (.tup (cut ds lo hi)) := rfl
@[local simp] theorem cutD_lst {ds : List D} {m : Bool} {lo hi : Option Int} : cutD (.lst m ds) lo hi = if stills ds then some (.lst true (cut ds lo hi)) else none := rfl
@[local simp] theorem cmp_eq {a b : D} (ha : plain a = true) (hb : plain b = true) : cmp .eq a b = some (eqD a b) := by simp [cmp, ha, hb]
@[local simp] theorem cmp_ne {a b : D} (ha : plain a = true) (hb : plain b = true) : cmp .ne a b = some (!eqD a b) := by simp [cmp, ha, hb]
@[local simp] theorem cmp_lt {i : Int} {j : Int} : cmp .lt (.int i) (.int j) = some (decide (i < j)) := rfl
@[local simp] theorem cmp_ltt {ds : List D} {es : List D} : cmp .lt (.tup ds) (.tup es) = (intsOf ds).bind fun is => (intsOf es).map fun js => HT.lexLt is js := rfl
@[local simp] theorem cmp_le {i : Int} {j : Int} : cmp .le (.int i) (.int j) = some (decide (i ≤ j)) := rfl
@[local simp] theorem cmp_gt {i : Int} {j : Int} : cmp .gt (.int i) (.int j) = some (decide (j < i)) := rfl
@[local simp] theorem cmp_ge {i : Int} {j : Int} : cmp .ge (.int i) (.int j) = some (decide (j ≤ i)) := rfl
@[local simp] theorem cmp_in {ds : List D} {m : Bool} {a : D} (ha : plain a = true) (hb : plains ds = true) : cmp .inn a (.lst m ds) = some (memD a ds) := by simp [cmp, itemsOf, ha, hb]
@[local simp] theorem cmp_int {ds : List D} {a : D} (ha : plain a = true) (hb : plains ds = true) : cmp .inn a (.tup ds) = some (memD a ds) := by simp [cmp, itemsOf, ha, hb]
@[local simp] theorem cmp_nin {ds : List D} {m : Bool} {a : D} (ha : plain a = true) (hb : plains ds = true) : cmp .nin a (.lst m ds) = some (!memD a ds) := by simp [cmp, itemsOf, ha, hb]
@[local simp] theorem cmp_nint {ds : List D} {a : D} (ha : plain a = true) (hb : plains ds = true) : cmp .nin a (.tup ds) = some (!memD a ds) := by simp [cmp, itemsOf, ha, hb]
@[local simp] theorem len_lst {ds : List D} {m : Bool} : bi1 .len (.lst m ds) = some (.int ds.length) := rfl
@[local simp] theorem len_tup {ds : List D} : bi1 .len (.tup ds) = some (.int ds.length) := rfl
@[local simp] theorem len_scr {x : List Int} : bi1 .len (.scr x) = some (.int x.length) := rfl
@[local simp] theorem list_scr {x : List Int} : bi1 .list (.scr x) = some (.lst true (x.map .int)) := rfl
@[local simp] theorem list_lst {ds : List D} {m : Bool} : bi1 .list (.lst m ds) = if stills ds then some (.lst true ds) else none := rfl
@[local simp] theorem list_tup {ds : List D} : bi1 .list (.tup ds) = if stills ds then some (.lst true ds) else none := rfl
@[local simp] theorem tuple_lst {ds : List D} {m : Bool} : bi1 .tuple (.lst m ds) = if stills ds then some (.tup ds) else none := rfl
@[local simp] theorem tuple_tup {ds : List D} : bi1 .tuple (.tup ds) = if stills ds then some (.tup ds) else none := rfl
theorem sorted_lst {ds : List D} {m : Bool} : bi1 .sorted (.lst m ds) = if stills ds && (sortable ds || decide (ds.length ≤ 1)) then some (.lst true (sortD ds)) else none := rfl
@[local simp] theorem int_int {i : Int} : bi1 .int (.int i) = some (.int i) := rfl
@[local simp] theorem int_bl {b : Bool} : bi1 .int (.bl b) = some (.int (if b then 1 else 0)) := rfl
@[local simp] theorem sum_lst {ds : List D} {m : Bool} : bi1 .sum (.lst m ds) = (intsOf ds).map fun is => .int is.sum := rfl
@[local simp] theorem max_lst {ds : List D} {m : Bool} : bi1 .max (.lst m ds) = (intsOf ds).bind fun is => (maxI is).map D.int := rfl
@[local simp] theorem min_lst {ds : List D} {m : Bool} : bi1 .min (.lst m ds) = (intsOf ds).bind fun is => (minI is).map D.int := rfl
@[local simp] theorem abs_int {i : Int} : bi1 .abs (.int i) = some (.int (if i < 0 then -i else i)) := rfl
theorem sset_lst {ds : List D} {m : Bool} : bi1 .sset (.lst m ds) = (intsOf ds).bind fun is => if is.length < 64 then some (.lst true ((sset is).map .int)) else none := rfl
theorem sset_tup {ds : List D} : bi1 .sset (.tup ds) = (intsOf ds).bind fun is => if is.length < 64 then some (.lst true ((sset is).map .int)) else none := rfl
@[local simp] theorem max2 {i : Int} {j : Int} : bi2 .max (.int i) (.int j) = some (.int (if j > i then j else i)) := rfl
@[local simp] theorem min2 {i : Int} {j : Int} : bi2 .min (.int i) (.int j) = some (.int (if j < i then j else i)) := rfl
/-! dicts -/
@[local simp] theorem isDic_dic {m : Bool} {t : Nat} {ks ds : List D} : isDic (.dic m t ks ds) = true := rfl
@[local simp] theorem getK_dic {m : Bool} {t : Nat} {ks ds : List D} {k : D} : getK (.dic m t ks ds) k = if kOk t k then dval ks ds k else none := rfl
@[local simp] theorem getKD_dic {m : Bool} {t : Nat} {ks ds : List D} {k x : D} : getKD (.dic m t ks ds) k x = if kOk t k then some ((dval ks ds k).getD x) else none := rfl
@[local simp] theorem isB_bl {b c : Bool} : isB b (.bl c) = some (.bl (decide (c = b))) := rfl
@[local simp] theorem cmp_ind {a : D} {m : Bool} {t : Nat} {ks ds : List D} (h : kOk t a = true) : cmp .inn a (.dic m t ks ds) = some (memD a ks) := by simp [cmp, h]
@[local simp] theorem cmp_nind {a : D} {m : Bool} {t : Nat} {ks ds : List D} (h : kOk t a = true) : cmp .nin a (.dic m t ks ds) = some (!memD a ks) := by simp [cmp, h]
@[local simp] theorem kOk_int {i : Int} : kOk 0 (.int i) = true := rfl
@[local simp] theorem own_df {s : SA} {t : Nat} {ks ds : List D} {v : Bool} {r : Option Nat} (h : stills ds = true) : own v r (.dic false t ks ds) s = .ok (.dic false t ks ds) s := own_still (by simp [still, h])
@[local simp] theorem own_dt {s : SA} {t : Nat} {ks ds : List D} {k : Nat} (h : rd s k = some (.dic true t ks ds)) : own false (some k) (.dic true t ks ds) s = .ok (.dic false t ks (frzs ds)) (s.set k (some (.dic false t ks (frzs ds)))) := by simp only [own, still, Bool.not_true, Bool.false_and, Bool.or_self, Bool.false_eq_true, if_false, h, frz]
def mres (o : Option (List D)) (k : List D → Res) : Res := match o with
  | some ms => k ms
  | none => .bad
@[local simp] theorem mres_some {ms : List D} {k : List D → Res} : mres (some ms) k = k ms := rfl
@[local simp] theorem res_nx {s : SA} {fix : List Nat} : resOf fix (.nx s) = mres (mvals s fix) (.ok .non) := rfl
@[local simp] theorem res_rt {s : SA} {d : D} {fix : List Nat} : resOf fix (.rt d s) = mres (mvals s fix) (.ok d) := rfl
@[local simp] theorem res_rz {s : SA} {fix : List Nat} {c : Nat} : resOf fix (.rz c s) = mres (mvals s fix) (.rz c) := rfl
@[local simp] theorem updS_def {s : SA} {k : Nat} {ks : List Key} {f : D → Option D} : updS k ks f s = (rd s k).bind fun d => (updD ks f d).map fun d' => s.set k (some d') := rfl
@[local simp] theorem chkP_def {s : SA} {q : Nat × List Key} : chkP q s = match (rd s q.1).bind (getP q.2) with | some _ => .ok q s | none => .bad := rfl
@[local simp] theorem fSet_lst {ds : List D} {i : Int} {x : D} : fSet i x (.lst true ds) = (ixN ds.length i).map fun j => .lst true (ds.set j x) := rfl
@[local simp] theorem fApp_lst {ds : List D} {x : D} : fApp x (.lst true ds) = if line ds.length then some (.lst true (ds ++ [x])) else none := rfl
@[local simp] theorem fExt_lst {ds : List D} {es : List D} : fExt es (.lst true ds) = if stills es && decide (ds.length + es.length ≤ sizeLine) then some (.lst true (ds ++ es)) else none := rfl
@[local simp] theorem fRev_lst {ds : List D} : fRev (.lst true ds) = some (.lst true ds.reverse) := rfl
@[local simp] theorem fFld_ins {ds : List D} {c k : Nat} {x : D} : fFld k x (.ins true c ds) = (fldIx c k).bind fun j => if j < ds.length then some (.ins true c (ds.set j x)) else if j = ds.length then some (.ins true c (ds ++ [x])) else none := rfl
@[local simp] theorem aug_add {i : Int} {j : Int} : augD .add (.int i) (.int j) = some (.int (i + j)) := rfl
@[local simp] theorem aug_sub {i : Int} {j : Int} : augD .sub (.int i) (.int j) = some (.int (i - j)) := rfl

@[local simp] theorem frzs_app (a b : List D) : frzs (a ++ b) = frzs a ++ frzs b := by
  induction a with
  | nil => rfl
  | cons d a ih => simp [ih]
@[local simp] theorem stills_app (a b : List D) : stills (a ++ b) = (stills a && stills b) := by
  induction a with
  | nil => rfl
  | cons d a ih => simp [ih, Bool.and_assoc]
@[local simp] theorem noLs_app (a b : List D) : noLs (a ++ b) = (noLs a && noLs b) := by
  induction a with
  | nil => rfl
  | cons d a ih => simp [ih, Bool.and_assoc]
@[local simp] theorem intsOf_app (a b : List D) : intsOf (a ++ b) = (intsOf a).bind fun x => (intsOf b).map fun y => x ++ y := by
  induction a with
  | nil => simp
  | cons d a ih =>
    cases d <;> simp [ih]
    cases intsOf a <;> cases intsOf b <;> simp
class En {α : Type} [DecidableEq α] (f : α → D) : Prop where
  frz : ∀ a, frz (f a) = f a
  still : ∀ a, still (f a) = true
  noL : ∀ a, noL (f a) = true
  plain0 : ∀ a, plain0 (f a) = true
  depth : ∀ a, (toPD (f a)).depth ≤ 10
  eq : ∀ a b, PySem.PyData.eqv (toPD (f a)) (toPD (f b)) = decide (a = b)
def dN (n : Nat) : D := .int n
@[local simp] theorem dN_ap (n : Nat) : dN n = .int n := rfl
def tN (l : List Nat) : D := .tup (l.map dN)
@[local simp] theorem tN_ap (l : List Nat) : tN l = .tup (l.map dN) := rfl
theorem toPDs_mapS (l : List D) : toPDs l = l.map toPD := by
  induction l with
  | nil => rfl
  | cons a l ih => simp [ih]
instance : En D.int where
  frz _ := rfl
  still _ := rfl
  noL _ := rfl
  plain0 _ := rfl
  depth _ := by simp [PySem.PyData.depth]
  eq a b := by simp only [toPD, PySem.PyData.eqv]; by_cases h : a = b <;> simp [h]
instance : En D.bl where
  frz _ := rfl
  still _ := rfl
  noL _ := rfl
  plain0 _ := rfl
  depth _ := by simp [PySem.PyData.depth]
  eq a b := by simp only [toPD, PySem.PyData.eqv]; cases a <;> cases b <;> rfl
instance : En dN where
  frz _ := rfl
  still _ := rfl
  noL _ := rfl
  plain0 _ := rfl
  depth _ := by simp [PySem.PyData.depth]
  eq a b := by
    simp only [dN_ap, toPD, PySem.PyData.eqv]
    by_cases h : a = b
    · simp [h]
    · have : ¬ (a : Int) = (b : Int) := by omega
      simp [h, this]
@[local simp] theorem frzs_map {α : Type} [DecidableEq α] {f : α → D} [En f] (l : List α) : frzs (l.map f) = l.map f := by
  induction l with
  | nil => rfl
  | cons a l ih => simp [ih, En.frz]
@[local simp] theorem stills_map {α : Type} [DecidableEq α] {f : α → D} [En f] (l : List α) : stills (l.map f) = true := by
  induction l with
  | nil => rfl
  | cons a l ih => simp [ih, En.still]
@[local simp] theorem noLs_map {α : Type} [DecidableEq α] {f : α → D} [En f] (l : List α) : noLs (l.map f) = true := by
  induction l with
  | nil => rfl
  | cons a l ih => simp [ih, En.noL]
theorem plains0_map {α : Type} [DecidableEq α] {f : α → D} [En f] (l : List α) : plains0 (l.map f) = true := by
  induction l with
  | nil => rfl
  | cons a l ih => simp [plains0, ih, En.plain0]
theorem depthAll_map {α : Type} [DecidableEq α] {f : α → D} [En f] (l : List α) : PySem.PyData.depthAll (toPDs (l.map f)) ≤ 10 := by
  induction l with
  | nil => simp [PySem.PyData.depthAll]
  | cons a l ih =>
    simp only [List.map_cons, toPDs, PySem.PyData.depthAll]
    exact Nat.max_le.mpr ⟨En.depth a, ih⟩
@[local simp] theorem plains_map {α : Type} [DecidableEq α] {f : α → D} [En f] (l : List α) : plains (l.map f) = true := by
  have := depthAll_map (f := f) l
  simp only [plains, plains0_map, Bool.true_and, decide_eq_true_eq]; omega
@[local simp] theorem plain_tupm {α : Type} [DecidableEq α] {f : α → D} [En f] (l : List α) : plain (.tup (l.map f)) = true := by
  have := depthAll_map (f := f) l
  simp only [plain, plain0, plains0_map, Bool.true_and, toPD, PySem.PyData.depth, decide_eq_true_eq]; omega
@[local simp] theorem plain_lstm {α : Type} [DecidableEq α] {f : α → D} [En f] (m : Bool) (l : List α) : plain (.lst m (l.map f)) = true := by
  have := depthAll_map (f := f) l
  simp only [plain, plain0, plains0_map, Bool.true_and, toPD, PySem.PyData.depth, decide_eq_true_eq]; omega
@[local simp] theorem plain_f {α : Type} [DecidableEq α] {f : α → D} [En f] (a : α) : plain (f a) = true := by
  have := En.depth (f := f) a
  simp only [plain, En.plain0, Bool.true_and, decide_eq_true_eq]; omega
theorem eqvAll_map {α : Type} [DecidableEq α] {f : α → D} [En f] : ∀ l m : List α, PySem.PyData.eqvAll (toPDs (l.map f)) (toPDs (m.map f)) = decide (l = m)
  | [], [] => by simp [PySem.PyData.eqvAll]
  | [], _ :: _ => by simp [PySem.PyData.eqvAll]
  | _ :: _, [] => by simp [PySem.PyData.eqvAll]
  | a :: l, b :: m => by
    simp only [List.map_cons, toPDs, PySem.PyData.eqvAll, En.eq, eqvAll_map l m]
    by_cases h : a = b <;> by_cases h' : l = m <;> simp [h, h']
@[local simp] theorem eqD_tupm {α : Type} [DecidableEq α] {f : α → D} [En f] (l m : List α) : eqD (.tup (l.map f)) (.tup (m.map f)) = decide (l = m) := by
  simp only [eqD, toPD, PySem.PyData.eqv]; exact eqvAll_map l m
@[local simp] theorem eqD_lstm {α : Type} [DecidableEq α] {f : α → D} [En f] (x y : Bool) (l m : List α) : eqD (.lst x (l.map f)) (.lst y (m.map f)) = decide (l = m) := by
  simp only [eqD, toPD, PySem.PyData.eqv]; exact eqvAll_map l m
theorem memD_map {α : Type} [DecidableEq α] {f : α → D} [En f] (a : α) (l : List α) [Decidable (a ∈ l)] : memD (f a) (l.map f) = decide (a ∈ l) := by
  have h : memD (f a) (l.map f) = true ↔ a ∈ l := by
    simp only [memD, List.any_map, List.any_eq_true, Function.comp, eqD, En.eq, decide_eq_true_eq]
    exact ⟨fun ⟨x, hx, e⟩ => e ▸ hx, fun h => ⟨a, h, rfl⟩⟩
  by_cases h' : a ∈ l
  · rw [decide_eq_true h']; exact h.mpr h'
  · rw [decide_eq_false h']; cases e : memD (f a) (l.map f)
    · rfl
    · exact absurd (h.mp e) h'
/-- rows: tuples, lists of typed data -/
def tTS {α : Type} (f : α → D) (l : List α) : D := .tup (l.map f)
def lT {α : Type} (f : α → D) (l : List α) : D := .lst false (l.map f)
@[local simp] theorem lT_ap {α : Type} (f : α → D) (l : List α) : lT f l = .lst false (l.map f) := rfl
instance : En tN where
  frz _ := rfl
  still _ := rfl
  noL l := by simp
  plain0 l := by simp [plain0, plains0_map]
  depth l := by
    have : ∀ l : List Nat, PySem.PyData.depthAll (toPDs (l.map dN)) ≤ 1 := by
      intro l
      induction l with
      | nil => simp [PySem.PyData.depthAll]
      | cons a l ih => simp only [List.map_cons, toPDs, PySem.PyData.depthAll, dN_ap, toPD, PySem.PyData.depth]; omega
    have := this l
    simp only [tN_ap, toPD, PySem.PyData.depth]; omega
  eq a b := by simp only [tN_ap, toPD, PySem.PyData.eqv]; exact eqvAll_map a b
@[local simp] theorem eqD_int (i j : Int) : eqD (.int i) (.int j) = decide (i = j) := En.eq (f := D.int) i j
@[local simp] theorem eqD_bl (i j : Bool) : eqD (.bl i) (.bl j) = decide (i = j) := En.eq (f := D.bl) i j
@[local simp] theorem eqD_tl (x : Bool) (a b : List D) : eqD (.tup a) (.lst x b) = false := by simp only [eqD, toPD, PySem.PyData.eqv]
@[local simp] theorem eqD_lt (x : Bool) (a b : List D) : eqD (.lst x b) (.tup a) = false := by simp only [eqD, toPD, PySem.PyData.eqv]
@[local simp] theorem plain_int (i : Int) : plain (.int i) = true := plain_f (f := D.int) i
@[local simp] theorem plain_bl (i : Bool) : plain (.bl i) = true := plain_f (f := D.bl) i
@[local simp] theorem memD_dN (a : Nat) (l : List Nat) : memD (.int a) (l.map dN) = decide (a ∈ l) := memD_map (f := dN) a l
@[local simp] theorem memD_int (a : Int) (l : List Int) : memD (.int a) (l.map D.int) = decide (a ∈ l) := memD_map (f := D.int) a l
@[local simp] theorem memD_tN (a : List Nat) (l : List (List Nat)) : memD (.tup (a.map dN)) (l.map tN) = decide (a ∈ l) := memD_map (f := tN) a l
@[local simp] theorem atI_natq {α : Type} (xs : List α) (k : Nat) : atI xs (k : Int) = xs[k]? := by
  by_cases h : k < xs.length
  · have : xs[k]? = some xs[k] := List.getElem?_eq_getElem h
    rw [atI_nat this, this]
  · rw [List.getElem?_eq_none (by omega)]
    simp only [atI, ixN]; rw [if_pos (by omega), if_neg (by omega)]; rfl
@[local simp] theorem ixN_natq (n k : Nat) : ixN n (k : Int) = if k < n then some k else none := by
  simp only [ixN]; rw [if_pos (by omega)]
  by_cases h : k < n
  · rw [if_pos (by omega), if_pos h]; simp
  · rw [if_neg (by omega), if_neg h]
@[local simp] theorem atI_zero {α : Type} (xs : List α) : atI xs 0 = xs[0]? := atI_natq xs 0
@[local simp] theorem atI_one {α : Type} (xs : List α) : atI xs 1 = xs[1]? := atI_natq xs 1
@[local simp] theorem ixN_zero (n : Nat) : ixN n 0 = if 0 < n then some 0 else none := ixN_natq n 0
@[local simp] theorem intsOf_int (l : List Int) : intsOf (l.map D.int) = some l := by
  induction l with
  | nil => rfl
  | cons a l ih => simp [ih]
@[local simp] theorem intsOf_dN (l : List Nat) : intsOf (l.map dN) = some (l.map fun (n : Nat) => (n : Int)) := by
  induction l with
  | nil => rfl
  | cons a l ih => simp [ih]
@[local simp] theorem rangeN_zero (n : Nat) : rangeN 0 n = (List.range n).map dN := by
  simp only [rangeN]; apply List.map_congr_left; intro a _; simp
@[local simp] theorem inR_nat {n : Nat} (h : n < 1000000) : inR (n : Int) = true := by
  simp only [inR, Nat.ble_eq]; omega
/-! Abm1: loops by their steps; the draws -/
/-- used where a goal must not be looked into -/
theorem exE {α : Sort _} {p : α → Prop} {Q : Prop} (h : ∃ x, p x) (k : ∀ x, p x → Q) : Q := h.elim k
def Nx (P : SA → Prop) : Fl → Prop
  | .nx s => P s
  | .ct s => P s
  | _ => False
def Sm (P : SA → Prop) : Option SA → Prop
  | some s => P s
  | none => False
theorem Nx_of {P : SA → Prop} {r : Fl} (h : Nx P r) : ∃ s, (r = .nx s ∨ r = .ct s) ∧ P s := by
  cases r <;> simp [Nx] at h
  · exact ⟨_, .inl rfl, h⟩
  · exact ⟨_, .inr rfl, h⟩
theorem Sm_of {P : SA → Prop} {r : Option SA} (h : Sm P r) : ∃ s, r = some s ∧ P s := by
  cases r <;> simp [Sm] at h
  exact ⟨_, rfl, h⟩
def NxI (r : Fl) [p : Kf (SA → Prop)] : Prop := Nx p.k r
@[local simp ↓] theorem NxI_in {P : SA → Prop} {x : Fl} : Nx P x = @NxI x ⟨P⟩ := rfl
@[local simp] theorem Nx_nx {P : SA → Prop} {s : SA} : @NxI (.nx s) ⟨P⟩ = P s := rfl
@[local simp] theorem Nx_ct {P : SA → Prop} {s : SA} : @NxI (.ct s) ⟨P⟩ = P s := rfl
@[local simp] theorem Nx_bad {P : SA → Prop} : @NxI .bad ⟨P⟩ = False := rfl
@[local simp] theorem Nx_rt {P : SA → Prop} {s : SA} {d : D} : @NxI (.rt d s) ⟨P⟩ = False := rfl
@[local simp] theorem Nx_bk {P : SA → Prop} {s : SA} : @NxI (.bk s) ⟨P⟩ = False := rfl
def SmI (r : Option SA) [p : Kf (SA → Prop)] : Prop := Sm p.k r
@[local simp ↓] theorem SmI_in {P : SA → Prop} {o : Option SA} : Sm P o = @SmI o ⟨P⟩ := rfl
@[local simp] theorem Sm_some {P : SA → Prop} {s : SA} : @SmI (some s) ⟨P⟩ = P s := rfl
@[local simp] theorem Sm_none {P : SA → Prop} : @SmI none ⟨P⟩ = False := rfl
/-- a for over typed things -/
theorem for_ok {α : Type} {st : SA → Fl} {g : MG} (e : α → D) (l : List α) (I : Nat → SA → Prop) {s : SA} (h0 : I 0 s)
    (hs : ∀ (k : Nat) (hk : k < l.length) (s : SA), I k s → Sm (fun s1 => Nx (I (k + 1)) (st s1)) (asgG g (e l[k]) s)) :
    ∃ s', forL st g (l.map e) s = .nx s' ∧ I l.length s' := by
  have := forL_inv (st := st) (g := g) (l.map e) (I := I) h0 fun k x s hx hi => by
    have hk : k < l.length := by
      by_cases h : k < l.length
      · exact h
      · rw [List.getElem?_eq_none (by simpa using Nat.not_lt.mp h)] at hx; exact absurd hx (by simp)
    rw [List.getElem?_map, List.getElem?_eq_getElem hk] at hx
    simp only [Option.map_some, Option.some.injEq] at hx
    subst hx
    obtain ⟨s1, e1, h1⟩ := Sm_of (hs k hk s hi)
    obtain ⟨s2, e2, h2⟩ := Nx_of h1
    exact ⟨s1, s2, e1, e2, h2⟩
  simpa using this
/-- a for over typed things that may return d -/
def Rt (d : D) : Fl → Prop
  | .rt d' _ => d' = d
  | _ => False
@[local simp] theorem Rt_rt {d d' : D} {s : SA} : Rt d (.rt d' s) = (d' = d) := rfl
@[local simp] theorem Rt_nx {d : D} {s : SA} : Rt d (.nx s) = False := rfl
@[local simp] theorem Rt_ct {d : D} {s : SA} : Rt d (.ct s) = False := rfl
@[local simp] theorem Rt_bad {d : D} : Rt d .bad = False := rfl
theorem Rt_of {d : D} {r : Fl} (h : Rt d r) : ∃ s, r = .rt d s := by
  cases r <;> simp [Rt] at h
  exact ⟨_, by rw [h]⟩
theorem for_find {α : Type} {st : SA → Fl} {g : MG} (d : D) (e : α → D) (l : List α) (p : α → Bool) (I : Nat → SA → Prop) {s : SA} (h0 : I 0 s)
    (hs : ∀ (k : Nat) (hk : k < l.length) (s : SA), I k s → Sm (fun s1 => if p l[k] then Rt d (st s1) else Nx (I (k + 1)) (st s1)) (asgG g (e l[k]) s)) :
    if l.any p then ∃ s', forL st g (l.map e) s = .rt d s' else ∃ s', forL st g (l.map e) s = .nx s' ∧ I l.length s' := by
  induction l generalizing I s with
  | nil => simp [forL]; exact h0
  | cons a l ih =>
    have h := hs 0 (by simp) s h0
    obtain ⟨s1, e1, h1⟩ := Sm_of h
    simp only [List.getElem_cons_zero] at h1 e1
    rw [List.map_cons, forL, e1]
    by_cases hp : p a = true
    · rw [if_pos hp] at h1
      obtain ⟨s2, e2⟩ := Rt_of h1
      simp only [List.any_cons, hp, Bool.true_or, if_true, e2]; exact ⟨s2, rfl⟩
    · rw [if_neg hp] at h1
      obtain ⟨s2, e2, h2⟩ := Nx_of h1
      have := ih (I := fun k => I (k + 1)) h2 fun k hk s hi => by
        have := hs (k + 1) (by simpa using hk) s hi
        rw [List.getElem_cons_succ] at this; exact this
      simp only [List.any_cons, hp, Bool.false_or, List.length_cons]
      rcases e2 with e2 | e2 <;> simp only [e2] <;> exact this
theorem forV_ok {α : Type} {st : SA → Fl} {g : MG} {i : Nat} (e : α → D) (he : ∀ a, still (e a) = true) (l : List α) (hg : g.slots.contains i = false) (n : Nat) (hn : l.length < n) (I : Nat → SA → Prop) {s : SA} (h0 : I 0 s)
    (hrd : ∀ k s, I k s → rd s i = some (.lst true (l.map e)))
    (hs : ∀ (k : Nat) (hk : k < l.length) (s : SA), I k s → Sm (fun s1 => Nx (I (k + 1)) (st s1)) (asgG g (e l[k]) s)) :
    ∃ s', forV st g i n 0 s = .nx s' ∧ I l.length s' := by
  have hst : stills (l.map e) = true := by
    clear hs hrd hn
    induction l with
    | nil => rfl
    | cons a l ih => simp [he, ih]
  have := forV_inv (st := st) (g := g) (i := i) (ds := l.map e) hg hst n 0 (I := I) h0 (by simp) (by simpa using hn) (fun k s hi => ⟨true, hrd k s hi⟩) fun k x s hx hi => by
    have hk : k < l.length := by
      by_cases h : k < l.length
      · exact h
      · rw [List.getElem?_eq_none (by simpa using Nat.not_lt.mp h)] at hx; exact absurd hx (by simp)
    rw [List.getElem?_map, List.getElem?_eq_getElem hk] at hx
    simp only [Option.map_some, Option.some.injEq] at hx
    subst hx
    obtain ⟨s1, e1, h1⟩ := Sm_of (hs k hk s hi)
    obtain ⟨s2, e2, h2⟩ := Nx_of h1
    exact ⟨s1, s2, e1, e2, h2⟩
  simpa using this
/-- a comprehension that may change the state: each value is told by p -/
def Vs (P : D → SA → Prop) : Er D → Prop
  | .ok d s => P d s
  | _ => False
def VsI (r : Er D) [p : Kf (D → SA → Prop)] : Prop := Vs p.k r
@[local simp ↓] theorem VsI_in {P : D → SA → Prop} {x : Er D} : Vs P x = @VsI x ⟨P⟩ := rfl
@[local simp] theorem Vs_ok {P : D → SA → Prop} {d : D} {s : SA} : @VsI (.ok d s) ⟨P⟩ = P d s := rfl
@[local simp] theorem Vs_rz {P : D → SA → Prop} {c : Nat} {s : SA} : @VsI (.rz c s) ⟨P⟩ = False := rfl
@[local simp] theorem Vs_bad {P : D → SA → Prop} : @VsI .bad ⟨P⟩ = False := rfl
theorem Vs_of {P : D → SA → Prop} {r : Er D} (h : Vs P r) : ∃ d s, r = .ok d s ∧ P d s := by
  cases r <;> simp [Vs] at h
  exact ⟨_, _, rfl, h⟩
theorem comp_all {α β : Type} {f : SA → Er Bool} {g : SA → Er D} {own : Nat} (I : SA → Prop) (e : α → D) (e' : β → D) (p : α → β → Prop) (hf : ∀ s, f s = .ok true s) : ∀ (l : List α) (s : SA), I s →
    (∀ x, x ∈ l → ∀ s, I s → Vs (fun d s2 => (∃ b, p x b ∧ d = e' b) ∧ I (s2.set own none)) (g (s.set own (some (e x))))) →
    ∃ (bs : List β) (s' : SA), compL f g own (l.map e) s = .ok (bs.map e') s' ∧ I s' ∧ bs.length = l.length ∧ ∀ b, b ∈ bs → ∃ x, x ∈ l ∧ p x b
  | [], s, h0, _ => ⟨[], s, rfl, h0, rfl, by simp⟩
  | x :: xs, s, h0, hs => by
    obtain ⟨d, s2, e2, ⟨b, hb, rfl⟩, h2⟩ := Vs_of (hs x (by simp) s h0)
    obtain ⟨bs, s', e3, h3, hl, hp⟩ := comp_all I e e' p hf xs (s2.set own none) h2 fun y hy => hs y (by simp [hy])
    refine ⟨b :: bs, s', ?_, h3, by simp [hl], ?_⟩
    · rw [List.map_cons, compL, hf]
      simp only [Er.bind, if_true, e2, e3, List.map_cons]
    · intro c hc
      rcases List.mem_cons.mp hc with rfl | hc
      · exact ⟨x, by simp, hb⟩
      · obtain ⟨y, hy, h⟩ := hp c hc
        exact ⟨y, by simp [hy], h⟩
@[local simp] theorem atI_mod {α : Type} (xs : List α) (k c : Nat) : atI xs ((k : Int) % (c : Int)) = xs[k % c]? := by
  have : ((k : Int) % (c : Int)) = ((k % c : Nat) : Int) := by simp
  rw [this, atI_natq]
@[local simp] theorem ixN_mod (n k c : Nat) : ixN n ((k : Int) % (c : Int)) = if k % c < n then some (k % c) else none := by
  have : ((k : Int) % (c : Int)) = ((k % c : Nat) : Int) := by simp
  rw [this, ixN_natq]
@[local simp] theorem atI_succ {α : Type} (xs : List α) (k : Nat) : atI xs ((k : Int) + 1) = xs[k + 1]? := by
  have : ((k : Int) + 1) = ((k + 1 : Nat) : Int) := by simp
  rw [this, atI_natq]

@[local simp] theorem filter_tt {α : Type} (l : List α) : l.filter (fun _ => true) = l := List.filter_eq_self.mpr (by simp)

/-! the draws -/
def TakeOk (g : Callee) : Prop := ∀ (xs : List Int) (m : Nat), 0 < m → ∃ (r : Nat) (ys : List Int), g [.lst true (xs.map .int), .int m] = .ok (.int r) [.lst true (ys.map .int)] ∧ r < m
theorem take_ok {G : Env0A} {W : Nat} : TakeOk (runF G W f_l_take) := by
  intro xs m hm
  by_cases h : xs = []
  · subst h
    exact ⟨0, [], by simp -implicitDefEqProofs [runF, f_l_take], hm⟩
  · obtain ⟨ys, r, rfl⟩ : ∃ ys r, xs = ys ++ [r] := ⟨xs.dropLast, xs.getLast h, (List.dropLast_concat_getLast h).symm⟩
    refine ⟨(r % m).toNat, ys, ?_, ?_⟩
    · have h0 : ¬ ((ys.length : Int) + 1 = 0) := by omega
      have h1 : ((r % (m : Int)).toNat : Int) = r % (m : Int) := Int.toNat_of_nonneg (Int.emod_nonneg _ (by omega))
      simp -implicitDefEqProofs [runF, f_l_take, h0, hm, h1]
    · have := Int.emod_lt_of_pos r (b := (m : Int)) (by omega)
      have := Int.emod_nonneg r (b := (m : Int)) (by omega)
      omega
def I_draws (ns : List Int) (n c : Nat) (k : Nat) (s : SA) : Prop := ∃ (cells found : List Int) (mixed : Int) (j5 j6 j7 j8 : Option D),
  s = [some (.scr ns), some (.int n), some (.lst true (cells.map .int)), some (.lst true (found.map .int)), some (.int mixed), j5, j6, j7, j8] ∧ cells.length = c ∧ found.length = k ∧ 0 ≤ mixed ∧ mixed < 2147483647
def DrawsOk (g : Callee) : Prop := ∀ (ns : List Int) (n : Nat), n ≤ 1000 → ∃ xs : List Int, g [.scr ns, .int n] = .ok (.lst true (xs.map .int)) []
theorem draws_loop {G : Env0A} {W : Nat} (ns : List Int) (n c : Nat) (hn : n ≤ 1000) (hc : 0 < c) {s : SA} (h0 : I_draws ns n c 0 s) :
    ∃ s', forL (exs G W [] b_l_draws_1) (.name 5) ((List.range n).map dN) s = .nx s' ∧ I_draws ns n c n s' := by
  have := for_ok (st := exs G W [] b_l_draws_1) (g := .name 5) dN (List.range n) (I_draws ns n c) h0 fun k hk s hi => by
    obtain ⟨cells, found, mixed, j5, j6, j7, j8, rfl, rfl, hk', hm0, hm1⟩ := hi
    have hj : k % cells.length < cells.length := Nat.mod_lt _ hc
    have hs : ∀ x : Int, small64i (x % 2147483647) = true := fun x => by
      have := Int.emod_nonneg x (b := 2147483647) (by decide)
      have := Int.emod_lt_of_pos x (b := 2147483647) (by decide)
      rw [small64i_iff]; omega
    have hs2 : small64i 48271 = true ∧ small64i 69621 = true ∧ small64i 7919 = true ∧ small64i 31 = true := by decide
    have hl : k < 16777216 := by
      simp at hk; omega
    have key : ∀ (v : Int) (cells' : List Int) (m' : Int) j5 j6 j7 j8, cells'.length = cells.length → 0 ≤ m' → m' < 2147483647 → I_draws ns n cells.length (k + 1) [some (.scr ns), some (.int n), some (.lst true (cells'.map .int)), some (.lst true (found.map .int ++ [.int v])), some (.int m'), j5, j6, j7, j8] :=
      fun v cells' m' j5 j6 j7 j8 h1 h2 h3 => ⟨cells', found ++ [v], m', j5, j6, j7, j8, by simp, h1, by simp [hk'], h2, h3⟩
    by_cases hb : (1000000000000000000 : Int) ≤ cells[k % cells.length]
    · simp -implicitDefEqProofs [b_l_draws_1, hj, hc, hs, hs2, hk', hl, hb]
      rw [← List.map_set]
      exact key _ _ _ _ _ _ _ (by simp) (Int.emod_nonneg _ (by decide)) (Int.emod_lt_of_pos _ (by decide))
    · simp -implicitDefEqProofs [b_l_draws_1, hj, hc, hs, hs2, hk', hl, hb]
      exact key _ _ _ _ _ _ _ rfl (Int.emod_nonneg _ (by decide)) (Int.emod_lt_of_pos _ (by decide))
  simpa using this
theorem draws_ok {G : Env0A} {W : Nat} : DrawsOk (runF G W f_l_draws) := by
  intro ns n hn
  have hn2 : n < 1000000 := by omega
  by_cases h : ns = []
  · subst h
    obtain ⟨s', e, cells, found, mixed, j5, j6, j7, j8, rfl, h1, h2, h3⟩ := draws_loop (G := G) (W := W) [] n 1 hn (by decide) (s := [some (.scr []), some (.int n), some (.lst true [.int 7]), some (.lst true []), some (.int 12345), none, none, none, none]) ⟨[7], [], 12345, none, none, none, none, rfl, rfl, rfl, by decide, by decide⟩
    refine ⟨found.reverse, ?_⟩
    simp -implicitDefEqProofs [runF, f_l_draws_eq, g_l_draws, hn2, e]
  · have hl : 0 < ns.length := List.length_pos_iff.mpr h
    obtain ⟨s', e, cells, found, mixed, j5, j6, j7, j8, rfl, h1, h2, h3⟩ := draws_loop (G := G) (W := W) ns n ns.length hn hl (s := [some (.scr ns), some (.int n), some (.lst true (ns.map .int)), some (.lst true []), some (.int 12345), none, none, none, none]) ⟨ns, [], 12345, none, none, none, none, rfl, rfl, rfl, by decide, by decide⟩
    refine ⟨found.reverse, ?_⟩
    have h0 : ¬ ((ns.length : Int) = 0) := by omega
    simp -implicitDefEqProofs [runF, f_l_draws_eq, g_l_draws, hn2, e, h, h0]
/-! Abm2: alphabets and words -/
def Has (G : Env0A) (n : Nat) (p : Callee → Prop) : Prop := ∃ g, G n = some g ∧ p g
/-- valid letters: ascending places below C -/
structure Alph (C : Nat) (L : List (List Nat)) : Prop where
  c1 : 1 ≤ C
  c4 : C ≤ 4
  l1 : 1 ≤ L.length
  l6 : L.length ≤ 6
  fit : ∀ l, l ∈ L → 0 < l.length ∧ l.length ≤ 4 ∧ l.Pairwise (· < ·) ∧ ∀ p, p ∈ l → p < C
def Al (C : Nat) (L : List (List Nat)) : D := .ins false 0 [.int C, .tup (L.map tN)]
@[local simp] theorem Al_ap (C : Nat) (L : List (List Nat)) : Al C L = .ins false 0 [.int C, .tup (L.map tN)] := rfl
theorem lt_of_pairwise {l : List Nat} (h : l.Pairwise (· < ·)) {j : Nat} (hj : j + 1 < l.length) : l[j] < l[j + 1] :=
  List.pairwise_iff_getElem.mp h j (j + 1) (by omega) hj (by omega)

def FitsOk (g : Callee) : Prop := ∀ (C : Nat) (l : List Nat), 0 < l.length → l.length ≤ 4 → l.Pairwise (· < ·) → (∀ p, p ∈ l → p < C) → g [tN l, .int C] = .ok (.bl true) []
theorem fits_ok {G : Env0A} {W : Nat} : FitsOk (runF G W f_fits) := by
  intro C l h0 h4 hp hC
  have := for_ok (st := fun s => exs G W [] b_fits_1 s) (g := .name 2) dN (List.range l.length) (fun _ s => ∃ j, s = [some (tN l), some (.int C), j]) (s := [some (tN l), some (.int C), none]) ⟨none, rfl⟩ fun k hk s hi => by
    obtain ⟨j, rfl⟩ := hi
    simp at hk
    have h1 : ¬ ((C : Int) ≤ (l[k] : Int)) := by have := hC l[k] (List.getElem_mem hk); omega
    have h2 : ¬ ((l[k] : Int) < 0) := by omega
    cases k with
    | zero => simp -implicitDefEqProofs [b_fits_1, hk, h1, h2]
    | succ k =>
      have h3 : ¬ ((l[k + 1] : Int) ≤ (l[k] : Int)) := by have := lt_of_pairwise hp hk; omega
      have hk' : k < l.length := by omega
      simp -implicitDefEqProofs [b_fits_1, hk, hk', h1, h2, h3]
  obtain ⟨s', e, j, rfl⟩ := this
  have h0' : ¬ ((l.length : Int) = 0) := by omega
  have hz : l.length < 1000000 := by omega
  have hl : l ≠ [] := by intro h; subst h; exact absurd h0 (by decide)
  simp at e
  simp -implicitDefEqProofs [runF, f_fits_eq, g_fits, hl, hz, e]
def InitOk (g : Callee) : Prop := ∀ (C : Nat) (L : List (List Nat)), Alph C L → g [.ins true 0 [], .int C, .lst false (L.map tN)] = .ok .non [.ins true 0 [.int C, .tup (L.map tN)]]
theorem init_ok {G : Env0A} {W : Nat} (h : Has G 0 FitsOk) : InitOk (runF G W f_Alphabet_init) := by
  intro C L hA
  obtain ⟨g, hg, hf⟩ := h
  have := for_ok (st := fun s => exs G W [0] b_Alphabet_init_1 s) (g := .name 4) tN L (fun _ s => ∃ j, s = [some (.ins true 0 []), some (.int C), some (.lst false (L.map tN)), some (.bl true), j]) (s := [some (.ins true 0 []), some (.int C), some (.lst false (L.map tN)), some (.bl true), none]) ⟨none, rfl⟩ fun k hk s hi => by
    obtain ⟨j, rfl⟩ := hi
    obtain ⟨a1, a2, a3, a4⟩ := hA.fit L[k] (List.getElem_mem hk)
    have hf := hf C L[k] a1 a2 a3 a4
    simp at hf
    simp -implicitDefEqProofs [b_Alphabet_init_1, hk, hg, hf]
  obtain ⟨s', e, j, rfl⟩ := this
  have h1 : (1 : Int) ≤ (C : Int) := by have := hA.c1; omega
  have h2 : (C : Int) ≤ 4 := by have := hA.c4; omega
  have h3 : (1 : Int) ≤ (L.length : Int) := by have := hA.l1; omega
  have h4 : (L.length : Int) ≤ 6 := by have := hA.l6; omega
  have h5 : L.length ≤ 16777216 := by have := hA.l6; omega
  have hc := compL_map (f := fun s => (evTo G W .none s).noRz) (g := fun s => (ev G W false e_Alphabet_init_2 s).noRz) (own := 4) (s := [some (.ins true 0 [.int C]), some (.int C), some (.lst false (L.map tN)), some (.bl true), none]) rfl tN (fun _ => true) tN L fun x _ => by
    simp -implicitDefEqProofs [e_Alphabet_init_2]
  simp at e hc
  simp -implicitDefEqProofs [runF, f_Alphabet_init_eq, g_Alphabet_init, h1, h2, h3, h4, h5, e, hc]
/-- two letters are dependent -/
def dl (L : List (List Nat)) (a b : Nat) : Bool := (L.getD a []).any fun p => decide (p ∈ L.getD b [])
def IndOk (g : Callee) : Prop := ∀ (C : Nat) (L : List (List Nat)) (i j : Nat) (hi : i < L.length) (hj : j < L.length), g [Al C L, .int i, .int j] = .ok (.bl (!dl L i j)) []
theorem independent_ok {G : Env0A} {W : Nat} : IndOk (runF G W f_independent) := by
  intro C L i j hi hj
  have ei : L.getD i [] = L[i] := by simp [hi]
  have ej : L.getD j [] = L[j] := by simp [hj]
  simp only [dl, ei, ej]
  have := for_find (st := fun s => exs G W [] b_independent_1 s) (g := .name 3) (.bl false) dN L[i] (fun p => decide (p ∈ L[j])) (fun _ s => ∃ x, s = [some (Al C L), some (.int i), some (.int j), x]) (s := [some (Al C L), some (.int i), some (.int j), none]) ⟨none, rfl⟩ fun k hk s hs => by
    obtain ⟨x, rfl⟩ := hs
    by_cases h : L[i][k] ∈ L[j]
    · simp -implicitDefEqProofs [b_independent_1, hi, hj, h]
    · simp -implicitDefEqProofs [b_independent_1, hi, hj, h]
  by_cases h : (L[i].any fun p => decide (p ∈ L[j])) = true
  · rw [if_pos h] at this
    obtain ⟨s', e⟩ := this
    simp only [h, Bool.not_true]
    simp at e
    simp -implicitDefEqProofs [runF, f_independent_eq, g_independent, hi, e]
  · rw [if_neg h] at this
    obtain ⟨s', e, x, rfl⟩ := this
    simp only [h, Bool.not_false]
    simp at e
    simp -implicitDefEqProofs [runF, f_independent_eq, g_independent, hi, e]
/-! the members of a list of numbers, ascending -/
def insN (x : Nat) : List Nat → List Nat
  | [] => [x]
  | y :: ys => if x < y then x :: y :: ys else if x = y then y :: ys else y :: insN x ys
def ssetN : List Nat → List Nat
  | [] => []
  | x :: xs => insN x (ssetN xs)
theorem insU_cast (x : Nat) : ∀ l : List Nat, insU (x : Int) (l.map fun (n : Nat) => (n : Int)) = (insN x l).map fun (n : Nat) => (n : Int)
  | [] => rfl
  | y :: ys => by
    simp only [List.map_cons, insU, insN]
    by_cases h : x < y
    · have : (x : Int) < (y : Int) := by omega
      simp only [h, this, if_true, List.map_cons]
    · have h' : ¬ (x : Int) < (y : Int) := by omega
      by_cases e : x = y
      · subst e; simp [h]
      · have e' : ¬ (x : Int) = (y : Int) := by omega
        simp only [h, h', e, e', if_false, List.map_cons, insU_cast x ys]
theorem sset_cast : ∀ l : List Nat, sset (l.map fun (n : Nat) => (n : Int)) = (ssetN l).map fun (n : Nat) => (n : Int)
  | [] => rfl
  | x :: xs => by simp only [List.map_cons, sset, sset_cast xs, insU_cast, ssetN]
theorem mem_insN {x y : Nat} : ∀ {l : List Nat}, y ∈ insN x l ↔ y = x ∨ y ∈ l
  | [] => by simp [insN]
  | z :: l => by
    simp only [insN]
    by_cases h : x < z
    · simp [h]
    · by_cases e : x = z
      · subst e; simp
      · simp only [h, e, if_false, List.mem_cons, mem_insN (l := l)]
        constructor
        · rintro (h | h | h) <;> simp [h]
        · rintro (h | h | h) <;> simp [h]
theorem mem_ssetN {y : Nat} : ∀ {l : List Nat}, y ∈ ssetN l ↔ y ∈ l
  | [] => by simp [ssetN]
  | x :: l => by simp only [ssetN, mem_insN, List.mem_cons, mem_ssetN (l := l)]
theorem insN_asc {x : Nat} : ∀ {l : List Nat}, l.Pairwise (· < ·) → (insN x l).Pairwise (· < ·)
  | [], _ => by simp [insN]
  | z :: l, h => by
    simp only [insN]
    by_cases hx : x < z
    · simp only [hx, if_true]
      refine List.pairwise_cons.mpr ⟨fun y hy => ?_, h⟩
      rcases List.mem_cons.mp hy with rfl | hy
      · exact hx
      · have := (List.pairwise_cons.mp h).1 y hy; omega
    · by_cases e : x = z
      · subst e; simpa using h
      · simp only [hx, e, if_false]
        refine List.pairwise_cons.mpr ⟨fun y hy => ?_, insN_asc (List.pairwise_cons.mp h).2⟩
        rcases mem_insN.mp hy with rfl | hy
        · omega
        · exact (List.pairwise_cons.mp h).1 y hy
theorem ssetN_asc : ∀ l : List Nat, (ssetN l).Pairwise (· < ·)
  | [] => List.Pairwise.nil
  | _ :: l => insN_asc (ssetN_asc l)
theorem insN_len {x : Nat} : ∀ {l : List Nat}, 0 < (insN x l).length ∧ (insN x l).length ≤ l.length + 1
  | [] => by simp [insN]
  | z :: l => by
    simp only [insN]
    by_cases hx : x < z
    · simp [hx]
    · by_cases e : x = z
      · simp [e]
      · have := insN_len (x := x) (l := l)
        simp [hx, e]; omega
theorem ssetN_len : ∀ l : List Nat, (ssetN l).length ≤ l.length ∧ (l ≠ [] → 0 < (ssetN l).length)
  | [] => by simp [ssetN]
  | x :: l => by
    have h1 := ssetN_len l
    have h2 := insN_len (x := x) (l := ssetN l)
    simp only [ssetN, List.length_cons]
    exact ⟨by omega, fun _ => h2.1⟩
theorem map_cast (l : List Nat) : (l.map fun (n : Nat) => (n : Int)).map D.int = l.map dN := by
  rw [List.map_map]; rfl
@[local simp] theorem sset_dN {m : Bool} (l : List Nat) (h : l.length < 64) : bi1 .sset (.lst m (l.map dN)) = some (.lst true ((ssetN l).map dN)) := by
  simp only [sset_lst, intsOf_dN, Option.bind_some, List.length_map, h, if_true, sset_cast, map_cast]

def fitN (C : Nat) (l : List Nat) : Prop := 0 < l.length ∧ l.length ≤ 4 ∧ l.Pairwise (· < ·) ∧ ∀ p, p ∈ l → p < C
def AlphabetOk (g : Callee) : Prop := ∀ (xs : List Int) (P M : Nat), 1 ≤ P → P ≤ 4 → 1 ≤ M → M ≤ 6 →
  ∃ (C : Nat) (L : List (List Nat)) (ys : List Int), g [.lst true (xs.map .int), .int P, .int M] = .ok (.tup [.int C, .lst false (L.map tN)]) [.lst true (ys.map .int)] ∧ Alph C L ∧ C ≤ P ∧ L.length ≤ M
def I_alph (P M C : Nat) (k : Nat) (s : SA) : Prop := ∃ (ys : List Int) (L : List (List Nat)) (j5 j6 j7 : Option D),
  s = [some (.lst true (ys.map .int)), some (.int P), some (.int M), some (.int C), some (.lst true (L.map tN)), j5, j6, j7, none] ∧ L.length = k ∧ ∀ l, l ∈ L → fitN C l
theorem alph_step {G : Env0A} {W : Nat} (h : Has G 6 TakeOk) {P M C : Nat} (hC : 0 < C) (n : Nat) (hn : n ≤ 6) {s : SA} (h0 : I_alph P M C 0 s) :
    ∃ s', forL (fun s => exs G W [0] b_l_alphabet_2 s) (.name 5) ((List.range n).map dN) s = .nx s' ∧ I_alph P M C n s' := by
  obtain ⟨g, hg, ht⟩ := h
  have := for_ok (st := fun s => exs G W [0] b_l_alphabet_2 s) (g := .name 5) dN (List.range n) (I_alph P M C) h0 fun k hk s hi => by
    obtain ⟨ys, L, j5, j6, j7, rfl, hL, hF⟩ := hi
    simp at hk
    obtain ⟨r, zs, e1, hr⟩ := ht ys 6 (by decide)
    obtain ⟨z, ez, hz1, hz3⟩ : ∃ z : Nat, [D.int 1, D.int 1, D.int 1, D.int 2, D.int 2, D.int 3][r]? = some (.int z) ∧ 1 ≤ z ∧ z ≤ 3 := by
      match r, hr with
      | 0, _ => exact ⟨1, rfl, by decide, by decide⟩
      | 1, _ => exact ⟨1, rfl, by decide, by decide⟩
      | 2, _ => exact ⟨1, rfl, by decide, by decide⟩
      | 3, _ => exact ⟨2, rfl, by decide, by decide⟩
      | 4, _ => exact ⟨2, rfl, by decide, by decide⟩
      | 5, _ => exact ⟨3, rfl, by decide, by decide⟩
    have hc := comp_all (f := fun s => (evTo G W .none s).noRz) (g := fun s => (ev G W false e_l_alphabet_1 s).noRz) (own := 8)
      (fun s => ∃ ws : List Int, s = [some (.lst true (ws.map .int)), some (.int P), some (.int M), some (.int C), some (.lst true (L.map tN)), some (.int k), some (.int z), j7, none]) dN dN (fun _ b => b < C)
      (fun s => by simp) (List.range z) [some (.lst true (zs.map .int)), some (.int P), some (.int M), some (.int C), some (.lst true (L.map tN)), some (.int k), some (.int z), j7, none] ⟨zs, rfl⟩ fun x _ s hs => by
        obtain ⟨ws, rfl⟩ := hs
        obtain ⟨r', zs', e2, hr'⟩ := ht ws C hC
        simp -implicitDefEqProofs [e_l_alphabet_1, hg, e2]
        exact ⟨⟨r', hr', rfl⟩, zs', rfl⟩
    obtain ⟨bs, s', e3, ⟨ws, rfl⟩, hbl, hb⟩ := hc
    simp at e1 e3 hbl
    have hz' : z < 1000000 := by omega
    have hz2 : z ≤ 16777216 := by omega
    have hk2 : k < 16777216 := by omega
    have hbl2 : bs.length < 64 := by omega
    have hlen := ssetN_len bs
    have hb0 : bs ≠ [] := by intro h; subst h; simp at hbl; omega
    simp -implicitDefEqProofs [b_l_alphabet_2, hk, hg, e1, ez, hz', hz2, hk2, e3, hL, hbl2]
    refine ⟨ws, L ++ [ssetN bs], some (.int k), some (.int z), some (.lst true (bs.map dN)), by simp, by simp [hL], ?_⟩
    intro l hl
    rcases List.mem_append.mp hl with hl | hl
    · exact hF l hl
    · rw [List.mem_singleton] at hl
      subst hl
      exact ⟨hlen.2 hb0, by omega, ssetN_asc bs, fun p hp => by obtain ⟨_, _, h⟩ := hb p (mem_ssetN.mp hp); exact h⟩
  simpa using this
theorem alphabet_ok {G : Env0A} {W : Nat} (h : Has G 6 TakeOk) : AlphabetOk (runF G W f_l_alphabet) := by
  intro xs P M hP hP4 hM hM6
  have h' := h
  obtain ⟨g, hg, ht⟩ := h'
  obtain ⟨r, ys, e1, hr⟩ := ht xs P (by omega)
  obtain ⟨q, zs, e2, hq⟩ := ht ys M (by omega)
  obtain ⟨s', e3, ws, L, j5, j6, j7, rfl, hL, hF⟩ := alph_step (W := W) h (P := P) (M := M) (C := 1 + r) (by omega) (1 + q) (by omega) (s := [some (.lst true (zs.map .int)), some (.int P), some (.int M), some (.int (1 + r : Nat)), some (.lst true []), none, none, none, none]) ⟨zs, [], none, none, none, rfl, rfl, by simp⟩
  refine ⟨1 + r, L, ws, ?_, ⟨by omega, by omega, by omega, by omega, hF⟩, by omega, by omega⟩
  have hq2 : 1 + q < 1000000 := by omega
  have e4 : (1 : Int) + (q : Int) = ((1 + q : Nat) : Int) := by simp
  have e5 : inR (1 + (q : Int)) = true := by rw [e4]; exact inR_nat hq2
  have e6 : (1 + (q : Int)).toNat = 1 + q := by omega
  simp at e3
  simp -implicitDefEqProofs [runF, f_l_alphabet_eq, g_l_alphabet, hg, e1, e2, e5, e6, e3]
/-! Abm3: words, events, what is below -/
def FreeOk (g : Callee) : Prop := ∀ (C : Nat) (L : List (List Nat)) (i j : Nat), Alph C L → i < L.length → j < L.length → g [.lst false (L.map tN), .int i, .int j] = .ok (.bl (!dl L i j)) []
theorem free_ok {G : Env0A} {W : Nat} : FreeOk (runF G W f_l_free) := by
  intro C L i j hA hi hj
  have ei : L.getD i [] = L[i] := by simp [hi]
  have ej : L.getD j [] = L[j] := by simp [hj]
  have hz : L[i].length ≤ 16777216 := by have := (hA.fit L[i] (List.getElem_mem hi)).2.1; omega
  have hc := compL_map (f := fun s => (evTo G W t_l_free_2 s).noRz) (g := fun s => (ev G W false e_l_free_1 s).noRz) (own := 3) (s := [some (.lst false (L.map tN)), some (.int i), some (.int j), none]) rfl dN (fun p => decide (p ∈ L[j])) dN L[i] fun x hx => by
    simp -implicitDefEqProofs [t_l_free_2, e_l_free_1, hj]
  have key : (L[i].filter fun p => decide (p ∈ L[j])).length = 0 ↔ (L[i].any fun p => decide (p ∈ L[j])) = false := by
    rw [List.length_eq_zero_iff, List.filter_eq_nil_iff]
    simp
  simp only [dl, ei, ej]
  by_cases h : (L[i].any fun p => decide (p ∈ L[j])) = true
  · have h2 : ¬ ((List.filter (fun p => decide (p ∈ L[j])) L[i]).length = 0) := fun e => by rw [key, h] at e; exact absurd e (by decide)
    have h3 : ¬ (((List.filter (fun p => decide (p ∈ L[j])) L[i]).length : Int) = 0) := by omega
    simp only [h, Bool.not_true]
    simp -implicitDefEqProofs [runF, f_l_free_eq, g_l_free, hi, hz, hc, h3]
    simpa using h
  · have h2 : ((List.filter (fun p => decide (p ∈ L[j])) L[i]).length = 0) := key.mpr (by simpa using h)
    have h3 : (((List.filter (fun p => decide (p ∈ L[j])) L[i]).length : Int) = 0) := by omega
    simp only [h, Bool.not_false]
    simp -implicitDefEqProofs [runF, f_l_free_eq, g_l_free, hi, hz, hc, h3]
def WordOk (g : Callee) : Prop := ∀ (xs : List Int) (n M : Nat), 0 < n → M ≤ 1000 → ∃ (w : List Nat) (ys : List Int), g [.lst true (xs.map .int), .int n, .int M] = .ok (.tup (w.map dN)) [.lst true (ys.map .int)] ∧ w.length ≤ M ∧ ∀ a, a ∈ w → a < n
theorem word_ok {G : Env0A} {W : Nat} (h : Has G 6 TakeOk) : WordOk (runF G W f_l_word) := by
  intro xs n M hn hM
  obtain ⟨g, hg, ht⟩ := h
  obtain ⟨r, ys, e1, hr⟩ := ht xs (M + 1) (by omega)
  have hc := comp_all (f := fun s => (evTo G W .none s).noRz) (g := fun s => (ev G W false e_l_word_1 s).noRz) (own := 3)
      (fun s => ∃ ws : List Int, s = [some (.lst true (ws.map .int)), some (.int n), some (.int M), none]) dN dN (fun _ b => b < n)
      (fun s => by simp) (List.range r) [some (.lst true (ys.map .int)), some (.int n), some (.int M), none] ⟨ys, rfl⟩ fun x _ s hs => by
        obtain ⟨ws, rfl⟩ := hs
        obtain ⟨r', zs', e2, hr'⟩ := ht ws n hn
        simp -implicitDefEqProofs [e_l_word_1, hg, e2]
        exact ⟨⟨r', hr', rfl⟩, zs', rfl⟩
  obtain ⟨bs, s', e3, ⟨ws, rfl⟩, hbl, hb⟩ := hc
  refine ⟨bs, ws, ?_, by simp at hbl; omega, fun a ha => by obtain ⟨_, _, h⟩ := hb a ha; exact h⟩
  simp at e1 e3
  have h1 : r < 1000000 := by omega
  have h2 : r ≤ 16777216 := by omega
  simp -implicitDefEqProofs [runF, f_l_word_eq, g_l_word, hg, e1, h1, h2, e3]

/-! chains -/
inductive Ch (d : Nat → Nat → Bool) : Nat → Nat → Prop where
  | refl (k : Nat) : Ch d k k
  | cons {i j k : Nat} : i < j → d i j = true → Ch d j k → Ch d i k
theorem Ch.le {d : Nat → Nat → Bool} {i k : Nat} (h : Ch d i k) : i ≤ k := by
  induction h with
  | refl => exact Nat.le_refl _
  | cons h _ _ ih => omega
theorem Ch.trans {d : Nat → Nat → Bool} {i j k : Nat} (h : Ch d i j) (h' : Ch d j k) : Ch d i k := by
  induction h with
  | refl => exact h'
  | cons a b _ ih => exact .cons a b (ih h')
theorem Ch.snoc {d : Nat → Nat → Bool} {i j k : Nat} (h : Ch d i j) (hj : j < k) (hd : d j k = true) : Ch d i k := h.trans (.cons hj hd (.refl k))
theorem ch_head {d : Nat → Nat → Bool} {i k : Nat} : Ch d i k ↔ i = k ∨ ∃ j, i < j ∧ d i j = true ∧ Ch d j k := by
  constructor
  · intro h
    cases h with
    | refl => exact .inl rfl
    | cons a b c => exact .inr ⟨_, a, b, c⟩
  · rintro (rfl | ⟨j, a, b, c⟩)
    · exact .refl _
    · exact .cons a b c
theorem ch_tail {d : Nat → Nat → Bool} {i k : Nat} : Ch d i k ↔ i = k ∨ ∃ j, j < k ∧ d j k = true ∧ Ch d i j := by
  constructor
  · intro h
    induction h with
    | refl => exact .inl rfl
    | @cons a b c ab dab _ ih =>
      right
      rcases ih with rfl | ⟨j, h1, h2, h3⟩
      · exact ⟨a, ab, dab, .refl a⟩
      · exact ⟨j, h1, h2, .cons ab dab h3⟩
  · rintro (rfl | ⟨j, a, b, c⟩)
    · exact .refl _
    · exact c.snoc a b
/-- two events are of dependent letters -/
def de (L : List (List Nat)) (w : List Nat) (j k : Nat) : Bool := dl L (w.getD j 0) (w.getD k 0)
open Classical in
noncomputable def rb (d : Nat → Nat → Bool) (ev : List Nat) (k : Nat) : Bool := decide (∃ e, e ∈ ev ∧ Ch d k e)
theorem rb_iff {d : Nat → Nat → Bool} {ev : List Nat} {k : Nat} : rb d ev k = true ↔ ∃ e, e ∈ ev ∧ Ch d k e := by simp [rb]
/-- all events below some -/
noncomputable def bel (L : List (List Nat)) (w ev : List Nat) : List Nat := (List.range w.length).filter (rb (de L w) ev)
def IsW (d : D) (w : List Nat) : Prop := d = .tup (w.map dN) ∨ d = .lst false (w.map dN)
def WIn (L : List (List Nat)) (w : List Nat) : Prop := w.length ≤ 1000 ∧ ∀ a, a ∈ w → a < L.length
theorem range3_down (n : Nat) (h : n ≤ 1000) : range3 ((n : Int) - 1) (-1) (-1) = some ((List.range n).map fun i => D.int ((n - 1 - i : Nat) : Int)) := by
  have hs : PySem.Builtin.Range.rangeSize ((n : Int) - 1) (-1) (-1) = n := by
    simp only [PySem.Builtin.Range.rangeSize]
    rw [if_neg (by decide)]
    by_cases h0 : n = 0
    · subst h0; rfl
    · rw [if_pos (by omega)]; simp
  have hsm : PySem.Builtin.Range.small ((n : Int) - 1) (-1) (-1) = true := by
    have f1 : PySem.Builtin.Range.rangeFitsLong ((n : Int) - 1) = true := by
      simp only [PySem.Builtin.Range.rangeFitsLong, Bool.and_eq_true, decide_eq_true_eq]; omega
    have f2 : PySem.Builtin.Range.rangeFitsLong (-1) = true := by decide
    have f3 : PySem.Builtin.Range.rangeFitsLong (n : Int) = true := by
      simp only [PySem.Builtin.Range.rangeFitsLong, Bool.and_eq_true, decide_eq_true_eq]; omega
    simp [PySem.Builtin.Range.small, hs, f1, f2, f3]
  rw [range3, if_pos ⟨by decide, by decide, hsm, by rw [hs]; omega⟩, hs]
  simp
  intro i hi
  omega
def eDown (n i : Nat) : D := .int ((n - 1 - i : Nat) : Int)
@[local simp] theorem eDown_ap (n i : Nat) : eDown n i = .int ((n - 1 - i : Nat) : Int) := rfl
theorem range3_downE (n : Nat) (h : n ≤ 1000) : range3 ((n : Int) - 1) (-1) (-1) = some ((List.range n).map (eDown n)) := range3_down n h
/-- what below_all has found when it has come down to place n - k -/
noncomputable def fd (L : List (List Nat)) (w ev : List Nat) (k : Nat) : List Nat := (((List.range w.length).drop (w.length - k)).filter (rb (de L w) ev)).reverse
theorem fd_succ {L : List (List Nat)} {w ev : List Nat} {k : Nat} (hk : k < w.length) :
    fd L w ev (k + 1) = if rb (de L w) ev (w.length - 1 - k) then fd L w ev k ++ [w.length - 1 - k] else fd L w ev k := by
  have h1 : w.length - (k + 1) < (List.range w.length).length := by simp; omega
  have h2 : (List.range w.length).drop (w.length - (k + 1)) = (w.length - 1 - k) :: (List.range w.length).drop (w.length - k) := by
    rw [List.drop_eq_getElem_cons h1]
    simp only [List.getElem_range]
    congr 1
    · omega
    · congr 1; omega
  simp only [fd, h2, List.filter_cons]
  by_cases h : rb (de L w) ev (w.length - 1 - k) = true
  · simp [h]
  · simp [h]
theorem fd_mem {L : List (List Nat)} {w ev : List Nat} {k : Nat} {x : Nat} (hk : k ≤ w.length) : x ∈ fd L w ev k ↔ w.length - k ≤ x ∧ x < w.length ∧ rb (de L w) ev x = true := by
  simp only [fd, List.mem_reverse, List.mem_filter]
  have : x ∈ (List.range w.length).drop (w.length - k) ↔ w.length - k ≤ x ∧ x < w.length := by
    rw [List.mem_iff_getElem]
    constructor
    · rintro ⟨i, hi, e⟩
      simp at hi e; omega
    · rintro ⟨a, b⟩
      exact ⟨x - (w.length - k), by simp; omega, by simp; omega⟩
  rw [this]
  constructor
  · rintro ⟨⟨a, b⟩, c⟩; exact ⟨a, b, c⟩
  · rintro ⟨a, b, c⟩; exact ⟨⟨a, b⟩, c⟩
theorem fd_zero {L : List (List Nat)} {w ev : List Nat} : fd L w ev 0 = [] := by
  simp only [fd, Nat.sub_zero]; rw [List.drop_eq_nil_of_le (by simp)]; rfl
theorem fd_all {L : List (List Nat)} {w ev : List Nat} : (fd L w ev w.length).reverse = bel L w ev := by simp [fd, bel]
theorem rb_step {L : List (List Nat)} {w ev : List Nat} {k : Nat} (hk : k < w.length) (he : ∀ e, e ∈ ev → e < w.length) :
    rb (de L w) ev (w.length - 1 - k) = (decide (w.length - 1 - k ∈ ev) || (fd L w ev k).any fun s => decide (w.length - 1 - k < s) && de L w (w.length - 1 - k) s) := by
  rw [Bool.eq_iff_iff, rb_iff]
  simp only [Bool.or_eq_true, decide_eq_true_eq, List.any_eq_true, Bool.and_eq_true]
  constructor
  · rintro ⟨e, h1, h2⟩
    rcases ch_head.mp h2 with rfl | ⟨j, a, b, c⟩
    · exact .inl h1
    · have := c.le
      have := he e h1
      exact .inr ⟨j, (fd_mem (by omega)).mpr ⟨by omega, by omega, rb_iff.mpr ⟨e, h1, c⟩⟩, a, b⟩
  · rintro (h | ⟨s, h1, h2, h3⟩)
    · exact ⟨_, h, .refl _⟩
    · obtain ⟨_, _, h4⟩ := (fd_mem (by omega)).mp h1
      obtain ⟨e, h5, h6⟩ := rb_iff.mp h4
      exact ⟨e, h5, .cons h2 h3 h6⟩
def BelowOk (g : Callee) : Prop := ∀ (C : Nat) (L : List (List Nat)) (w ev : List Nat) (dw : D), IsW dw w → WIn L w → (∀ e, e ∈ ev → e < w.length) →
  g [Al C L, dw, .lst false (ev.map dN)] = .ok (.lst true ((bel L w ev).map dN)) []
theorem below_in {G : Env0A} {W : Nat} (h : Has G 2 IndOk) (hW : 1000000 ≤ W) {C : Nat} {L : List (List Nat)} {w ev : List Nat} {dw : D} (hd : IsW dw w) (hw : WIn L w) (k : Nat) (hk : k < w.length) (b : Bool) (j6 : Option D) (F : List Nat) (hF : ∀ x, x ∈ F → x < w.length) (hl : F.length ≤ 1000) :
    ∃ x, forV (fun s => exs G W [3] b_below_all_1 s) (.name 6) 3 W 0 [some (Al C L), some dw, some (.lst false (ev.map dN)), some (.lst true (F.map dN)), some (.int (k : Nat)), some (.bl b), j6] =
      .nx [some (Al C L), some dw, some (.lst false (ev.map dN)), some (.lst true (F.map dN)), some (.int (k : Nat)), some (.bl (b || F.any fun s => decide (k < s) && de L w k s)), x] := by
  obtain ⟨g, hg, hi⟩ := h
  obtain ⟨s', e, j, hs⟩ := forV_ok (st := fun s => exs G W [3] b_below_all_1 s) (g := .name 6) (i := 3) dN (fun _ => rfl) F (by decide) W (by omega)
    (fun n s => ∃ j, s = [some (Al C L), some dw, some (.lst false (ev.map dN)), some (.lst true (F.map dN)), some (.int (k : Nat)), some (.bl (b || (F.take n).any fun s => decide (k < s) && de L w k s)), j])
    (s := [some (Al C L), some dw, some (.lst false (ev.map dN)), some (.lst true (F.map dN)), some (.int (k : Nat)), some (.bl b), j6]) ⟨j6, by simp⟩
    (fun n s ⟨j, hs⟩ => by rw [hs]; rfl)
    fun n hn s ⟨j, hs⟩ => by
      subst hs
      have hx := hF F[n] (List.getElem_mem hn)
      have ht : (F.take (n + 1)).any (fun s => decide (k < s) && de L w k s) = ((F.take n).any (fun s => decide (k < s) && de L w k s) || (decide (k < F[n]) && de L w k F[n])) := by
        rw [List.take_succ_eq_append_getElem hn, List.any_append]; simp
      have hi := hi C L w[k] w[F[n]] (hw.2 _ (List.getElem_mem hk)) (hw.2 _ (List.getElem_mem hx))
      have hde : de L w k F[n] = dl L w[k] w[F[n]] := by simp [de, hk, hx]
      rw [ht, hde]
      generalize (F.take n).any (fun s => decide (k < s) && de L w k s) = t
      simp at hi
      rcases hd with rfl | rfl
      · by_cases hlt : k < F[n] <;> cases b <;> cases t <;> simp -implicitDefEqProofs [b_below_all_1, hg, hi, hk, hx, hlt]
      · by_cases hlt : k < F[n] <;> cases b <;> cases t <;> simp -implicitDefEqProofs [b_below_all_1, hg, hi, hk, hx, hlt]
  refine ⟨j, ?_⟩
  rw [e, hs]; simp
theorem below_ok {G : Env0A} {W : Nat} (h : Has G 2 IndOk) (hW : 1000000 ≤ W) : BelowOk (runF G W f_below_all) := by
  intro C L w ev dw hd hw he
  have := for_ok (st := fun s => exs G W [] b_below_all_2 s) (g := .name 4) (eDown w.length) (List.range w.length)
    (fun k s => ∃ j4 j5 j6, s = [some (Al C L), some dw, some (.lst false (ev.map dN)), some (.lst true ((fd L w ev k).map dN)), j4, j5, j6])
    (s := [some (Al C L), some dw, some (.lst false (ev.map dN)), some (.lst true []), none, none, none]) ⟨none, none, none, by rw [fd_zero]; rfl⟩ fun k hk s hs => by
      obtain ⟨j4, j5, j6, rfl⟩ := hs
      simp at hk
      have hk' : w.length - 1 - k < w.length := by omega
      have hfl : ∀ k, (fd L w ev k).length ≤ 1000 := fun k => by
        have h1 : (fd L w ev k).length ≤ w.length := by
          simp only [fd, List.length_reverse]
          refine Nat.le_trans (List.length_filter_le _ _) ?_
          simp
        have := hw.1
        omega
      have hfk := hfl k
      have hf2 : (fd L w ev k).length < 16777216 := by omega
      obtain ⟨x, e⟩ := below_in (W := W) h hW (C := C) (ev := ev) hd hw (w.length - 1 - k) hk' (decide (w.length - 1 - k ∈ ev)) j6 (fd L w ev k) (fun x hx => ((fd_mem (by omega)).mp hx).2.1) hfk
      rw [← rb_step hk he] at e
      rw [fd_succ hk]
      simp at e
      cases hb : rb (de L w) ev (w.length - 1 - k)
      · rw [hb] at e
        simp -implicitDefEqProofs [b_below_all_2, hk, e]
      · rw [hb] at e
        simp -implicitDefEqProofs [b_below_all_2, hk, e, hf2]
  obtain ⟨s', e, j4, j5, j6, rfl⟩ := this
  have hz : w.length ≤ 1000 := hw.1
  have h3 := range3_downE w.length hz
  simp at e
  have hfa := fd_all (L := L) (w := w) (ev := ev)
  rcases hd with rfl | rfl
  · simp -implicitDefEqProofs [runF, f_below_all_eq, g_below_all, h3, e, ← List.map_reverse, hfa]
  · simp -implicitDefEqProofs [runF, f_below_all_eq, g_below_all, h3, e, ← List.map_reverse, hfa]
/-! Abm4: events at a place, views, the newest; the matrix of what is below -/
def evAt (L : List (List Nat)) (w : List Nat) (p : Nat) : List Nat := (List.range w.length).filter fun k => decide (p ∈ L.getD (w.getD k 0) [])
theorem evAt_lt {L : List (List Nat)} {w : List Nat} {p e : Nat} (h : e ∈ evAt L w p) : e < w.length := by
  simp only [evAt, List.mem_filter, List.mem_range] at h; exact h.1
def EvAtOk (g : Callee) : Prop := ∀ (C : Nat) (L : List (List Nat)) (w : List Nat) (dw : D) (p : Nat), IsW dw w → WIn L w → g [Al C L, dw, .int p] = .ok (.lst true ((evAt L w p).map dN)) []
theorem evAt_ok {G : Env0A} {W : Nat} : EvAtOk (runF G W f_events_at) := by
  intro C L w dw p hd hw
  have hc := compL_map (f := fun s => (evTo G W t_events_at_2 s).noRz) (g := fun s => (ev G W false e_events_at_1 s).noRz) (own := 3) (s := [some (Al C L), some dw, some (.int p), none]) rfl dN (fun k => decide (p ∈ L.getD (w.getD k 0) [])) dN (List.range w.length) fun x hx => by
    simp [-List.map_map] at hx
    have hx2 := hw.2 _ (List.getElem_mem hx)
    rcases hd with rfl | rfl
    · simp -implicitDefEqProofs [-List.map_map, t_events_at_2, e_events_at_1, hx, hx2]
    · simp -implicitDefEqProofs [-List.map_map, t_events_at_2, e_events_at_1, hx, hx2]
  have hl : w.length ≤ 1000 := hw.1
  have h1 : w.length < 1000000 := by omega
  have h2 : w.length ≤ 16777216 := by omega
  simp [-List.map_map] at hc
  simp only [evAt]
  rcases hd with rfl | rfl
  · simp -implicitDefEqProofs [-List.map_map, runF, f_events_at_eq, g_events_at, h1, h2, hc]
  · simp -implicitDefEqProofs [-List.map_map, runF, f_events_at_eq, g_events_at, h1, h2, hc]
def IsBelowOk (g : Callee) : Prop := ∀ (C : Nat) (L : List (List Nat)) (w : List Nat) (dw : D) (i j : Nat), IsW dw w → WIn L w → j < w.length → g [Al C L, dw, .int i, .int j] = .ok (.bl (decide (i ∈ bel L w [j]))) []
theorem isBelow_ok {G : Env0A} {W : Nat} (h : Has G 34 BelowOk) : IsBelowOk (runF G W f_is_below) := by
  intro C L w dw i j hd hw hj
  obtain ⟨g, hg, hb⟩ := h
  have hb := hb C L w [j] dw hd hw (by simpa using hj)
  simp [-List.map_map] at hb
  rcases hd with rfl | rfl
  · simp -implicitDefEqProofs [-List.map_map, runF, f_is_below_eq, g_is_below, hg, hb]
  · simp -implicitDefEqProofs [-List.map_map, runF, f_is_below_eq, g_is_below, hg, hb]
noncomputable def vw (L : List (List Nat)) (w : List Nat) (p : Nat) : List Nat := bel L w (evAt L w p)
def ViewOk (g : Callee) : Prop := ∀ (C : Nat) (L : List (List Nat)) (w : List Nat) (dw : D) (p : Nat), IsW dw w → WIn L w → g [Al C L, dw, .int p] = .ok (.lst true ((vw L w p).map dN)) []
theorem view_ok {G : Env0A} {W : Nat} (h : Has G 34 BelowOk) (h' : Has G 36 EvAtOk) : ViewOk (runF G W f_view) := by
  intro C L w dw p hd hw
  obtain ⟨g, hg, hb⟩ := h
  obtain ⟨g', hg', he⟩ := h'
  have hb := hb C L w (evAt L w p) dw hd hw (fun e h => evAt_lt h)
  have he := he C L w dw p hd hw
  simp [-List.map_map] at hb he
  simp only [vw]
  rcases hd with rfl | rfl
  · simp -implicitDefEqProofs [-List.map_map, runF, f_view_eq, g_view, hg, hg', hb, he]
  · simp -implicitDefEqProofs [-List.map_map, runF, f_view_eq, g_view, hg, hg', hb, he]
/-! the greatest of some numbers, or -1 -/
def mxF (m : Int) (l : List Nat) : Int := (l.map fun (n : Nat) => (n : Int)).foldl (fun m y => if m < y then y else m) m
theorem mxF_ge : ∀ (l : List Nat) (m : Int), m ≤ mxF m l
  | [], m => Int.le_refl _
  | x :: xs, m => by
    have := mxF_ge xs (if m < x then x else m)
    simp only [mxF, List.map_cons, List.foldl_cons] at *
    split at this <;> rename_i h <;> simp only [h, if_true, if_false]
    all_goals omega
def mxI (l : List Nat) : Int := mxF (-1) l
theorem maxI_l (l : List Nat) : maxI (-1 :: l.map fun (n : Nat) => (n : Int)) = some (mxI l) := rfl
theorem maxI_r (l : List Nat) : maxI ((l.map fun (n : Nat) => (n : Int)) ++ [-1]) = some (mxI l) := by
  cases l with
  | nil => rfl
  | cons x xs =>
    have h := mxF_ge xs x
    have h2 : (-1 : Int) < (x : Int) := by omega
    simp only [List.map_cons, List.cons_append, maxI, List.foldl_append, List.foldl_cons, List.foldl_nil, mxI, mxF, h2, if_true] at *
    rw [if_neg (by omega)]
theorem mxI_ge (l : List Nat) : -1 ≤ mxI l := mxF_ge l (-1)
noncomputable def thr (L : List (List Nat)) (w : List Nat) (p o : Nat) : List Nat := (vw L w p).filter fun k => decide (o ∈ L.getD (w.getD k 0) [])
noncomputable def nw (C : Nat) (L : List (List Nat)) (w : List Nat) (p : Nat) : List Int := (List.range C).map fun o => mxI (thr L w p o)
theorem vw_lt {L : List (List Nat)} {w : List Nat} {p e : Nat} (h : e ∈ vw L w p) : e < w.length := by
  simp only [vw, bel, List.mem_filter, List.mem_range] at h; exact h.1
theorem vw_len {L : List (List Nat)} {w : List Nat} {p : Nat} : (vw L w p).length ≤ w.length := by
  simp only [vw, bel]; refine Nat.le_trans (List.length_filter_le _ _) ?_; simp
theorem thr_len {L : List (List Nat)} {w : List Nat} {p o : Nat} : (thr L w p o).length ≤ w.length := Nat.le_trans (List.length_filter_le _ _) vw_len
def NewestOk (g : Callee) : Prop := ∀ (C : Nat) (L : List (List Nat)) (w : List Nat) (dw : D) (p : Nat), Alph C L → IsW dw w → WIn L w → g [Al C L, dw, .int p] = .ok (.tup ((nw C L w p).map D.int)) []
theorem newest_ok {G : Env0A} {W : Nat} (h : Has G 37 ViewOk) (hW : 1000000 ≤ W) : NewestOk (runF G W f_newest) := by
  intro C L w dw p hA hd hw
  obtain ⟨g, hg, hv⟩ := h
  have hv := hv C L w dw p hd hw
  have hl : w.length ≤ 1000 := hw.1
  have hvl := vw_len (L := L) (w := w) (p := p)
  have := for_ok (st := fun s => exs G W [] b_newest_3 s) (g := .name 5) dN (List.range C)
    (fun k s => ∃ j5 j6, s = [some (Al C L), some dw, some (.int p), some (.lst true ((vw L w p).map dN)), some (.lst true (((List.range k).map fun o => mxI (thr L w p o)).map D.int)), j5, j6, none])
    (s := [some (Al C L), some dw, some (.int p), some (.lst true ((vw L w p).map dN)), some (.lst true []), none, none, none]) ⟨none, none, rfl⟩ fun k hk s hs => by
      obtain ⟨j5, j6, rfl⟩ := hs
      simp [-List.map_map] at hk
      have hc := compV_map (W := W) (f := fun s => (evTo G W t_newest_2 s).noRz) (g := fun s => (ev G W false e_newest_1 s).noRz) (own := 7) (i := 3)
        (s := [some (Al C L), some dw, some (.int p), some (.lst true ((vw L w p).map dN)), some (.lst true (((List.range k).map fun o => mxI (thr L w p o)).map D.int)), some (.int k), j6, none]) rfl (by decide) dN (fun _ => rfl)
        (fun x => decide (k ∈ L.getD (w.getD x 0) [])) dN (vw L w p) (m := true) rfl (by simp only [sizeLine]; omega) W 0 (by omega) (by omega) fun x hx => by
          have hx := vw_lt hx
          have hx2 := hw.2 _ (List.getElem_mem hx)
          rcases hd with rfl | rfl
          · simp -implicitDefEqProofs [-List.map_map, t_newest_2, e_newest_1, hx, hx2]
          · simp -implicitDefEqProofs [-List.map_map, t_newest_2, e_newest_1, hx, hx2]
      rw [List.drop_zero] at hc
      change compV _ _ _ _ _ _ _ _ = Er.ok ((thr L w p k).map dN) _ at hc
      have ht := thr_len (L := L) (w := w) (p := p) (o := k)
      have h1 : k < 16777216 := by have := hA.c4; omega
      have h2 : (thr L w p k).length + 1 ≤ 16777216 := by omega
      have h3 := maxI_r (thr L w p k)
      simp [-List.map_map] at hc h3
      simp -implicitDefEqProofs [-List.map_map, b_newest_3, hk, hc, h1, h2, h3, List.range_succ]
  obtain ⟨s', e, j5, j6, rfl⟩ := this
  have h1 : C < 1000000 := by have := hA.c4; omega
  simp [-List.map_map] at hv e
  simp only [nw]
  rcases hd with rfl | rfl
  · simp -implicitDefEqProofs [-List.map_map, runF, f_newest_eq, g_newest, hg, hv, h1, e]
  · simp -implicitDefEqProofs [-List.map_map, runF, f_newest_eq, g_newest, hg, hv, h1, e]
def NumbersOk (g : Callee) : Prop := ∀ (l : List Int) (C : Nat) (m : Int), l.length = C → (∀ x, x ∈ l → m ≤ x) → g [.tup (l.map D.int), .int C, .int m] = .ok (.bl true) []
def IsIntOk (g : Callee) : Prop := ∀ i : Int, g [.int i] = .ok (.bl true) []
theorem isInt_ok {G : Env0A} {W : Nat} : IsIntOk (runF G W f_l_is_integer) := by
  intro i
  simp -implicitDefEqProofs [-List.map_map, runF, f_l_is_integer_eq, g_l_is_integer]
theorem numbers_ok {G : Env0A} {W : Nat} (h : Has G 19 IsIntOk) : NumbersOk (runF G W f_l_numbers) := by
  intro l C m hl hm
  obtain ⟨g, hg, hi⟩ := h
  have := for_ok (st := fun s => exs G W [] b_l_numbers_1 s) (g := .name 3) D.int l (fun _ s => ∃ j, s = [some (.tup (l.map D.int)), some (.int C), some (.int m), j])
    (s := [some (.tup (l.map D.int)), some (.int C), some (.int m), none]) ⟨none, rfl⟩ fun k hk s hs => by
      obtain ⟨j, rfl⟩ := hs
      have h1 := hi l[k]
      have h2 : ¬ l[k] < m := by have := hm l[k] (List.getElem_mem hk); omega
      simp -implicitDefEqProofs [-List.map_map, b_l_numbers_1, hg, h1, h2]
  obtain ⟨s', e, j, rfl⟩ := this
  simp -implicitDefEqProofs [-List.map_map, runF, f_l_numbers_eq, g_l_numbers, hl, e]
/-! Abm5: the law's matrix of what is below -/
def row (n : Nat) (f : Nat → Bool) : D := .lst true ((List.range n).map fun k => .bl (f k))
def mat (n : Nat) (m : Nat → Nat → Bool) : List D := (List.range n).map fun i => row n (m i)
theorem row_congr {n : Nat} {f g : Nat → Bool} (h : ∀ a, a < n → f a = g a) : row n f = row n g := by
  simp only [row]; congr 1; apply List.map_congr_left; intro a ha; rw [h a (by simpa using ha)]
theorem mat_congr {n : Nat} {f g : Nat → Nat → Bool} (h : ∀ a, a < n → ∀ b, b < n → f a b = g a b) : mat n f = mat n g := by
  simp only [mat]; apply List.map_congr_left; intro a ha; exact row_congr (h a (by simpa using ha))
@[local simp] theorem mat_len {n : Nat} {m : Nat → Nat → Bool} : (mat n m).length = n := by simp [mat]
@[local simp] theorem mat_getE {n : Nat} {m : Nat → Nat → Bool} {i : Nat} (h : i < (mat n m).length) : (mat n m)[i] = row n (m i) := by simp [mat]
@[local simp] theorem mat_get {n : Nat} {m : Nat → Nat → Bool} {i : Nat} (h : i < n) : (mat n m)[i]? = some (row n (m i)) := by simp [mat, h]
@[local simp] theorem row_ix {n : Nat} {f : Nat → Bool} {k : Nat} (h : k < n) : getIx (row n f) (k : Int) = some (.bl (f k)) := by simp [row, h]
theorem row_set {n : Nat} {f : Nat → Bool} {k : Nat} {b : Bool} (h : k < n) : fSet (k : Int) (.bl b) (row n f) = some (row n fun x => if x = k then b else f x) := by
  simp only [row, fSet_lst, ixN_natq, List.length_map, List.length_range, h, if_true, Option.map_some, Option.some.injEq]
  congr 1
  apply List.ext_getElem
  · simp
  · intro a ha hb
    simp [-List.map_map] at hb
    simp only [List.getElem_set, List.getElem_map, List.getElem_range]
    by_cases e : k = a
    · subst e; simp
    · have : ¬ a = k := fun h => e h.symm
      simp [e, this]
theorem mat_set {n : Nat} {m : Nat → Nat → Bool} {i : Nat} {f : Nat → Bool} (h : i < n) : (mat n m).set i (row n f) = mat n fun a => if a = i then f else m a := by
  apply List.ext_getElem
  · simp
  · intro a ha hb
    simp [-List.map_map] at hb
    simp only [mat, List.getElem_set, List.getElem_map, List.getElem_range]
    by_cases e : i = a
    · subst e; simp
    · have : ¬ a = i := fun h => e h.symm
      simp [e, this]
theorem mat_upd {n : Nat} {m : Nat → Nat → Bool} {i k : Nat} {b : Bool} (hi : i < n) (hk : k < n) :
    updD [.ix (i : Int)] (fSet (k : Int) (.bl b)) (.lst true (mat n m)) = some (.lst true (mat n fun a c => if a = i ∧ c = k then b else m a c)) := by
  simp only [updD, ixN_natq, mat_len, hi, if_true, Option.bind_some, mat_get hi, row_set hk, Option.map_some, Option.some.injEq]
  rw [mat_set hi]
  congr 1
  apply mat_congr
  intro a _ c _
  by_cases e : a = i
  · subst e; by_cases e2 : c = k <;> simp [e2]
  · simp [e]
theorem lb_in {G : Env0A} {W : Nat} (n k j : Nat) (hj : j < k) (hk : k < n) (m0 : Nat → Nat → Bool) (dL dw : D) (j6 : Option D) :
    ∃ x, forL (fun s => exs G W [] b_l_below_3 s) (.name 6) ((List.range n).map dN) [some dL, some dw, some (.int (n : Nat)), some (.lst true (mat n m0)), some (.int (k : Nat)), some (.int (j : Nat)), j6] =
      .nx [some dL, some dw, some (.int (n : Nat)), some (.lst true (mat n fun a b => if b = k then (m0 a k || m0 a j) else m0 a b)), some (.int (k : Nat)), some (.int (j : Nat)), x] := by
  have := for_ok (st := fun s => exs G W [] b_l_below_3 s) (g := .name 6) dN (List.range n)
    (fun i s => ∃ x, s = [some dL, some dw, some (.int (n : Nat)), some (.lst true (mat n fun a b => if b = k ∧ a < i then (m0 a k || m0 a j) else m0 a b)), some (.int (k : Nat)), some (.int (j : Nat)), x])
    (s := [some dL, some dw, some (.int (n : Nat)), some (.lst true (mat n m0)), some (.int (k : Nat)), some (.int (j : Nat)), j6])
    ⟨j6, by congr 4; simp⟩ fun i hi s hs => by
      obtain ⟨x, rfl⟩ := hs
      simp [-List.map_map] at hi
      have hjn : j < n := by omega
      have hkj : ¬ j = k := by omega
      by_cases hb : m0 i j = true
      · simp -implicitDefEqProofs [-List.map_map, b_l_below_3, hi, hk, hjn, hkj, hb, row_set, mat_set]
        apply mat_congr
        intro a _ b _
        by_cases h1 : b = k
        · subst h1
          by_cases h2 : a = i
          · subst h2; simp [hb]
          · by_cases h3 : a < i
            · have : a < i + 1 := by omega
              simp [h2, h3, this]
            · have : ¬ a < i + 1 := by omega
              simp [h2, h3, this]
        · by_cases h2 : a = i <;> simp [h1, h2]
      · simp -implicitDefEqProofs [-List.map_map, b_l_below_3, hi, hk, hjn, hkj, hb]
        apply mat_congr
        intro a _ b _
        by_cases h1 : b = k
        · subst h1
          by_cases h2 : a = i
          · subst h2; simp [hb]
          · by_cases h3 : a < i
            · have : a < i + 1 := by omega
              simp [h2, h3, this]
            · have : ¬ a < i + 1 := by omega
              simp [h2, h3, this]
        · simp [h1]
  obtain ⟨s', e, x, rfl⟩ := this
  refine ⟨x, ?_⟩
  simp only [List.length_range] at e
  rw [e]
  congr 5
  simp only [Option.some.injEq, D.lst.injEq, true_and]
  apply mat_congr
  intro a ha b _
  simp [ha]
/-- the matrix when columns below k are done, and of column k what comes of places below J -/
def MOk (d : Nat → Nat → Bool) (n k J : Nat) (m : Nat → Nat → Bool) : Prop := ∀ a, a < n → ∀ b, b < n → (m a b = true ↔ if b < k then Ch d a b else if b = k then (a = k ∨ ∃ j, j < J ∧ d j k = true ∧ Ch d a j) else a = b)
theorem MOk_next {d : Nat → Nat → Bool} {n k : Nat} {m : Nat → Nat → Bool} (h : MOk d n k k m) : MOk d n (k + 1) 0 m := by
  intro a ha b hb
  rw [h a ha b hb]
  by_cases h1 : b < k
  · have : b < k + 1 := by omega
    simp [h1, this]
  · by_cases h2 : b = k
    · subst h2
      simp only [Nat.lt_irrefl, if_false, if_true, Nat.lt_succ_self]
      exact ch_tail.symm
    · have h3 : ¬ b < k + 1 := by omega
      simp only [h1, h2, h3, if_false]
      by_cases h4 : b = k + 1
      · subst h4; simp
      · simp [h4]
theorem lb_mid {G : Env0A} {W : Nat} (h : Has G 8 FreeOk) {C : Nat} {L : List (List Nat)} {w : List Nat} (hA : Alph C L) (hw : WIn L w) (k : Nat) (hk : k < w.length) {s : SA}
    (h0 : ∃ m j5 j6, s = [some (.lst false (L.map tN)), some (.tup (w.map dN)), some (.int (w.length : Nat)), some (.lst true (mat w.length m)), some (.int (k : Nat)), j5, j6] ∧ MOk (de L w) w.length k 0 m) :
    ∃ s', forL (fun s => exs G W [] b_l_below_4 s) (.name 5) ((List.range k).map dN) s = .nx s' ∧ ∃ m j5 j6, s' = [some (.lst false (L.map tN)), some (.tup (w.map dN)), some (.int (w.length : Nat)), some (.lst true (mat w.length m)), some (.int (k : Nat)), j5, j6] ∧ MOk (de L w) w.length k k m := by
  obtain ⟨g, hg, hf⟩ := h
  have := for_ok (st := fun s => exs G W [] b_l_below_4 s) (g := .name 5) dN (List.range k)
    (fun J s => ∃ m j5 j6, s = [some (.lst false (L.map tN)), some (.tup (w.map dN)), some (.int (w.length : Nat)), some (.lst true (mat w.length m)), some (.int (k : Nat)), j5, j6] ∧ MOk (de L w) w.length k J m)
    h0 fun j hj s hs => by
      obtain ⟨m, j5, j6, rfl, hm⟩ := hs
      simp [-List.map_map] at hj
      have hjn : j < w.length := by omega
      have hf := hf C L w[j] w[k] hA (hw.2 _ (List.getElem_mem hjn)) (hw.2 _ (List.getElem_mem hk))
      have hde : de L w j k = dl L w[j] w[k] := by simp [de, hk, hjn]
      obtain ⟨x, e⟩ := lb_in (G := G) (W := W) w.length k j hj hk m (.lst false (L.map tN)) (.tup (w.map dN)) j6
      have h1 : w.length < 1000000 := by have := hw.1; omega
      by_cases hb : dl L w[j] w[k] = true
      · have hm' : MOk (de L w) w.length k (j + 1) fun a b => if b = k then (m a k || m a j) else m a b := by
          intro a ha b hbn
          by_cases h2 : b = k
          · subst h2
            have e1 := hm a ha b hk
            have e2 := hm a ha j hjn
            simp only [Nat.lt_irrefl, if_false, if_true] at e1 ⊢
            simp only [hj, if_true] at e2
            rw [Bool.or_eq_true, e1, e2]
            constructor
            · rintro ((h | ⟨j', h1, h2, h3⟩) | h)
              · exact .inl h
              · exact .inr ⟨j', by omega, h2, h3⟩
              · exact .inr ⟨j, by omega, by rw [hde]; exact hb, h⟩
            · rintro (h | ⟨j', h1, h2, h3⟩)
              · exact .inl (.inl h)
              · by_cases h4 : j' = j
                · subst h4; exact .inr h3
                · exact .inl (.inr ⟨j', by omega, h2, h3⟩)
          · simp only [h2, if_false]
            rw [hm a ha b hbn]
            simp only [h2, if_false]
        rw [hb] at hf
        simp [-List.map_map] at hf e
        simp -implicitDefEqProofs [-List.map_map, b_l_below_4, hg, hf, hk, hjn, h1, e]
        exact ⟨_, rfl, hm'⟩
      · have hm' : MOk (de L w) w.length k (j + 1) m := by
          intro a ha b hbn
          rw [hm a ha b hbn]
          by_cases h2 : b = k
          · subst h2
            simp only [Nat.lt_irrefl, if_false, if_true]
            constructor
            · rintro (h | ⟨j', h1, h2, h3⟩)
              · exact .inl h
              · exact .inr ⟨j', by omega, h2, h3⟩
            · rintro (h | ⟨j', h1, h2, h3⟩)
              · exact .inl h
              · by_cases h4 : j' = j
                · subst h4; rw [hde] at h2; exact absurd h2 hb
                · exact .inr ⟨j', by omega, h2, h3⟩
          · simp only [h2, if_false]
        have hb' : dl L w[j] w[k] = false := by simpa using hb
        rw [hb'] at hf
        simp [-List.map_map] at hf
        simp -implicitDefEqProofs [-List.map_map, b_l_below_4, hg, hf, hk, hjn]
        exact ⟨_, rfl, hm'⟩
  simpa using this
def I_lb (L : List (List Nat)) (w : List Nat) (k : Nat) (s : SA) : Prop := ∃ m j4 j5 j6, s = [some (.lst false (L.map tN)), some (.tup (w.map dN)), some (.int (w.length : Nat)), some (.lst true (mat w.length m)), j4, j5, j6] ∧ MOk (de L w) w.length k 0 m
theorem lb_out {G : Env0A} {W : Nat} (h : Has G 8 FreeOk) {C : Nat} {L : List (List Nat)} {w : List Nat} (hA : Alph C L) (hw : WIn L w) {s : SA} (h0 : I_lb L w 0 s) :
    ∃ s', forL (fun s => exs G W [] b_l_below_5 s) (.name 4) ((List.range w.length).map dN) s = .nx s' ∧ I_lb L w w.length s' := by
  have := for_ok (st := fun s => exs G W [] b_l_below_5 s) (g := .name 4) dN (List.range w.length) (I_lb L w) h0 fun k hk s hs => by
      obtain ⟨m, j4, j5, j6, rfl, hm⟩ := hs
      simp [-List.map_map] at hk
      have hk1 : k < 1000000 := by have := hw.1; omega
      have hx := lb_mid (G := G) (W := W) h hA hw k hk (s := [some (.lst false (L.map tN)), some (.tup (w.map dN)), some (.int (w.length : Nat)), some (.lst true (mat w.length m)), some (.int (k : Nat)), j5, j6]) ⟨m, j5, j6, rfl, hm⟩
      apply exE hx
      intro s' hx
      have e := hx.1
      have hz := hx.2
      apply exE hz
      intro m' hy
      apply exE hy
      intro j5' hy
      apply exE hy
      intro j6' hy
      have hm' := hy.2
      rw [hy.1] at e
      simp -implicitDefEqProofs [-List.map_map, b_l_below_5, hk, hk1, e]
      exact ⟨_, _, _, _, rfl, MOk_next hm'⟩
  simpa using this
open Classical in
noncomputable def chb (d : Nat → Nat → Bool) (a b : Nat) : Bool := decide (Ch d a b)
theorem chb_iff {d : Nat → Nat → Bool} {a b : Nat} : chb d a b = true ↔ Ch d a b := by simp [chb]
def LBelowOk (g : Callee) : Prop := ∀ (C : Nat) (L : List (List Nat)) (w : List Nat), Alph C L → WIn L w → g [.lst false (L.map tN), .tup (w.map dN)] = .ok (.lst true (mat w.length (chb (de L w)))) []
theorem lbelow_ok {G : Env0A} {W : Nat} (h : Has G 8 FreeOk) : LBelowOk (runF G W f_l_below) := by
  intro C L w hA hw
  have hl : w.length ≤ 1000 := hw.1
  have h1 : w.length < 1000000 := by omega
  have h2 : w.length ≤ 16777216 := by omega
  have hc := compL_map (f := fun s => (evTo G W .none s).noRz) (g := fun s => (ev G W false e_l_below_2 s).noRz) (own := 5)
    (s := [some (.lst false (L.map tN)), some (.tup (w.map dN)), some (.int (w.length : Nat)), none, none, none, none]) rfl dN (fun _ => true) (fun j => row w.length fun k => decide (j = k)) (List.range w.length) fun j hj => by
      have hc := compL_map (f := fun s => (evTo G W .none s).noRz) (g := fun s => (ev G W false e_l_below_1 s).noRz) (own := 4)
        (s := [some (.lst false (L.map tN)), some (.tup (w.map dN)), some (.int (w.length : Nat)), none, none, some (dN j), none]) rfl dN (fun _ => true) (fun k => .bl (decide (j = k))) (List.range w.length) fun k hk => by
          simp -implicitDefEqProofs [-List.map_map, e_l_below_1]
          omega
      simp [-List.map_map] at hc
      simp -implicitDefEqProofs [-List.map_map, e_l_below_2, h1, h2, hc, row]
  have hinit : MOk (de L w) w.length 0 0 fun j k => decide (j = k) := by
    intro a _ b _
    simp
    intro h; omega
  have := lb_out (W := W) h hA hw (s := [some (.lst false (L.map tN)), some (.tup (w.map dN)), some (.int (w.length : Nat)), some (.lst true (mat w.length fun j k => decide (j = k))), none, none, none])
    ⟨_, none, none, none, rfl, hinit⟩
  obtain ⟨s', e, m, j4, j5, j6, rfl, hm⟩ := this
  have hmat : mat w.length m = mat w.length (chb (de L w)) := by
    apply mat_congr
    intro a ha b hb
    rw [Bool.eq_iff_iff, chb_iff]
    rw [hm a ha b hb]
    simp [hb]
  change compL _ _ _ _ _ = Er.ok _ _ at hc
  simp [-List.map_map] at hc e
  have hmm : (List.range w.length).map (fun j => row w.length fun k => decide (j = k)) = mat w.length fun j k => decide (j = k) := rfl
  rw [hmm] at hc
  simp -implicitDefEqProofs [-List.map_map, runF, f_l_below_eq, g_l_below, h1, h2, hc, e, hmat]
/-! Abm6: the law of k07 -/
@[local simp] theorem mat_get2 {m : Bool} {n : Nat} {f : Nat → Nat → Bool} {i : Nat} (h : i < n) : getIx (.lst m (mat n f)) (i : Int) = some (row n (f i)) := by
  simp [h]
def LViewOk (g : Callee) : Prop := ∀ (C : Nat) (L : List (List Nat)) (w : List Nat) (p : Nat), Alph C L → WIn L w → g [.lst false (L.map tN), .tup (w.map dN), .int p] = .ok (.lst true ((vw L w p).map dN)) []
theorem lview_ok {G : Env0A} {W : Nat} (h : Has G 40 LBelowOk) (hW : 1000000 ≤ W) : LViewOk (runF G W f_l_view) := by
  intro C L w p hA hw
  obtain ⟨g, hg, hb⟩ := h
  have hb := hb C L w hA hw
  have hl : w.length ≤ 1000 := hw.1
  have h1 : w.length < 1000000 := by omega
  have h2 : w.length ≤ 16777216 := by omega
  have hel : (evAt L w p).length ≤ w.length := by
    simp only [evAt]; refine Nat.le_trans (List.length_filter_le _ _) ?_; simp
  have hc1 := compL_map (f := fun s => (evTo G W t_l_view_2 s).noRz) (g := fun s => (ev G W false e_l_view_1 s).noRz) (own := 5)
    (s := [some (.lst false (L.map tN)), some (.tup (w.map dN)), some (.int p), some (.lst true (mat w.length (chb (de L w)))), none, none, none]) rfl dN (fun k => decide (p ∈ L.getD (w.getD k 0) [])) dN (List.range w.length) fun x hx => by
      simp [-List.map_map] at hx
      have hx2 := hw.2 _ (List.getElem_mem hx)
      simp -implicitDefEqProofs [-List.map_map, t_l_view_2, e_l_view_1, hx, hx2]
  change compL _ _ _ _ _ = Er.ok ((evAt L w p).map dN) _ at hc1
  have hc3 := compL_map (f := fun s => (evTo G W t_l_view_6 s).noRz) (g := fun s => (ev G W false e_l_view_5 s).noRz) (own := 6)
    (s := [some (.lst false (L.map tN)), some (.tup (w.map dN)), some (.int p), some (.lst true (mat w.length (chb (de L w)))), some (.lst true ((evAt L w p).map dN)), none, none]) rfl dN
    (rb (de L w) (evAt L w p)) dN (List.range w.length) fun j hj => by
      simp [-List.map_map] at hj
      have hc2 := compV_map (W := W) (f := fun s => (evTo G W t_l_view_4 s).noRz) (g := fun s => (ev G W false e_l_view_3 s).noRz) (own := 5) (i := 4)
        (s := [some (.lst false (L.map tN)), some (.tup (w.map dN)), some (.int p), some (.lst true (mat w.length (chb (de L w)))), some (.lst true ((evAt L w p).map dN)), none, some (dN j)]) rfl (by decide) dN (fun _ => rfl)
        (fun k => chb (de L w) j k) dN (evAt L w p) (m := true) rfl (by simp only [sizeLine]; omega) W 0 (by omega) (by omega) fun x hx => by
          have hx := evAt_lt hx
          simp -implicitDefEqProofs [-List.map_map, t_l_view_4, e_l_view_3, hx, hj]
      rw [List.drop_zero] at hc2
      have hr : rb (de L w) (evAt L w p) j = decide (0 < ((evAt L w p).filter (fun k => chb (de L w) j k)).length) := by
        rw [Bool.eq_iff_iff, rb_iff, decide_eq_true_eq, List.length_pos_iff_exists_mem]
        simp only [List.mem_filter, chb_iff]
      rw [hr]
      generalize hq : (evAt L w p).filter (fun k => chb (de L w) j k) = q at hc2
      simp [-List.map_map] at hc2
      simp -implicitDefEqProofs [-List.map_map, t_l_view_6, e_l_view_5, hj, hc2]
  change compL _ _ _ _ _ = Er.ok ((vw L w p).map dN) _ at hc3
  simp -implicitDefEqProofs [-List.map_map, runF, f_l_view_eq, g_l_view, hg, hb, h1, h2, hc1, hc3]
def LNewestOk (g : Callee) : Prop := ∀ (C : Nat) (L : List (List Nat)) (w : List Nat) (p : Nat), Alph C L → WIn L w → g [.int C, .lst false (L.map tN), .tup (w.map dN), .int p] = .ok (.lst true ((nw C L w p).map D.int)) []
theorem lnewest_ok {G : Env0A} {W : Nat} (h : Has G 41 LViewOk) (hW : 1000000 ≤ W) : LNewestOk (runF G W f_l_newest) := by
  intro C L w p hA hw
  obtain ⟨g, hg, hv⟩ := h
  have hv := hv C L w p hA hw
  have hl : w.length ≤ 1000 := hw.1
  have hvl := vw_len (L := L) (w := w) (p := p)
  have := for_ok (st := fun s => exs G W [] b_l_newest_3 s) (g := .name 6) dN (List.range C)
    (fun k s => ∃ j6, s = [some (.int C), some (.lst false (L.map tN)), some (.tup (w.map dN)), some (.int p), some (.lst true ((vw L w p).map dN)), some (.lst true (((List.range k).map fun o => mxI (thr L w p o)).map D.int)), j6, none])
    (s := [some (.int C), some (.lst false (L.map tN)), some (.tup (w.map dN)), some (.int p), some (.lst true ((vw L w p).map dN)), some (.lst true []), none, none]) ⟨none, rfl⟩ fun k hk s hs => by
      obtain ⟨j6, rfl⟩ := hs
      simp [-List.map_map] at hk
      have hc := compV_map (W := W) (f := fun s => (evTo G W t_l_newest_2 s).noRz) (g := fun s => (ev G W false e_l_newest_1 s).noRz) (own := 7) (i := 4)
        (s := [some (.int C), some (.lst false (L.map tN)), some (.tup (w.map dN)), some (.int p), some (.lst true ((vw L w p).map dN)), some (.lst true (((List.range k).map fun o => mxI (thr L w p o)).map D.int)), some (.int k), none]) rfl (by decide) dN (fun _ => rfl)
        (fun x => decide (k ∈ L.getD (w.getD x 0) [])) dN (vw L w p) (m := true) rfl (by simp only [sizeLine]; omega) W 0 (by omega) (by omega) fun x hx => by
          have hx := vw_lt hx
          have hx2 := hw.2 _ (List.getElem_mem hx)
          simp -implicitDefEqProofs [-List.map_map, t_l_newest_2, e_l_newest_1, hx, hx2]
      rw [List.drop_zero] at hc
      change compV _ _ _ _ _ _ _ _ = Er.ok ((thr L w p k).map dN) _ at hc
      have ht := thr_len (L := L) (w := w) (p := p) (o := k)
      have h1 : k < 16777216 := by have := hA.c4; omega
      have h2 : 1 + (thr L w p k).length ≤ 16777216 := by omega
      have h2' : (thr L w p k).length + 1 ≤ 16777216 := by omega
      have h3 := maxI_l (thr L w p k)
      try simp [-List.map_map] at hc
      try simp [-List.map_map] at h3
      simp -implicitDefEqProofs [-List.map_map, b_l_newest_3, hk, hc, h1, h2, h2', h3, List.range_succ]
  obtain ⟨s', e, j6, rfl⟩ := this
  have h1 : C < 1000000 := by have := hA.c4; omega
  simp [-List.map_map] at hv e
  simp only [nw]
  simp -implicitDefEqProofs [-List.map_map, runF, f_l_newest_eq, g_l_newest, hg, hv, h1, e]
theorem chb_bel {L : List (List Nat)} {w : List Nat} {i j : Nat} (hi : i < w.length) : decide (i ∈ bel L w [j]) = chb (de L w) i j := by
  rw [Bool.eq_iff_iff, chb_iff, decide_eq_true_eq]
  simp only [bel, List.mem_filter, List.mem_range, hi, true_and, rb_iff, List.mem_singleton]
  exact ⟨fun ⟨e, h1, h2⟩ => h1 ▸ h2, fun h => ⟨j, rfl, h⟩⟩
theorem law07_a {G : Env0A} {W : Nat} (h : Has G 35 IsBelowOk) {C : Nat} {L : List (List Nat)} {w : List Nat} (hw : WIn L w) (dr : D) (x0 : Option D) (i : Nat) (hi : i < w.length) (m : Bool) (j8 j9 j10 : Option D) :
    ∃ m' y8 y9, forL (fun s => exs G W [] b_law_k07_1 s) (.name 8) ((List.range w.length).map dN) [x0, some dr, some (.int C), some (.lst false (L.map tN)), some (.ins m 0 [.int C, .tup (L.map tN)]), some (.tup (w.map dN)), some (.lst true (mat w.length (chb (de L w)))), some (.int (i : Nat)), j8, j9, j10] =
      .nx [x0, some dr, some (.int C), some (.lst false (L.map tN)), some (.ins m' 0 [.int C, .tup (L.map tN)]), some (.tup (w.map dN)), some (.lst true (mat w.length (chb (de L w)))), some (.int (i : Nat)), y8, y9, j10] := by
  obtain ⟨g, hg, hb⟩ := h
  have := for_ok (st := fun s => exs G W [] b_law_k07_1 s) (g := .name 8) dN (List.range w.length)
    (fun _ s => ∃ m y8 y9, s = [x0, some dr, some (.int C), some (.lst false (L.map tN)), some (.ins m 0 [.int C, .tup (L.map tN)]), some (.tup (w.map dN)), some (.lst true (mat w.length (chb (de L w)))), some (.int (i : Nat)), y8, y9, j10])
    (s := [x0, some dr, some (.int C), some (.lst false (L.map tN)), some (.ins m 0 [.int C, .tup (L.map tN)]), some (.tup (w.map dN)), some (.lst true (mat w.length (chb (de L w)))), some (.int (i : Nat)), j8, j9, j10]) ⟨m, j8, j9, rfl⟩ fun j hj s hs => by
      obtain ⟨m, y8, y9, rfl⟩ := hs
      simp [-List.map_map] at hj
      have hb := hb C L w (.tup (w.map dN)) i j (.inl rfl) hw hj
      rw [chb_bel hi] at hb
      simp [-List.map_map] at hb
      cases m <;> simp -implicitDefEqProofs [-List.map_map, b_law_k07_1, hg, hb, hi, hj]
  obtain ⟨s', e, m', y8, y9, rfl⟩ := this
  exact ⟨m', y8, y9, e⟩
theorem law07_b {G : Env0A} {W : Nat} (hv : Has G 37 ViewOk) (hlv : Has G 41 LViewOk) (hn : Has G 38 NewestOk) (hnum : Has G 39 NumbersOk) (hln : Has G 42 LNewestOk)
    {C : Nat} {L : List (List Nat)} {w : List Nat} (hA : Alph C L) (hw : WIn L w) (m : Bool) (x0 x1 x6 x7 x8 j9 j10 : Option D) :
    ∃ s', forL (fun s => exs G W [] b_law_k07_2 s) (.name 10) ((List.range C).map dN) [x0, x1, some (.int C), some (.lst false (L.map tN)), some (.ins m 0 [.int C, .tup (L.map tN)]), some (.tup (w.map dN)), x6, x7, x8, j9, j10] = .nx s' := by
  obtain ⟨gv, hgv, hv⟩ := hv
  obtain ⟨glv, hglv, hlv⟩ := hlv
  obtain ⟨gn, hgn, hn⟩ := hn
  obtain ⟨gnum, hgnum, hnum⟩ := hnum
  obtain ⟨gln, hgln, hln⟩ := hln
  have := for_ok (st := fun s => exs G W [] b_law_k07_2 s) (g := .name 10) dN (List.range C)
    (fun _ s => ∃ m y9 y10, s = [x0, x1, some (.int C), some (.lst false (L.map tN)), some (.ins m 0 [.int C, .tup (L.map tN)]), some (.tup (w.map dN)), x6, x7, x8, y9, y10])
    (s := [x0, x1, some (.int C), some (.lst false (L.map tN)), some (.ins m 0 [.int C, .tup (L.map tN)]), some (.tup (w.map dN)), x6, x7, x8, j9, j10]) ⟨m, j9, j10, rfl⟩ fun p hp s hs => by
      obtain ⟨m, y9, y10, rfl⟩ := hs
      have h1 := hv C L w (.lst false (w.map dN)) p (.inr rfl) hw
      have h2 := hlv C L w p hA hw
      have h3 := hn C L w (.tup (w.map dN)) p hA (.inl rfl) hw
      have h4 := hnum (nw C L w p) C (-1) (by simp [nw]) (by
        intro x hx
        simp only [nw, List.mem_map] at hx
        obtain ⟨o, _, rfl⟩ := hx
        exact mxI_ge _)
      have h5 := hln C L w p hA hw
      simp [-List.map_map] at h1 h3
      cases m <;> simp -implicitDefEqProofs [-List.map_map, b_law_k07_2, hgv, hglv, hgn, hgnum, hgln, h1, h2, h3, h4, h5]
  obtain ⟨s', e, _⟩ := this
  exact ⟨s', e⟩
theorem law07 {G : Env0A} {W : Nat} (hD : Has G 5 DrawsOk) (hAl : Has G 7 AlphabetOk) (hI : Has G 1 InitOk) (hWd : Has G 14 WordOk) (hB : Has G 40 LBelowOk) (hT : Has G 6 TakeOk) (hib : Has G 35 IsBelowOk)
    (hv : Has G 37 ViewOk) (hlv : Has G 41 LViewOk) (hn : Has G 38 NewestOk) (hnum : Has G 39 NumbersOk) (hln : Has G 42 LNewestOk) (ns : List Int) : runF G W f_law_k07 [.scr ns] = .ok (.bl true) [] := by
  obtain ⟨gD, hgD, hD⟩ := hD
  obtain ⟨gA, hgA, hAl⟩ := hAl
  obtain ⟨gI, hgI, hI⟩ := hI
  obtain ⟨gW, hgW, hWd⟩ := hWd
  obtain ⟨gB, hgB, hB⟩ := hB
  obtain ⟨gT, hgT, hT⟩ := hT
  obtain ⟨xs, e1⟩ := hD ns 60 (by decide)
  obtain ⟨C, L, ys, e2, hA, hC4, hL5⟩ := hAl xs 4 5 (by decide) (by decide) (by decide) (by decide)
  have e3 := hI C L hA
  obtain ⟨w, zs, e4, hwl, hwa⟩ := hWd ys L.length 9 hA.l1 (by decide)
  have hw : WIn L w := ⟨by omega, hwa⟩
  have e5 := hB C L w hA hw
  have hC : C < 1000000 := by omega
  simp [-List.map_map] at e1 e2 e4
  by_cases h0 : 0 < w.length
  · obtain ⟨i, us, e6, hi⟩ := hT zs w.length h0
    obtain ⟨m', y8, y9, e7⟩ := law07_a (W := W) hib (C := C) hw (.lst true (us.map .int)) (some (.scr ns)) i hi true none none none
    obtain ⟨s', e8⟩ := law07_b (W := W) hv hlv hn hnum hln hA hw m' (some (.scr ns)) (some (.lst true (us.map .int))) (some (.lst true (mat w.length (chb (de L w))))) (some (.int (i : Nat))) y8 y9 none
    have hwz : w.length < 1000000 := by omega
    have h0' : w ≠ [] := by intro h; subst h; exact absurd h0 (by decide)
    simp -implicitDefEqProofs [-List.map_map, runF, f_law_k07_eq, g_law_k07, hgD, hgA, hgI, hgW, hgB, hgT, e1, e2, e3, e4, e5, e6, e7, e8, h0, h0', hC, hwz]
  · obtain ⟨s', e8⟩ := law07_b (W := W) hv hlv hn hnum hln hA hw true (some (.scr ns)) (some (.lst true (zs.map .int))) (some (.lst true (mat w.length (chb (de L w))))) none none none none
    have h0' : w = [] := by cases w with
      | nil => rfl
      | cons a l => exact absurd (by simp) h0
    subst h0'
    simp [-List.map_map] at e5 e8
    simp -implicitDefEqProofs [-List.map_map, runF, f_law_k07_eq, g_law_k07, hgD, hgA, hgI, hgW, hgB, hgT, e1, e2, e3, e4, e5, e8, hC]
/-! Abm7: more of loops; sorted numbers -/
/-- a search whose answer hangs on what is found -/
theorem for_findE {α : Type} {st : SA → Fl} {g : MG} (d : α → D) (e : α → D) (l : List α) (p : α → Bool) (I : Nat → SA → Prop) {s : SA} (h0 : I 0 s)
    (hs : ∀ (k : Nat) (hk : k < l.length) (s : SA), I k s → Sm (fun s1 => if p l[k] then Rt (d l[k]) (st s1) else Nx (I (k + 1)) (st s1)) (asgG g (e l[k]) s)) :
    (∃ a s', l.find? p = some a ∧ forL st g (l.map e) s = .rt (d a) s') ∨ (l.find? p = none ∧ ∃ s', forL st g (l.map e) s = .nx s' ∧ I l.length s') := by
  induction l generalizing I s with
  | nil => right; exact ⟨rfl, s, rfl, h0⟩
  | cons a l ih =>
    have h := hs 0 (by simp) s h0
    obtain ⟨s1, e1, h1⟩ := Sm_of h
    simp only [List.getElem_cons_zero] at h1 e1
    rw [List.map_cons, forL, e1, List.find?_cons]
    cases hp : p a
    · rw [hp] at h1
      simp only [Bool.false_eq_true, if_false] at h1
      obtain ⟨s2, e2, h2⟩ := Nx_of h1
      have := ih (I := fun k => I (k + 1)) h2 fun k hk s hi => by
        have := hs (k + 1) (by simpa using hk) s hi
        rw [List.getElem_cons_succ] at this; exact this
      rcases e2 with e2 | e2 <;> simp only [e2] <;> exact this
    · rw [hp] at h1
      simp only [if_true] at h1
      obtain ⟨s2, e2⟩ := Rt_of h1
      left
      exact ⟨a, s2, rfl, by simp only [e2]⟩
/-- a comprehension over a list that stays, whose parts may change other things -/
theorem compV_inv {α : Type} {W : Nat} {f : SA → Er Bool} {g : SA → Er D} {own i : Nat} (I : SA → Prop) (hoi : own ≠ i) (e : α → D) (he : ∀ x, still (e x) = true) (p : α → Bool) (h : α → D) (l : List α)
    (hl : ∀ s, I s → ∃ m, rd s i = some (.lst m (l.map e))) (hz : l.length ≤ sizeLine)
    (hx : ∀ x, x ∈ l → ∀ s, I s → ∃ s1, f (s.set own (some (e x))) = .ok (p x) s1 ∧ (p x = false → I (s1.set own none)) ∧ (p x = true → ∃ s2, g s1 = .ok (h x) s2 ∧ I (s2.set own none))) :
    ∀ (n k : Nat) (s : SA), I s → k ≤ l.length → l.length - k < n → ∃ s', compV W f g own i n k s = .ok (((l.drop k).filter p).map h) s' ∧ I s'
  | 0, k, s, _, hk, hn => absurd hn (by omega)
  | n + 1, k, s, hi, hk, hn => by
    obtain ⟨m, hr⟩ := hl s hi
    rw [compV, hr]
    by_cases hk' : k < l.length
    · obtain ⟨s1, h1, h2, h3⟩ := hx l[k] (List.getElem_mem hk') s hi
      have hd : l.drop k = l[k] :: l.drop (k + 1) := List.drop_eq_getElem_cons hk'
      have hoi' : (own == i) = false := by simp only [beq_eq_false_iff_ne, ne_eq]; exact hoi
      have hz' : decide (l.length ≤ sizeLine) = true := decide_eq_true hz
      simp only [List.getElem?_map, List.getElem?_eq_getElem hk', Option.map_some, he, hoi', List.length_map, hz', Bool.not_false, Bool.and_self, if_true]
      rw [h1]; simp only [Er.bind]
      rw [hd]
      cases hp : p l[k]
      · obtain ⟨s', e', hi'⟩ := compV_inv (W := W) I hoi e he p h l hl hz hx n (k + 1) _ (h2 hp) (by omega) (by omega)
        refine ⟨s', ?_, hi'⟩
        rw [List.filter_cons_of_neg (by rw [hp]; decide)]
        simp only [e', Bool.false_eq_true, if_false]
      · obtain ⟨s2, h4, h5⟩ := h3 hp
        obtain ⟨s', e', hi'⟩ := compV_inv (W := W) I hoi e he p h l hl hz hx n (k + 1) _ h5 (by omega) (by omega)
        refine ⟨s', ?_, hi'⟩
        rw [List.filter_cons_of_pos hp]
        simp only [h4, e', if_true, List.map_cons]
    · have : k = l.length := by omega
      subst this
      refine ⟨s, ?_, hi⟩
      simp only [List.getElem?_map, List.getElem?_eq_none (Nat.le_refl _), Option.map_none, List.drop_length, List.filter_nil, List.map_nil]
theorem compL_inv {α : Type} {f : SA → Er Bool} {g : SA → Er D} {own : Nat} (I : SA → Prop) (e : α → D) (p : α → Bool) (h : α → D) : ∀ (l : List α)
    (_ : ∀ x, x ∈ l → ∀ s, I s → ∃ s1, f (s.set own (some (e x))) = .ok (p x) s1 ∧ (p x = false → I (s1.set own none)) ∧ (p x = true → ∃ s2, g s1 = .ok (h x) s2 ∧ I (s2.set own none)))
    (s : SA), I s → ∃ s', compL f g own (l.map e) s = .ok ((l.filter p).map h) s' ∧ I s'
  | [], _, s, hi => ⟨s, rfl, hi⟩
  | x :: xs, hx, s, hi => by
    obtain ⟨s1, h1, h2, h3⟩ := hx x (by simp) s hi
    rw [List.map_cons, compL, h1]; simp only [Er.bind]
    cases hp : p x
    · obtain ⟨s', e', hi'⟩ := compL_inv I e p h xs (fun y hy => hx y (by simp [hy])) _ (h2 hp)
      refine ⟨s', ?_, hi'⟩
      rw [List.filter_cons_of_neg (by rw [hp]; decide)]
      simp only [e', Bool.false_eq_true, if_false]
    · obtain ⟨s2, h4, h5⟩ := h3 hp
      obtain ⟨s', e', hi'⟩ := compL_inv I e p h xs (fun y hy => hx y (by simp [hy])) _ h5
      refine ⟨s', ?_, hi'⟩
      rw [List.filter_cons_of_pos hp]
      simp only [h4, e', if_true, List.map_cons]
/-- a comprehension whose test is drawn: some of the things, in their order -/
theorem compL_some {α : Type} {f : SA → Er Bool} {g : SA → Er D} {own : Nat} (I : SA → Prop) (e : α → D) (h : α → D) : ∀ (l : List α)
    (_ : ∀ x, x ∈ l → ∀ s, I s → ∃ c s1, f (s.set own (some (e x))) = .ok c s1 ∧ (c = false → I (s1.set own none)) ∧ (c = true → ∃ s2, g s1 = .ok (h x) s2 ∧ I (s2.set own none)))
    (s : SA), I s → ∃ (l' : List α) (s' : SA), compL f g own (l.map e) s = .ok (l'.map h) s' ∧ I s' ∧ l'.Sublist l
  | [], _, s, hi => ⟨[], s, rfl, hi, List.Sublist.refl _⟩
  | x :: xs, hx, s, hi => by
    obtain ⟨c, s1, h1, h2, h3⟩ := hx x (by simp) s hi
    rw [List.map_cons, compL, h1]; simp only [Er.bind]
    cases c
    · obtain ⟨l', s', e', hi', hl⟩ := compL_some I e h xs (fun y hy => hx y (by simp [hy])) _ (h2 rfl)
      refine ⟨l', s', ?_, hi', hl.cons x⟩
      simp only [e', Bool.false_eq_true, if_false]
    · obtain ⟨s2, h4, h5⟩ := h3 rfl
      obtain ⟨l', s', e', hi', hl⟩ := compL_some I e h xs (fun y hy => hx y (by simp [hy])) _ h5
      refine ⟨x :: l', s', ?_, hi', hl.cons₂ x⟩
      simp only [h4, e', if_true, List.map_cons]
/-- a while that may return -/
theorem while_ret {c : SA → Er Bool} {st : SA → Fl} {I : Nat → SA → Prop} {Q : SA → Prop} {R : D → Prop}
    (hs : ∀ k s, I k s → (∃ s1, c s = .ok false s1 ∧ Q s1) ∨ (∃ s1, c s = .ok true s1 ∧ ((∃ s2 k', (st s1 = .nx s2 ∨ st s1 = .ct s2) ∧ I k' s2 ∧ k' < k) ∨ (∃ d s2, st s1 = .rt d s2 ∧ R d)))) :
    ∀ (n k : Nat) {s : SA}, I k s → k < n → (∃ s', whileL c st n s = .nx s' ∧ Q s') ∨ (∃ d s', whileL c st n s = .rt d s' ∧ R d)
  | 0, k, s, _, hk => absurd hk (by omega)
  | n + 1, k, s, hi, hk => by
    rcases hs k s hi with ⟨s1, e, q⟩ | ⟨s1, e, ⟨s2, k', e2, hi', hk'⟩ | ⟨d, s2, e2, hr⟩⟩
    · left; rw [whileL, e]; exact ⟨s1, rfl, q⟩
    · have ih := while_ret hs n k' hi' (by omega)
      rw [whileL, e]
      rcases e2 with e2 | e2 <;> simp only [e2] <;> exact ih
    · right; rw [whileL, e]; simp only [e2]; exact ⟨d, s2, rfl, hr⟩
/-! sorted numbers -/
theorem leD_int (a b : Int) : leD (.int a) (.int b) = decide (a ≤ b) := by
  simp only [leD, toPD]
  rw [PySem.W.dataLt_int, PySem.W.not_lt_int]
def srt (l : List Nat) : List Nat := l.mergeSort fun a b => decide (a ≤ b)
theorem sortD_dN (l : List Nat) : sortD (l.map dN) = (srt l).map dN := by
  simp only [sortD, srt]
  rw [List.map_mergeSort]
  intro a _ b _
  simp only [dN_ap, leD_int]
  simp
@[local simp] theorem sorted_dN {m : Bool} {l : List Nat} (h : l.length ≤ 16777216) : bi1 .sorted (.lst m (l.map dN)) = some (.lst true ((srt l).map dN)) := by
  have h1 : sortable (l.map dN) = true := by
    simp only [sortable, plains_map, List.all_map, Bool.true_and, List.length_map, Bool.and_eq_true, List.all_eq_true, Function.comp, Bool.or_eq_true, decide_eq_true_eq]
    refine ⟨⟨fun a _ b _ => by simp [PySem.W.alike], .inr fun a _ => by simp [noTup]⟩, by simpa using h⟩
  simp only [sorted_lst, stills_map, h1, Bool.true_or, Bool.and_self, if_true, sortD_dN]
theorem asc_eq : ∀ {a b : List Nat}, a.Pairwise (· < ·) → b.Pairwise (· < ·) → (∀ x, x ∈ a ↔ x ∈ b) → a = b
  | [], [], _, _, _ => rfl
  | [], y :: b, _, _, h => absurd ((h y).mpr (by simp)) (by simp)
  | x :: a, [], _, _, h => absurd ((h x).mp (by simp)) (by simp)
  | x :: a, y :: b, ha, hb, h => by
    have ha' := List.pairwise_cons.mp ha
    have hb' := List.pairwise_cons.mp hb
    have hxy : x = y := by
      have h1 := (h x).mp (by simp)
      have h2 := (h y).mpr (by simp)
      rcases List.mem_cons.mp h1 with h1 | h1
      · exact h1
      · rcases List.mem_cons.mp h2 with h2 | h2
        · exact h2.symm
        · have := ha'.1 y h2; have := hb'.1 x h1; omega
    subst hxy
    congr 1
    refine asc_eq ha'.2 hb'.2 fun z => ?_
    constructor
    · intro hz
      have := ha'.1 z hz
      rcases List.mem_cons.mp ((h z).mp (List.mem_cons_of_mem _ hz)) with h1 | h1
      · omega
      · exact h1
    · intro hz
      have := hb'.1 z hz
      rcases List.mem_cons.mp ((h z).mpr (List.mem_cons_of_mem _ hz)) with h1 | h1
      · omega
      · exact h1
theorem srt_rev {l : List Nat} (h : l.Pairwise (· < ·)) : srt l.reverse = l := by
  have h1 : (srt l.reverse).Perm l := (List.mergeSort_perm _ _).trans (List.reverse_perm l)
  have h2 : (srt l.reverse).Pairwise (fun a b => decide (a ≤ b) = true) := List.pairwise_mergeSort (by intro a b c; simp; omega) (by intro a b; simp; omega) _
  have hn : l.Nodup := h.imp (by intro a b hab; omega)
  have hn2 : (srt l.reverse).Nodup := h1.nodup_iff.mpr hn
  refine asc_eq ?_ h fun x => h1.mem_iff
  have h3 := List.Pairwise.and h2 hn2
  refine h3.imp ?_
  intro a b hab
  have h4 := hab.1; have h5 := hab.2
  simp at h4
  omega
def lTt {α : Type} (f : α → D) (l : List α) : D := .lst true (l.map f)
@[local simp] theorem lTt_ap {α : Type} (f : α → D) (l : List α) : lTt f l = .lst true (l.map f) := rfl
@[local simp] theorem frzs_rev (l : List D) : frzs l.reverse = (frzs l).reverse := by
  induction l with
  | nil => rfl
  | cons a l ih => simp [ih]
@[local simp] theorem stills_rev (l : List D) : stills l.reverse = stills l := by
  induction l with
  | nil => rfl
  | cons a l ih => simp [ih, Bool.and_comm]
theorem filt_nil {l : List Nat} {q : Nat → Bool} (h : ∀ x, x ∈ l → q x = false) : l.filter q = [] := by
  rw [List.filter_eq_nil_iff]; intro x hx; simp [h x hx]
@[local simp] theorem cut_take (ds : List D) (k : Nat) : cut ds none (some (k : Int)) = ds.take k := by
  simp only [cut, sIx, HT.sIx_nat, HT.sIx_none]
  simp only [Nat.sub_zero, List.drop_zero]
  rcases Nat.le_total k ds.length with h | h
  · rw [Nat.min_eq_left h]
  · rw [Nat.min_eq_right h, List.take_length, List.take_of_length_le h]
@[local simp] theorem cut_drop (ds : List D) (k : Nat) : cut ds (some (k : Int)) none = ds.drop k := by
  simp only [cut, sIx, HT.sIx_nat, HT.sIx_none]
  rcases Nat.le_total k ds.length with h | h
  · rw [Nat.min_eq_left h]
    exact List.take_of_length_le (by simp)
  · rw [Nat.min_eq_right h, List.drop_length, List.drop_of_length_le h]; simp
@[local simp] theorem cut_drop1 (ds : List D) (k : Nat) : cut ds (some ((k : Int) + 1)) none = ds.drop (k + 1) := by
  have := cut_drop ds (k + 1)
  simpa using this
/-! Abm13: words of places, drawn swaps -/
def plw (L : List (List Nat)) (w : List Nat) (p : Nat) : List Nat := w.filter fun a => decide (p ∈ L.getD a [])
def LPlaceOk (g : Callee) : Prop := ∀ (C : Nat) (L : List (List Nat)) (w : List Nat) (p : Nat), Alph C L → WIn L w → g [.lst false (L.map tN), .tup (w.map dN), .int p] = .ok (.tup ((plw L w p).map dN)) []
theorem lplace_ok {G : Env0A} {W : Nat} : LPlaceOk (runF G W f_l_place) := by
  intro C L w p hA hw
  have hz : w.length ≤ 16777216 := by have := hw.1; omega
  have hc := compL_map (f := fun s => (evTo G W t_l_place_2 s).noRz) (g := fun s => (ev G W false e_l_place_1 s).noRz) (own := 3)
    (s := [some (.lst false (L.map tN)), some (.tup (w.map dN)), some (.int p), none]) rfl dN (fun a => decide (p ∈ L.getD a [])) dN w fun a ha => by
      have ha := hw.2 a ha
      simp -implicitDefEqProofs [t_l_place_2, e_l_place_1, ha]
  change compL _ _ _ _ _ = Er.ok ((plw L w p).map dN) _ at hc
  simp -implicitDefEqProofs [runF, f_l_place_eq, g_l_place, hz, hc]
/-- words with the same letters at each place -/
def alk (C : Nat) (L : List (List Nat)) (w v : List Nat) : Bool := !(List.range C).any fun p => !decide (plw L w p = plw L v p)
theorem alk_iff {C : Nat} {L : List (List Nat)} {w v : List Nat} : alk C L w v = true ↔ ∀ p, p < C → plw L w p = plw L v p := by
  simp only [alk, Bool.not_eq_true', List.any_eq_false, List.mem_range, decide_eq_false_iff_not, Classical.not_not]
def LAlikeOk (g : Callee) : Prop := ∀ (C : Nat) (L : List (List Nat)) (w v : List Nat), Alph C L → WIn L w → WIn L v → g [.int C, .lst false (L.map tN), .tup (w.map dN), .tup (v.map dN)] = .ok (.bl (alk C L w v)) []
theorem lalike_ok {G : Env0A} {W : Nat} (h : Has G 15 LPlaceOk) : LAlikeOk (runF G W f_l_alike) := by
  intro C L w v hA hw hv
  obtain ⟨g, hg, hp⟩ := h
  have h1 : C < 1000000 := by have := hA.c4; omega
  have := for_find (st := fun s => exs G W [] b_l_alike_1 s) (g := .name 4) (.bl false) dN (List.range C) (fun p => !decide (plw L w p = plw L v p))
    (fun _ s => ∃ x, s = [some (.int C), some (.lst false (L.map tN)), some (.tup (w.map dN)), some (.tup (v.map dN)), x])
    (s := [some (.int C), some (.lst false (L.map tN)), some (.tup (w.map dN)), some (.tup (v.map dN)), none]) ⟨none, rfl⟩ fun p hpl s hs => by
      obtain ⟨x, rfl⟩ := hs
      have e1 := hp C L w p hA hw
      have e2 := hp C L v p hA hv
      simp only [List.getElem_range]
      by_cases hb : plw L w p = plw L v p <;> simp -implicitDefEqProofs [b_l_alike_1, hg, e1, e2, hb]
  simp only [alk]
  cases hb : (List.range C).any fun p => !decide (plw L w p = plw L v p)
  · rw [hb] at this
    simp only [Bool.false_eq_true, if_false] at this
    obtain ⟨s', e, x, rfl⟩ := this
    simp -implicitDefEqProofs [runF, f_l_alike_eq, g_l_alike, h1, e]
  · rw [hb] at this
    simp only [if_true] at this
    obtain ⟨s', e⟩ := this
    simp -implicitDefEqProofs [runF, f_l_alike_eq, g_l_alike, h1, e]
/-- drawn swaps of neighbours that are independent -/
inductive Sw (L : List (List Nat)) (w : List Nat) : List Nat → Prop where
  | refl : Sw L w w
  | step {u v : List Nat} {a b : Nat} : Sw L w (u ++ a :: b :: v) → dl L a b = false → Sw L w (u ++ b :: a :: v)
theorem Sw.perm {L : List (List Nat)} {w v : List Nat} (h : Sw L w v) : w.Perm v := by
  induction h with
  | refl => exact List.Perm.refl _
  | step _ _ ih => exact ih.trans (List.Perm.append_left _ (List.Perm.swap _ _ _))
theorem Sw.win {L : List (List Nat)} {w v : List Nat} (h : Sw L w v) (hw : WIn L w) : WIn L v := ⟨by rw [← h.perm.length_eq]; exact hw.1, fun a ha => hw.2 a (h.perm.mem_iff.mpr ha)⟩
theorem split_two {w : List Nat} {r : Nat} (h : r + 1 < w.length) : w = w.take r ++ w[r] :: w[r + 1] :: w.drop (r + 2) := by
  have h1 : w.drop r = w[r] :: w.drop (r + 1) := List.drop_eq_getElem_cons (by omega)
  have h2 : w.drop (r + 1) = w[r + 1] :: w.drop (r + 2) := List.drop_eq_getElem_cons h
  rw [← h2, ← h1, List.take_append_drop]
theorem set_swap : ∀ (u v : List Nat) (a b : Nat), ((u ++ a :: b :: v).set u.length b).set (u.length + 1) a = u ++ b :: a :: v
  | [], v, a, b => rfl
  | x :: u, v, a, b => by simp only [List.cons_append, List.length_cons, List.set_cons_succ, set_swap u v a b]
theorem swap_two {w : List Nat} {r : Nat} (h : r + 1 < w.length) : (w.set r w[r + 1]).set (r + 1) w[r] = w.take r ++ w[r + 1] :: w[r] :: w.drop (r + 2) := by
  have hl : (w.take r).length = r := by simp; omega
  have h2 := set_swap (w.take r) (w.drop (r + 2)) w[r] w[r + 1]
  rw [hl, ← split_two h] at h2
  exact h2
def ShufOk (g : Callee) : Prop := ∀ (C : Nat) (L : List (List Nat)) (w : List Nat) (n : Nat) (xs : List Int), Alph C L → WIn L w → n ≤ 1000 →
  ∃ (v : List Nat) (ys : List Int), g [.lst true (xs.map .int), .lst false (L.map tN), .tup (w.map dN), .int n] = .ok (.tup (v.map dN)) [.lst true (ys.map .int)] ∧ Sw L w v
def I_shuf (L : List (List Nat)) (w : List Nat) (n : Nat) (_ : Nat) (s : SA) : Prop := ∃ (ys : List Int) (v : List Nat) (j5 j6 j7 : Option D),
  s = [some (.lst true (ys.map .int)), some (.lst false (L.map tN)), some (.tup (w.map dN)), some (.int n), some (.lst true (v.map dN)), j5, j6, j7] ∧ Sw L w v
theorem shuf_ok {G : Env0A} {W : Nat} (hT : Has G 6 TakeOk) (hF : Has G 8 FreeOk) : ShufOk (runF G W f_l_shuffled) := by
  intro C L w n xs hA hw hn
  obtain ⟨gT, hgT, hT⟩ := hT
  obtain ⟨gF, hgF, hF⟩ := hF
  have := for_ok (st := fun s => exs G W [0] b_l_shuffled_1 s) (g := .name 5) dN (List.range n) (I_shuf L w n)
    (s := [some (.lst true (xs.map .int)), some (.lst false (L.map tN)), some (.tup (w.map dN)), some (.int n), some (.lst true (w.map dN)), none, none, none]) ⟨xs, w, none, none, none, rfl, .refl⟩ fun k hk s hs => by
      obtain ⟨ys, v, j5, j6, j7, rfl, hv⟩ := hs
      have hvw := hv.win hw
      by_cases h1 : 1 < v.length
      · obtain ⟨r, zs, e1, hr⟩ := hT ys (v.length - 1) (by omega)
        have hr1 : r < v.length := by omega
        have hr2 : r + 1 < v.length := by omega
        have e2 := hF C L v[r] v[r + 1] hA (hvw.2 _ (List.getElem_mem hr1)) (hvw.2 _ (List.getElem_mem hr2))
        have hc1 : ((v.length - 1 : Nat) : Int) = (v.length : Int) - 1 := by omega
        have h1' : (1 : Int) < (v.length : Int) := by omega
        rw [hc1] at e1
        cases hd : dl L v[r] v[r + 1]
        · rw [hd] at e2
          simp at e2
          have e3 : ixN v.length ((r : Int) + 1) = some (r + 1) := by
            have := ixN_natq v.length (r + 1)
            rw [if_pos hr2] at this
            simpa using this
          simp -implicitDefEqProofs [b_l_shuffled_1, hgT, hgF, e1, e2, e3, h1, h1', hr1, hr2]
          refine ⟨zs, (v.set r v[r + 1]).set (r + 1) v[r], _, _, _, by simp [List.map_set]; exact ⟨rfl, rfl, rfl⟩, ?_⟩
          rw [swap_two hr2]
          refine Sw.step ?_ hd
          rw [← split_two hr2]
          exact hv
        · rw [hd] at e2
          simp at e2
          simp -implicitDefEqProofs [b_l_shuffled_1, hgT, hgF, e1, e2, h1, h1', hr1, hr2]
          exact ⟨zs, v, _, _, _, rfl, hv⟩
      · have h1' : ¬ ((1 : Int) < (v.length : Int)) := by omega
        simp -implicitDefEqProofs [b_l_shuffled_1, h1, h1']
        exact ⟨ys, v, _, _, _, rfl, hv⟩
  obtain ⟨s', e, ys, v, j5, j6, j7, rfl, hv⟩ := this
  refine ⟨v, ys, ?_, hv⟩
  have hn1 : n < 1000000 := by omega
  simp -implicitDefEqProofs [runF, f_l_shuffled_eq, g_l_shuffled, hn1, e]
def IsWordOk (g : Callee) : Prop := ∀ (w : List Nat) (n : Nat), (∀ a, a ∈ w → a < n) → g [.tup (w.map dN), .int n] = .ok (.bl true) []
theorem isWord_ok {G : Env0A} {W : Nat} (h : Has G 19 IsIntOk) : IsWordOk (runF G W f_l_is_word) := by
  intro w n hw
  obtain ⟨g, hg, hi⟩ := h
  have := for_ok (st := fun s => exs G W [] b_l_is_word_1 s) (g := .name 2) dN w (fun _ s => ∃ j, s = [some (.tup (w.map dN)), some (.int n), j])
    (s := [some (.tup (w.map dN)), some (.int n), none]) ⟨none, rfl⟩ fun k hk s hs => by
      obtain ⟨j, rfl⟩ := hs
      have h1 := hi w[k]
      have h2 : ¬ ((w[k] : Int) < 0) := by omega
      have h3 : ¬ ((n : Int) ≤ (w[k] : Int)) := by have := hw w[k] (List.getElem_mem hk); omega
      simp -implicitDefEqProofs [b_l_is_word_1, hg, h1, h2, h3]
  obtain ⟨s', e, j, rfl⟩ := this
  simp -implicitDefEqProofs [runF, f_l_is_word_eq, g_l_is_word, e]
def AllWordsOk (g : Callee) : Prop := ∀ (ws : List (List Nat)) (n : Nat), (∀ w, w ∈ ws → ∀ a, a ∈ w → a < n) → g [.lst false (ws.map tN), .int n] = .ok (.bl true) []
theorem allWords_ok {G : Env0A} {W : Nat} (h : Has G 26 IsWordOk) : AllWordsOk (runF G W f_l_all_words) := by
  intro ws n hw
  obtain ⟨g, hg, hi⟩ := h
  have := for_ok (st := fun s => exs G W [] b_l_all_words_1 s) (g := .name 2) tN ws (fun _ s => ∃ j, s = [some (.lst false (ws.map tN)), some (.int n), j])
    (s := [some (.lst false (ws.map tN)), some (.int n), none]) ⟨none, rfl⟩ fun k hk s hs => by
      obtain ⟨j, rfl⟩ := hs
      have h1 := hi ws[k] n (hw ws[k] (List.getElem_mem hk))
      simp -implicitDefEqProofs [b_l_all_words_1, hg, h1]
  obtain ⟨s', e, j, rfl⟩ := this
  simp -implicitDefEqProofs [runF, f_l_all_words_eq, g_l_all_words, e]
/-! Abm14: masks, layers: what the code computes -/
theorem bitNot_bitNot (x : Int) : Builtin.bitNot (Builtin.bitNot x) = x := by simp only [Builtin.bitNot]; omega
theorem bitOr_nat (a b : Nat) : Builtin.bitOr (a : Int) (b : Int) = ((a ||| b : Nat) : Int) := by
  have h1 : decide (0 ≤ Builtin.bitNot (a : Int)) = false := decide_eq_false (by simp only [Builtin.bitNot]; omega)
  have h2 : decide (0 ≤ Builtin.bitNot (b : Int)) = false := decide_eq_false (by simp only [Builtin.bitNot]; omega)
  simp only [Builtin.bitOr, Builtin.bitAnd, h1, h2, bitNot_bitNot]
  simp
theorem bitAnd_nat (a b : Nat) : Builtin.bitAnd (a : Int) (b : Int) = ((a &&& b : Nat) : Int) := by
  simp [Builtin.bitAnd]
/-- the letters below n that are dependent on a, as bits -/
def msk (L : List (List Nat)) (a : Nat) : Nat → Nat
  | 0 => 0
  | n + 1 => if dl L a n then msk L a n ||| 2 ^ n else msk L a n
theorem msk_bit (L : List (List Nat)) (a : Nat) : ∀ n b, (msk L a n).testBit b = (decide (b < n) && dl L a b)
  | 0, b => by simp [msk]
  | n + 1, b => by
    simp only [msk]
    by_cases hd : dl L a n = true
    · rw [if_pos hd, Nat.testBit_or, msk_bit L a n b, Nat.testBit_two_pow]
      by_cases e : n = b
      · subst e; simp [hd]
      · by_cases h1 : b < n
        · have : b < n + 1 := by omega
          simp [e, h1, this]
        · have : ¬ b < n + 1 := by omega
          simp [e, h1, this]
    · rw [if_neg hd, msk_bit L a n b]
      by_cases h1 : b < n
      · have : b < n + 1 := by omega
        simp [h1, this]
      · by_cases e : b = n
        · subst e; simp [hd]
        · have : ¬ b < n + 1 := by omega
          simp [h1, this]
def mks (L : List (List Nat)) : List Nat := (List.range L.length).map fun a => msk L a L.length
def MasksOk (g : Callee) : Prop := ∀ (C : Nat) (L : List (List Nat)), Alph C L → g [Al C L] = .ok (.lst true ((mks L).map dN)) []
theorem masks_in {G : Env0A} {W : Nat} (h : Has G 2 IndOk) {C : Nat} {L : List (List Nat)} (hA : Alph C L) (a : Nat) (ha : a < L.length) (dm : D) (j4 : Option D) :
    ∃ y4, forL (fun s => exs G W [] b_masks_1 s) (.name 4) ((List.range L.length).map dN) [some (Al C L), some dm, some (.int (a : Nat)), some (.int 0), j4] =
      .nx [some (Al C L), some dm, some (.int (a : Nat)), some (.int (msk L a L.length : Nat)), y4] := by
  obtain ⟨g, hg, hi⟩ := h
  obtain ⟨s', e, y4, hs⟩ := for_ok (st := fun s => exs G W [] b_masks_1 s) (g := .name 4) dN (List.range L.length)
    (fun n s => ∃ y4, s = [some (Al C L), some dm, some (.int (a : Nat)), some (.int (msk L a n : Nat)), y4])
    (s := [some (Al C L), some dm, some (.int (a : Nat)), some (.int 0), j4]) ⟨j4, rfl⟩ fun n hn s hs => by
      obtain ⟨y4, rfl⟩ := hs
      simp at hn
      have hi := hi C L a n ha hn
      have h1 : (n : Int) ≤ 1000000 := by have := hA.l6; omega
      have h2 := bitOr_nat (msk L a n) (2 ^ n)
      have h3 : (((2 ^ n : Nat)) : Int) = (2 : Int) ^ n := by simp
      rw [h3] at h2
      cases hd : dl L a n
      · have hm : msk L a (n + 1) = msk L a n := by simp [msk, hd]
        rw [hd] at hi
        simp at hi
        simp -implicitDefEqProofs [b_masks_1, hg, hi, hm]
      · have hm : msk L a (n + 1) = msk L a n ||| 2 ^ n := by simp [msk, hd]
        rw [hd] at hi
        simp at hi
        rw [hm]
        simp -implicitDefEqProofs [b_masks_1, hg, hi, h1, h2]
  refine ⟨y4, ?_⟩
  rw [e, hs]; simp
theorem masks_ok {G : Env0A} {W : Nat} (h : Has G 2 IndOk) : MasksOk (runF G W f_masks) := by
  intro C L hA
  have hl : L.length < 1000000 := by have := hA.l6; omega
  have := for_ok (st := fun s => exs G W [] b_masks_2 s) (g := .name 2) dN (List.range L.length)
    (fun k s => ∃ j2 j3 j4, s = [some (Al C L), some (.lst true (((List.range k).map fun a => msk L a L.length).map dN)), j2, j3, j4])
    (s := [some (Al C L), some (.lst true []), none, none, none]) ⟨none, none, none, rfl⟩ fun k hk s hs => by
      obtain ⟨j2, j3, j4, rfl⟩ := hs
      simp at hk
      obtain ⟨y4, e⟩ := masks_in (G := G) (W := W) h hA k hk (.lst true (((List.range k).map fun a => msk L a L.length).map dN)) j4
      have h1 : k < 16777216 := by omega
      simp [-List.map_map] at e
      simp -implicitDefEqProofs [-List.map_map, b_masks_2, hl, h1, e, List.range_succ]
  obtain ⟨s', e, j2, j3, j4, rfl⟩ := this
  simp [-List.map_map] at e
  simp -implicitDefEqProofs [-List.map_map, runF, f_masks_eq, g_masks, hl, e, mks]
/-- the greatest depth among the letters below n that are dependent on a -/
def dpt (L : List (List Nat)) (dps : List Nat) (a : Nat) : Nat → Nat
  | 0 => 0
  | n + 1 => if dl L a n then max (dpt L dps a n) (dps.getD n 0) else dpt L dps a n
def addAt (f : List (List Nat)) (d a : Nat) : List (List Nat) := if d = f.length then f ++ [[a]] else f.set d (f.getD d [] ++ [a])
def stp (L : List (List Nat)) (st : List (List Nat) × List Nat) (a : Nat) : List (List Nat) × List Nat :=
  let d := dpt L st.2 a L.length
  (addAt st.1 d a, st.2.set a (d + 1))
def lrun (L : List (List Nat)) (w : List Nat) : List (List Nat) × List Nat := w.foldl (stp L) ([], List.replicate L.length 0)
def lay (L : List (List Nat)) (w : List Nat) : List (List Nat) := (lrun L w).1.map srt
theorem band_bit (m o : Nat) : Builtin.bitAnd ((m : Int) / 2 ^ o) 1 = if m.testBit o then 1 else 0 := by
  have h1 : ((m : Int) / 2 ^ o) = ((m / 2 ^ o : Nat) : Int) := by simp
  have h2 : (1 : Int) = ((1 : Nat) : Int) := rfl
  rw [h1, h2, bitAnd_nat, Nat.and_one_is_mod]
  rw [Nat.testBit_eq_decide_div_mod_eq]
  have := Nat.mod_lt (m / 2 ^ o) (show 0 < 2 by decide)
  by_cases e : m / 2 ^ o % 2 = 1
  · simp [e]
  · have : m / 2 ^ o % 2 = 0 := by omega
    simp [this]
theorem dpt_le {L : List (List Nat)} {dps : List Nat} {a m : Nat} (h : ∀ o, dps.getD o 0 ≤ m) : ∀ n, dpt L dps a n ≤ m
  | 0 => Nat.zero_le _
  | n + 1 => by
    simp only [dpt]
    have h1 := dpt_le (L := L) h (a := a) n
    have h2 := h n
    split <;> omega
theorem addAt_len {f : List (List Nat)} {d a : Nat} (hd : d ≤ f.length) : (addAt f d a).length = max f.length (d + 1) := by
  simp only [addAt]
  split
  · simp; omega
  · simp; omega
def LOk (L : List (List Nat)) (st : List (List Nat) × List Nat) : Prop := st.2.length = L.length ∧ ∀ o, st.2.getD o 0 ≤ st.1.length
theorem LOk_step {L : List (List Nat)} {st : List (List Nat) × List Nat} (h : LOk L st) (a : Nat) : LOk L (stp L st a) := by
  have hd := dpt_le h.2 (L := L) (a := a) L.length
  refine ⟨by simp [stp, h.1], fun o => ?_⟩
  simp only [stp, addAt_len hd]
  have h1 := h.2 o
  by_cases e : a = o
  · subst e
    by_cases hl : a < st.2.length
    · simp [hl]; omega
    · simp [hl]
  · have : (st.2.set a (dpt L st.2 a L.length + 1)).getD o 0 = st.2.getD o 0 := by
      simp [List.getD_eq_getElem?_getD, List.getElem?_set, e]
    rw [this]; omega
theorem LOk_zero (L : List (List Nat)) : LOk L ([], List.replicate L.length 0) := ⟨by simp, fun o => by
  by_cases h : o < L.length <;> simp [h]⟩
theorem layers_in {G : Env0A} {W : Nat} {C : Nat} {L : List (List Nat)} (hA : Alph C L) (x0 x1 x2 x8 : Option D) (dps : List Nat) (hdl : dps.length = L.length) (a : Nat) (ha : a < L.length) (j7 : Option D) :
    ∃ y7, forL (fun s => exs G W [] b_layers_1 s) (.name 7) ((List.range L.length).map dN) [x0, x1, x2, some (.lst true (dps.map dN)), some (.lst true ((mks L).map dN)), some (.int (a : Nat)), some (.int 0), j7, x8] =
      .nx [x0, x1, x2, some (.lst true (dps.map dN)), some (.lst true ((mks L).map dN)), some (.int (a : Nat)), some (.int (dpt L dps a L.length : Nat)), y7, x8] := by
  obtain ⟨s', e, y7, hs⟩ := for_ok (st := fun s => exs G W [] b_layers_1 s) (g := .name 7) dN (List.range L.length)
    (fun n s => ∃ y7, s = [x0, x1, x2, some (.lst true (dps.map dN)), some (.lst true ((mks L).map dN)), some (.int (a : Nat)), some (.int (dpt L dps a n : Nat)), y7, x8])
    (s := [x0, x1, x2, some (.lst true (dps.map dN)), some (.lst true ((mks L).map dN)), some (.int (a : Nat)), some (.int 0), j7, x8]) ⟨j7, rfl⟩ fun n hn s hs => by
      obtain ⟨y7, rfl⟩ := hs
      simp at hn
      have hnd : n < dps.length := by omega
      have h1 : ((mks L).map dN)[a]? = some (.int (msk L a L.length : Nat)) := by simp [mks, ha]
      have h2 := band_bit (msk L a L.length) n
      rw [msk_bit] at h2
      have h0 : (0 : Int) ≤ (n : Int) := by omega
      generalize (mks L).map dN = mk at h1 ⊢
      cases hd : dl L a n
      · have hm : dpt L dps a (n + 1) = dpt L dps a n := by simp [dpt, hd]
        rw [hd] at h2
        simp [hn] at h2
        simp -implicitDefEqProofs [b_layers_1, h1, h2, hm]
      · have hm : dpt L dps a (n + 1) = max (dpt L dps a n) dps[n] := by simp [dpt, hd, hnd]
        rw [hd] at h2
        simp [hn] at h2
        have h3 : (if (dpt L dps a n : Int) < (dps[n] : Int) then (dps[n] : Int) else (dpt L dps a n : Int)) = ((max (dpt L dps a n) dps[n] : Nat) : Int) := by
          split <;> omega
        rw [hm, ← h3]
        simp -implicitDefEqProofs [b_layers_1, h1, h2, hnd]
  refine ⟨y7, ?_⟩
  rw [e, hs]; simp
@[local simp] theorem frzs_lTn (l : List (List Nat)) : frzs (l.map (lTt dN)) = l.map (lT dN) := by
  induction l with
  | nil => rfl
  | cons a l ih => simp [ih]
@[local simp] theorem frzs_lTn2 (l : List (List Nat)) : frzs (l.map (lT dN)) = l.map (lT dN) := by
  induction l with
  | nil => rfl
  | cons a l ih => simp [ih]
theorem stills_lTn {l : List (List Nat)} (h : l ≠ []) : stills (l.map (lTt dN)) = false := by
  cases l with
  | nil => exact absurd rfl h
  | cons a l => simp
def I_lay (C : Nat) (L : List (List Nat)) (dw : D) (w : List Nat) (n : Nat) (s : SA) : Prop := ∃ (j5 j6 j7 : Option D),
  s = [some (Al C L), some dw, some (.lst true ((lrun L (w.take n)).1.map (lTt dN))), some (.lst true ((lrun L (w.take n)).2.map dN)), some (.lst true ((mks L).map dN)), j5, j6, j7, none]
theorem lrun_ok (L : List (List Nat)) (w : List Nat) : LOk L (lrun L w) := by
  have : ∀ (w : List Nat) (st : List (List Nat) × List Nat), LOk L st → LOk L (w.foldl (stp L) st) := by
    intro w
    induction w with
    | nil => exact fun st h => h
    | cons a w ih => exact fun st h => ih _ (LOk_step h a)
  exact this w _ (LOk_zero L)
theorem lrun_take {L : List (List Nat)} {w : List Nat} {n : Nat} (h : n < w.length) : lrun L (w.take (n + 1)) = stp L (lrun L (w.take n)) w[n] := by
  simp only [lrun, List.take_succ_eq_append_getElem h, List.foldl_append, List.foldl_cons, List.foldl_nil]
theorem addAt_eq {f : List (List Nat)} {d a : Nat} (hd : d ≤ f.length) : addAt f d a = f.take d ++ (f.getD d [] ++ [a]) :: f.drop (d + 1) := by
  simp only [addAt]
  by_cases e : d = f.length
  · subst e
    rw [if_pos rfl, List.take_length, List.drop_of_length_le (by omega)]
    simp
  · rw [if_neg e, List.set_eq_take_append_cons_drop, if_pos (by omega)]
theorem flat_eq {f : List (List Nat)} {d : Nat} (hd : d ≤ f.length) : f.flatten = (f.take d).flatten ++ (f.getD d [] ++ (f.drop (d + 1)).flatten) := by
  by_cases e : d = f.length
  · subst e
    rw [List.take_length, List.drop_of_length_le (by omega)]
    simp
  · have hl : d < f.length := by omega
    have h1 : f.drop d = f[d] :: f.drop (d + 1) := List.drop_eq_getElem_cons hl
    have h2 : f.getD d [] = f[d] := by simp [hl]
    rw [h2, ← List.flatten_cons, ← h1, ← List.flatten_append, List.take_append_drop]
theorem addAt_perm {f : List (List Nat)} {d a : Nat} (hd : d ≤ f.length) : (addAt f d a).flatten.Perm (f.flatten ++ [a]) := by
  rw [addAt_eq hd, flat_eq hd]
  simp only [List.flatten_append, List.flatten_cons, List.append_assoc]
  refine List.Perm.append_left _ (List.Perm.append_left _ ?_)
  exact List.perm_append_comm
theorem lrun_perm (L : List (List Nat)) (w : List Nat) : (lrun L w).1.flatten.Perm w := by
  have : ∀ (w : List Nat) (st : List (List Nat) × List Nat), LOk L st → (w.foldl (stp L) st).1.flatten.Perm (st.1.flatten ++ w) := by
    intro w
    induction w with
    | nil => intro st _; simp
    | cons a w ih =>
      intro st h
      refine (ih _ (LOk_step h a)).trans ?_
      have h1 := addAt_perm (a := a) (dpt_le (L := L) h.2 (a := a) L.length)
      refine (List.Perm.append_right w h1).trans ?_
      simp
  simpa [lrun] using this w _ (LOk_zero L)
theorem lrun_rows (L : List (List Nat)) (w : List Nat) : (lrun L w).1.length ≤ w.length := by
  have : ∀ (w : List Nat) (st : List (List Nat) × List Nat), LOk L st → (w.foldl (stp L) st).1.length ≤ st.1.length + w.length := by
    intro w
    induction w with
    | nil => intro st _; simp
    | cons a w ih =>
      intro st h
      have h1 := ih _ (LOk_step h a)
      have h2 := dpt_le (L := L) h.2 (a := a) L.length
      have h3 := addAt_len (a := a) h2
      simp only [List.foldl_cons, List.length_cons]
      have h4 : (stp L st a).1.length = max st.1.length (dpt L st.2 a L.length + 1) := h3
      omega
  simpa [lrun] using this w _ (LOk_zero L)
theorem mem_flat_len {f : List (List Nat)} {r : List Nat} (h : r ∈ f) : r.length ≤ f.flatten.length := by
  obtain ⟨u, v, rfl⟩ := List.append_of_mem h
  simp; omega
def LayersOk (g : Callee) : Prop := ∀ (C : Nat) (L : List (List Nat)) (w : List Nat) (dw : D), Alph C L → IsW dw w → WIn L w → g [Al C L, dw] = .ok (.lst true ((lay L w).map tN)) []
theorem layers_ok {G : Env0A} {W : Nat} (h : Has G 24 MasksOk) (hW : 1000000 ≤ W) : LayersOk (runF G W f_layers) := by
  intro C L w dw hA hd hw
  obtain ⟨g, hg, hm⟩ := h
  have hm := hm C L hA
  have hwl : w.length ≤ 1000 := hw.1
  have := for_ok (st := fun s => exs G W [] b_layers_2 s) (g := .name 5) dN w (I_lay C L dw w)
    (s := [some (Al C L), some dw, some (.lst true []), some (.lst true ((List.replicate L.length 0).map dN)), some (.lst true ((mks L).map dN)), none, none, none, none]) ⟨none, none, none, rfl⟩ fun n hn s hs => by
      obtain ⟨j5, j6, j7, rfl⟩ := hs
      have hok := lrun_ok L (w.take n)
      have ha := hw.2 _ (List.getElem_mem hn)
      have hrows := lrun_rows L (w.take n)
      have hlen := (lrun_perm L (w.take n)).length_eq
      have htl : (w.take n).length ≤ 1000 := by simp; omega
      have ht := lrun_take (L := L) hn
      have hd' := dpt_le (L := L) hok.2 (a := w[n]) L.length
      have hrl : ((lrun L (w.take n)).1.getD (dpt L (lrun L (w.take n)).2 w[n] L.length) []).length ≤ 1000 := by
        by_cases hl : dpt L (lrun L (w.take n)).2 w[n] L.length < (lrun L (w.take n)).1.length
        · have h1 : (lrun L (w.take n)).1.getD (dpt L (lrun L (w.take n)).2 w[n] L.length) [] = (lrun L (w.take n)).1[dpt L (lrun L (w.take n)).2 w[n] L.length] := by simp [hl]
          rw [h1]
          have := mem_flat_len (List.getElem_mem hl)
          omega
        · have h1 : (lrun L (w.take n)).1.getD (dpt L (lrun L (w.take n)).2 w[n] L.length) [] = [] := by
            rw [List.getD_eq_getElem?_getD, List.getElem?_eq_none (by omega)]; rfl
          rw [h1]; simp
      obtain ⟨y7, e⟩ := layers_in (G := G) (W := W) hA (some (Al C L)) (some dw) (some (.lst true ((lrun L (w.take n)).1.map (lTt dN)))) none (lrun L (w.take n)).2 hok.1 w[n] ha j7
      generalize lrun L (w.take n) = st at hok hrows hlen hd' hrl e ht ⊢
      obtain ⟨f, dps⟩ := st
      simp only at hok hrows hd' hrl e ⊢
      have hdl : w[n] < dps.length := by rw [hok.1]; exact ha
      have hfl : f.length < 16777216 := by omega
      have hL6 : L.length < 1000000 := by have := hA.l6; omega
      have hdp : dps.length < 1000000 := by rw [hok.1]; exact hL6
      rw [← hok.1] at e
      generalize hdd : dpt L dps w[n] dps.length = d at e
      rw [hok.1] at hdd
      simp only [stp] at ht
      rw [hdd] at hd' hrl ht
      have key : ∀ f', addAt f d w[n] = f' → ∀ y5 y6 y7, I_lay C L dw w (n + 1) [some (Al C L), some dw, some (.lst true (f'.map (lTt dN))), some (.lst true ((dps.set w[n] (d + 1)).map dN)), some (.lst true ((mks L).map dN)), y5, y6, y7, none] := fun f' hf' y5 y6 y7 => ⟨y5, y6, y7, by rw [ht, hf']⟩
      have hds : ((dps.map dN).set w[n] (D.int ((d : Int) + 1))) = (dps.set w[n] (d + 1)).map dN := by
        rw [List.map_set]; simp
      simp [-List.map_map, -List.map_set] at e
      by_cases he : d = f.length
      · subst he
        have hfs : addAt f f.length w[n] = f ++ [[w[n]]] := by simp [addAt]
        have hset : (((f.map (lTt dN)) ++ [D.lst true []]).set f.length (D.lst true [D.int (w[n] : Nat)])) = (f ++ [[w[n]]]).map (lTt dN) := by
          simp
        have key := key _ hfs
        simp [-List.map_map, -List.map_set] at key
        simp -implicitDefEqProofs [-List.map_map, -List.map_set, -List.map_append, b_layers_2, hdp, e, hfl, hdl, hset, hds]
        exact key _ _ _
      · have hlt : d < f.length := by omega
        have hne : ¬ ((d : Int) = (f.length : Int)) := by omega
        have hg2 : f.getD d [] = f[d] := by simp [hlt]
        rw [hg2] at hrl
        have hfs : addAt f d w[n] = f.set d (f[d] ++ [w[n]]) := by simp [addAt, he, hlt]
        have key := key _ hfs
        have hrl2 : f[d].length < 16777216 := by omega
        have hset : ((f.map (lTt dN)).set d (D.lst true (f[d].map dN ++ [D.int (w[n] : Nat)]))) = (f.set d (f[d] ++ [w[n]])).map (lTt dN) := by
          rw [List.map_set]; simp
        simp [-List.map_map, -List.map_set] at key
        simp -implicitDefEqProofs [-List.map_map, -List.map_set, b_layers_2, hdp, e, hfl, hdl, hne, he, hlt, hrl2, hset, hds]
        exact key _ _ _
  obtain ⟨s', e, j5, j6, j7, rfl⟩ := this
  rw [List.take_length] at e
  have hL : L.length ≤ 16777216 := by have := hA.l6; omega
  have hrep : (List.replicate L.length [D.int 0]).flatten = (List.replicate L.length 0).map dN := by
    rw [List.map_replicate]
    generalize L.length = n
    induction n with
    | zero => rfl
    | succ n ih => simp [List.replicate_succ, ih]
  have hlen := (lrun_perm L w).length_eq
  have hrow := lrun_rows L w
  have hmul : (L.length : Int) < 9223372036854775808 := by have := hA.l6; omega
  simp only [lay]
  generalize hf : (lrun L w).1 = f at e hlen hrow ⊢
  have hfl : f.length ≤ 16777216 := by omega
  have hc : ∀ s : SA, (s = [some (Al C L), some dw, some (.lst false (f.map (lT dN))), some (.lst true ((lrun L w).2.map dN)), some (.lst true ((mks L).map dN)), j5, j6, j7, none]) →
      compL (fun s => (evTo G W .none s).noRz) (fun s => (ev G W false e_layers_3 s).noRz) 8 (f.map (lT dN)) s = .ok ((f.map srt).map tN) s := by
    rintro s rfl
    have := compL_map (f := fun s => (evTo G W .none s).noRz) (g := fun s => (ev G W false e_layers_3 s).noRz) (own := 8)
      (s := [some (Al C L), some dw, some (.lst false (f.map (lT dN))), some (.lst true ((lrun L w).2.map dN)), some (.lst true ((mks L).map dN)), j5, j6, j7, none]) rfl (lT dN) (fun _ => true) (fun r => tN (srt r)) f fun r hr => by
        have hr : r.length ≤ 16777216 := by have := mem_flat_len hr; omega
        simp -implicitDefEqProofs [e_layers_3, hr]
    rw [filter_tt] at this
    rw [this]
    simp
  have hc := hc _ rfl
  simp [-List.map_map] at e hc
  simp at hm
  by_cases hne : f = []
  · subst hne
    obtain ⟨n, hn⟩ : ∃ n, W = n + 1 := ⟨W - 1, by omega⟩
    have hcv : ∀ (p : SA → Er Bool) (q : SA → Er D) (s : SA), rd s 2 = some (.lst true []) → compV W p q 8 2 W 0 s = .ok [] s := by
      intro p q s hs
      rw [hn, compV, hs]; rfl
    rcases hd with rfl | rfl
    · simp -implicitDefEqProofs [-List.map_map, runF, f_layers_eq, g_layers, hg, hm, hrep, hmul, hL, e, hcv]
    · simp -implicitDefEqProofs [-List.map_map, runF, f_layers_eq, g_layers, hg, hm, hrep, hmul, hL, e, hcv]
  · have hst := stills_lTn hne
    rcases hd with rfl | rfl
    · simp -implicitDefEqProofs [-List.map_map, runF, f_layers_eq, g_layers, hg, hm, hrep, hmul, hL, e, hst, hc, hfl]
    · simp -implicitDefEqProofs [-List.map_map, runF, f_layers_eq, g_layers, hg, hm, hrep, hmul, hL, e, hst, hc, hfl]
/-! Abm15: layers: the plain law -/
theorem dl_symm (L : List (List Nat)) (a b : Nat) : dl L a b = dl L b a := by
  rw [Bool.eq_iff_iff]
  simp only [dl, List.any_eq_true, decide_eq_true_eq]
  exact ⟨fun ⟨p, h1, h2⟩ => ⟨p, h2, h1⟩, fun ⟨p, h1, h2⟩ => ⟨p, h2, h1⟩⟩
theorem dl_of {L : List (List Nat)} {a b p : Nat} (h1 : p ∈ L.getD a []) (h2 : p ∈ L.getD b []) : dl L a b = true := by
  simp only [dl, List.any_eq_true, decide_eq_true_eq]
  exact ⟨p, h1, h2⟩
theorem dl_refl {C : Nat} {L : List (List Nat)} (hA : Alph C L) {a : Nat} (ha : a < L.length) : dl L a a = true := by
  have h1 : L.getD a [] = L[a] := by simp [ha]
  have h2 := (hA.fit L[a] (List.getElem_mem ha)).1
  exact dl_of (p := L[a][0]) (by rw [h1]; exact List.getElem_mem h2) (by rw [h1]; exact List.getElem_mem h2)
theorem dpt_ub {L : List (List Nat)} {dps : List Nat} {a : Nat} : ∀ {n o : Nat}, o < n → dl L a o = true → dps.getD o 0 ≤ dpt L dps a n
  | 0, _, h, _ => absurd h (by omega)
  | n + 1, o, h, hd => by
    simp only [dpt]
    by_cases e : o = n
    · subst e; rw [if_pos hd]; omega
    · have := dpt_ub (dps := dps) (show o < n by omega) hd
      split <;> omega
theorem dpt_att {L : List (List Nat)} {dps : List Nat} {a : Nat} : ∀ {n : Nat}, dpt L dps a n = 0 ∨ ∃ o, o < n ∧ dl L a o = true ∧ dps.getD o 0 = dpt L dps a n
  | 0 => .inl rfl
  | n + 1 => by
    simp only [dpt]
    by_cases hd : dl L a n = true
    · rw [if_pos hd]
      by_cases hm : dpt L dps a n ≤ dps.getD n 0
      · right; exact ⟨n, by omega, hd, by omega⟩
      · rcases dpt_att (L := L) (dps := dps) (a := a) (n := n) with h | ⟨o, h1, h2, h3⟩
        · omega
        · right; exact ⟨o, by omega, h2, by omega⟩
    · rw [if_neg hd]
      rcases dpt_att (L := L) (dps := dps) (a := a) (n := n) with h | ⟨o, h1, h2, h3⟩
      · exact .inl h
      · exact .inr ⟨o, by omega, h2, h3⟩
theorem addAt_getD {f : List (List Nat)} {d a k : Nat} (hd : d ≤ f.length) : (addAt f d a).getD k [] = if k = d then f.getD d [] ++ [a] else f.getD k [] := by
  simp only [addAt]
  by_cases e : d = f.length
  · subst e
    rw [if_pos rfl]
    by_cases h : k = f.length
    · subst h
      simp [List.getD_eq_getElem?_getD]
    · rw [if_neg h]
      by_cases h2 : k < f.length
      · simp [List.getD_eq_getElem?_getD, List.getElem?_append_left h2]
      · have h3 : f.length < k := by omega
        simp only [List.getD_eq_getElem?_getD]
        rw [List.getElem?_eq_none (by simp; omega), List.getElem?_eq_none (by omega)]
  · rw [if_neg e]
    have hl : d < f.length := by omega
    by_cases h : k = d
    · subst h
      simp [List.getD_eq_getElem?_getD, hl]
    · have : ¬ d = k := fun h' => h h'.symm
      simp [List.getD_eq_getElem?_getD, List.getElem?_set, h, this]
theorem mem_getD {f : List (List Nat)} {r : List Nat} (h : r ∈ f) : ∃ k, k < f.length ∧ f.getD k [] = r := by
  obtain ⟨k, hk, e⟩ := List.mem_iff_getElem.mp h
  exact ⟨k, hk, by simp [hk, e]⟩
structure LInv (L : List (List Nat)) (st : List (List Nat) × List Nat) (w : List Nat) : Prop where
  ok : LOk L st
  lt : ∀ k a, a ∈ st.1.getD k [] → a < L.length
  up : ∀ k a, a ∈ st.1.getD k [] → k < st.2.getD a 0
  top : ∀ o, 0 < st.2.getD o 0 → o ∈ st.1.getD (st.2.getD o 0 - 1) []
  ne : ∀ k, k < st.1.length → st.1.getD k [] ≠ []
  nod : ∀ k, (st.1.getD k []).Nodup
  ind : ∀ k a b, a ∈ st.1.getD k [] → b ∈ st.1.getD k [] → a ≠ b → dl L a b = false
  chain : ∀ k b, b ∈ st.1.getD (k + 1) [] → ∃ c, c ∈ st.1.getD k [] ∧ dl L b c = true
  plc : ∀ p, plw L st.1.flatten p = plw L w p
theorem getD_set (l : List Nat) (a x o : Nat) (ha : a < l.length) : (l.set a x).getD o 0 = if o = a then x else l.getD o 0 := by
  by_cases e : o = a
  · subst e; simp [ha]
  · have : ¬ a = o := fun h => e h.symm
    simp [List.getD_eq_getElem?_getD, List.getElem?_set, e, this]
theorem LInv_step {C : Nat} {L : List (List Nat)} (hA : Alph C L) {st : List (List Nat) × List Nat} {w : List Nat} (h : LInv L st w) {a : Nat} (ha : a < L.length) : LInv L (stp L st a) (w ++ [a]) := by
  obtain ⟨f, dps⟩ := st
  have hok' := LOk_step h.ok a
  have hdl : dps.length = L.length := h.ok.1
  have hal : a < dps.length := by omega
  have hd := dpt_le (L := L) h.ok.2 (a := a) L.length
  simp only at hd
  have hkey : ∀ k b, b ∈ f.getD k [] → dl L a b = true → k < dpt L dps a L.length := fun k b hb hd => by
    have h1 := h.up k b hb
    have h2 := dpt_ub (dps := dps) (h.lt k b hb) hd
    simp only at h1
    omega
  have hself : dps.getD a 0 ≤ dpt L dps a L.length := dpt_ub ha (dl_refl hA ha)
  have hatt := dpt_att (L := L) (dps := dps) (a := a) (n := L.length)
  simp only [stp] at hok' ⊢
  generalize dpt L dps a L.length = d at *
  have hg : ∀ k, (addAt f d a).getD k [] = if k = d then f.getD d [] ++ [a] else f.getD k [] := fun k => addAt_getD hd
  have hs : ∀ o, (dps.set a (d + 1)).getD o 0 = if o = a then d + 1 else dps.getD o 0 := fun o => getD_set dps a (d + 1) o hal
  have hnot : ∀ k, d ≤ k → ∀ b, b ∈ f.getD k [] → dl L a b = false := fun k hk b hb => by
    cases e : dl L a b
    · rfl
    · have := hkey k b hb e; omega
  refine ⟨hok', ?_, ?_, ?_, ?_, ?_, ?_, ?_, ?_⟩
  · intro k b hb
    simp only [hg] at hb
    split at hb
    · rcases List.mem_append.mp hb with hb | hb
      · exact h.lt d b hb
      · rw [List.mem_singleton] at hb; subst hb; exact ha
    · exact h.lt k b hb
  · intro k b hb
    simp only [hg] at hb
    simp only [hs]
    split at hb
    · rename_i e; subst e
      rcases List.mem_append.mp hb with hb | hb
      · have := h.up k b hb
        simp only at this
        split <;> omega
      · rw [List.mem_singleton] at hb; subst hb; rw [if_pos rfl]; omega
    · have := h.up k b hb
      simp only at this
      split
      · rename_i e; subst e; omega
      · exact this
  · intro o ho
    simp only [hs] at ho ⊢
    simp only [hg]
    by_cases e : o = a
    · subst e
      rw [if_pos rfl]
      simp
    · rw [if_neg e] at ho ⊢
      have := h.top o ho
      simp only at this
      split
      · rename_i e2
        rw [e2] at this
        exact List.mem_append_left _ this
      · exact this
  · intro k hk
    simp only [hg]
    split
    · simp
    · rename_i e
      refine h.ne k ?_
      simp only [addAt_len hd] at hk
      simp only
      omega
  · intro k
    simp only [hg]
    split
    · rename_i e; subst e
      rw [List.nodup_append]
      refine ⟨h.nod k, by simp, ?_⟩
      intro x hx y hy
      rw [List.mem_singleton] at hy; subst hy
      intro e; subst e
      have := h.up k x hx
      simp only at this
      omega
    · exact h.nod k
  · intro k b c hb hc hne
    simp only [hg] at hb hc
    split at hb
    · rename_i e; subst e
      rw [if_pos rfl] at hc
      rcases List.mem_append.mp hb with hb1 | hb1 <;> rcases List.mem_append.mp hc with hc1 | hc1
      · exact h.ind k b c hb1 hc1 hne
      · rw [List.mem_singleton] at hc1; subst hc1
        rw [dl_symm]; exact hnot k (Nat.le_refl _) b hb1
      · rw [List.mem_singleton] at hb1; subst hb1
        exact hnot k (Nat.le_refl _) c hc1
      · rw [List.mem_singleton] at hb1 hc1; rw [hb1, hc1] at hne; exact absurd rfl hne
    · rename_i e
      rw [if_neg e] at hc
      exact h.ind k b c hb hc hne
  · intro k b hb
    have hmono : ∀ c k, c ∈ f.getD k [] → c ∈ (addAt f d a).getD k [] := fun c k hc => by
      rw [hg]; split
      · rename_i e; subst e; exact List.mem_append_left _ hc
      · exact hc
    simp only [hg] at hb
    split at hb
    · rename_i e
      rcases List.mem_append.mp hb with hb | hb
      · rw [← e] at hb
        obtain ⟨c, h1, h2⟩ := h.chain k b hb
        exact ⟨c, hmono c k h1, h2⟩
      · rw [List.mem_singleton] at hb; subst hb
        rcases hatt with h0 | ⟨o, h1, h2, h3⟩
        · omega
        · have h4 := h.top o (by simp only; omega)
          simp only at h4
          rw [h3] at h4
          have : d - 1 = k := by omega
          rw [this] at h4
          exact ⟨o, hmono o k h4, h2⟩
    · obtain ⟨c, h1, h2⟩ := h.chain k b hb
      exact ⟨c, hmono c k h1, h2⟩
  · intro p
    have h0 := h.plc p
    simp only at h0
    rw [addAt_eq hd]
    rw [flat_eq hd] at h0
    simp only [plw, List.filter_append, List.flatten_append, List.flatten_cons] at h0 ⊢
    rw [← h0]
    by_cases hp : p ∈ L.getD a []
    · have hz : ∀ k, d ≤ k → (f.getD k []).filter (fun x => decide (p ∈ L.getD x [])) = [] := fun k hk => by
        rw [List.filter_eq_nil_iff]
        intro x hx hpx
        have := hnot k hk x hx
        rw [dl_of hp (by simpa using hpx)] at this
        exact absurd this (by decide)
      have hz2 : (f.drop (d + 1)).flatten.filter (fun x => decide (p ∈ L.getD x [])) = [] := by
        rw [List.filter_eq_nil_iff]
        intro x hx hpx
        obtain ⟨r, hr, hxr⟩ := List.mem_flatten.mp hx
        obtain ⟨j, hj, e⟩ := List.mem_iff_getElem.mp hr
        simp at hj
        rw [List.getElem_drop] at e
        have h6 : d + 1 + j < f.length := by omega
        have h5 : f.getD (d + 1 + j) [] = r := by rw [← e]; simp [h6]
        have := hnot (d + 1 + j) (by omega) x (by rw [h5]; exact hxr)
        rw [dl_of hp (by simpa using hpx)] at this
        exact absurd this (by decide)
      rw [hz d (Nat.le_refl _), hz2]
      simp
    · have h1 : [a].filter (fun x => decide (p ∈ L.getD x [])) = [] := by
        simp only [List.filter_cons, hp, decide_false, Bool.false_eq_true, if_false, List.filter_nil]
      rw [h1]
      simp
theorem lrun_inv {C : Nat} {L : List (List Nat)} (hA : Alph C L) {w : List Nat} (hw : ∀ a, a ∈ w → a < L.length) : LInv L (lrun L w) w := by
  have : ∀ (v u : List Nat) (st : List (List Nat) × List Nat), LInv L st u → (∀ a, a ∈ v → a < L.length) → LInv L (v.foldl (stp L) st) (u ++ v) := by
    intro v
    induction v with
    | nil => intro u st h _; simpa using h
    | cons a v ih =>
      intro u st h hv
      have := ih (u ++ [a]) _ (LInv_step hA h (hv a (by simp))) fun b hb => hv b (by simp [hb])
      simpa using this
  have h0 : LInv L ([], List.replicate L.length 0) [] := by
    have hz : ∀ o, (List.replicate L.length 0).getD o 0 = 0 := fun o => by by_cases h : o < L.length <;> simp [h]
    refine ⟨LOk_zero L, by simp, by simp, fun o h => ?_, by simp, by simp, by simp, by simp, fun p => rfl⟩
    simp only [hz] at h; omega
  simpa [lrun] using this w [] _ h0 hw
/-! the same layers for words one swap apart -/
def LEq (s t : List (List Nat) × List Nat) : Prop := s.2 = t.2 ∧ s.1.length = t.1.length ∧ ∀ k, (s.1.getD k []).Perm (t.1.getD k [])
theorem LEq_step {L : List (List Nat)} {s t : List (List Nat) × List Nat} (h : LEq s t) (hs : LOk L s) (ht : LOk L t) (a : Nat) : LEq (stp L s a) (stp L t a) := by
  obtain ⟨f, dps⟩ := s
  obtain ⟨f', dps'⟩ := t
  obtain ⟨h1, h2, h3⟩ := h
  simp only at h1 h2 h3
  subst h1
  have hd := dpt_le (L := L) hs.2 (a := a) L.length
  have hd' := dpt_le (L := L) ht.2 (a := a) L.length
  simp only at hd hd'
  refine ⟨rfl, ?_, fun k => ?_⟩
  · simp only [stp, addAt_len hd, addAt_len hd', h2]
  · simp only [stp, addAt_getD hd, addAt_getD hd']
    split
    · exact List.Perm.append_right _ (h3 _)
    · exact h3 k
theorem LEq_run {L : List (List Nat)} : ∀ (v : List Nat) {s t : List (List Nat) × List Nat}, LEq s t → LOk L s → LOk L t → LEq (v.foldl (stp L) s) (v.foldl (stp L) t)
  | [], _, _, h, _, _ => h
  | a :: v, _, _, h, hs, ht => LEq_run v (LEq_step h hs ht a) (LOk_step hs a) (LOk_step ht a)
theorem dpt_set {L : List (List Nat)} {dps : List Nat} {a b x : Nat} (h : dl L b a = false) : ∀ n, dpt L (dps.set a x) b n = dpt L dps b n
  | 0 => rfl
  | n + 1 => by
    simp only [dpt, dpt_set h n]
    by_cases e : n = a
    · subst e; simp [h]
    · have : ¬ a = n := fun h => e h.symm
      have : (dps.set a x).getD n 0 = dps.getD n 0 := by simp [List.getD_eq_getElem?_getD, List.getElem?_set, this]
      rw [this]
theorem LEq_swap {L : List (List Nat)} {s : List (List Nat) × List Nat} (hs : LOk L s) {a b : Nat} (h : dl L a b = false) (hne : a ≠ b) : LEq (stp L (stp L s a) b) (stp L (stp L s b) a) := by
  have ha := LOk_step hs a
  have hb := LOk_step hs b
  have h' : dl L b a = false := by rw [dl_symm]; exact h
  have d1 := dpt_le (L := L) hs.2 (a := a) L.length
  have d2 := dpt_le (L := L) hs.2 (a := b) L.length
  have d3 := dpt_le (L := L) ha.2 (a := b) L.length
  have d4 := dpt_le (L := L) hb.2 (a := a) L.length
  obtain ⟨f, dps⟩ := s
  simp only [stp, dpt_set h', dpt_set h] at *
  generalize dpt L dps a L.length = da at *
  generalize dpt L dps b L.length = db at *
  refine ⟨?_, ?_, fun k => ?_⟩
  · exact List.set_comm _ _ hne
  · simp only [addAt_len d3, addAt_len d4, addAt_len d1, addAt_len d2]; omega
  · simp only [addAt_getD d3, addAt_getD d4, addAt_getD d1, addAt_getD d2]
    by_cases e1 : k = da <;> by_cases e2 : k = db
    · subst e1; subst e2
      simp only [if_true, List.append_assoc]
      exact List.Perm.append_left _ List.perm_append_comm
    · subst e1
      have : ¬ db = k := fun h => e2 h.symm
      simp [e2]
    · subst e2
      have : ¬ da = k := fun h => e1 h.symm
      simp [e1]
    · simp [e1, e2]
theorem srt_perm {l m : List Nat} (h : l.Perm m) : srt l = srt m := by
  have hp : (srt l).Perm (srt m) := (List.mergeSort_perm _ _).trans (h.trans (List.mergeSort_perm _ _).symm)
  have hs : ∀ l : List Nat, (srt l).Pairwise (fun a b => decide (a ≤ b) = true) := fun l => List.pairwise_mergeSort (by intro a b c; simp; omega) (by intro a b; simp; omega) _
  refine List.Perm.eq_of_pairwise ?_ (hs l) (hs m) hp
  intro a b _ _ h1 h2
  simp at h1 h2; omega
theorem lay_eq_of {L : List (List Nat)} {s t : List (List Nat) × List Nat} (h : LEq s t) : s.1.map srt = t.1.map srt := by
  apply List.ext_getElem
  · simp [h.2.1]
  · intro k h1 h2
    simp at h1 h2
    have := h.2.2 k
    have e1 : s.1.getD k [] = s.1[k] := by simp [h1]
    have e2 : t.1.getD k [] = t.1[k] := by simp [h2]
    rw [e1, e2] at this
    simp only [List.getElem_map, srt_perm this]
theorem lay_sw {C : Nat} {L : List (List Nat)} (hA : Alph C L) {w v : List Nat} (hw : WIn L w) (h : Sw L w v) : lay L v = lay L w := by
  induction h with
  | refl => rfl
  | @step u v a b hs hd ih =>
    rw [← ih]
    by_cases hne : a = b
    · subst hne; rfl
    · refine (lay_eq_of (L := L) ?_).symm
      have hu : LOk L (u.foldl (stp L) ([], List.replicate L.length 0)) := lrun_ok L u
      simp only [lrun, List.foldl_append, List.foldl_cons]
      exact LEq_run v (LEq_swap hu hd hne) (LOk_step (LOk_step hu a) b) (LOk_step (LOk_step hu b) a)
/-! Abm24: words up to order, plainly -/
/-- valid letters -/
def VL (C : Nat) (L : List (List Nat)) (w : List Nat) : Prop := ∀ a, a ∈ w → a < L.length
/-- the same letters at each place -/
def Alk (L : List (List Nat)) (u v : List Nat) : Prop := ∀ p, plw L u p = plw L v p
theorem Alk.refl {L : List (List Nat)} (u : List Nat) : Alk L u u := fun _ => rfl
theorem Alk.symm {L : List (List Nat)} {u v : List Nat} (h : Alk L u v) : Alk L v u := fun p => (h p).symm
theorem Alk.trans {L : List (List Nat)} {u v w : List Nat} (h : Alk L u v) (h' : Alk L v w) : Alk L u w := fun p => (h p).trans (h' p)
theorem plw_app {L : List (List Nat)} {u v : List Nat} {p : Nat} : plw L (u ++ v) p = plw L u p ++ plw L v p := List.filter_append ..
theorem plw_cons {L : List (List Nat)} {a : Nat} {u : List Nat} {p : Nat} : plw L (a :: u) p = if p ∈ L.getD a [] then a :: plw L u p else plw L u p := by
  simp only [plw, List.filter_cons, decide_eq_true_eq]
theorem Alk.app {L : List (List Nat)} {u v u' v' : List Nat} (h : Alk L u v) (h' : Alk L u' v') : Alk L (u ++ u') (v ++ v') := fun p => by rw [plw_app, plw_app, h p, h' p]
theorem Alk.cancel {L : List (List Nat)} {u v w : List Nat} (h : Alk L (u ++ v) (u ++ w)) : Alk L v w := fun p => by
  have := h p
  rw [plw_app, plw_app] at this
  exact List.append_cancel_left this
theorem plw_mem {L : List (List Nat)} {u : List Nat} {p a : Nat} : a ∈ plw L u p ↔ a ∈ u ∧ p ∈ L.getD a [] := by simp [plw]
/-- beyond the places there are no letters -/
theorem plw_far {C : Nat} {L : List (List Nat)} (hA : Alph C L) {u : List Nat} (hu : VL C L u) {p : Nat} (hp : C ≤ p) : plw L u p = [] := by
  rw [plw, List.filter_eq_nil_iff]
  intro a ha h
  have ha := hu a ha
  have e : L.getD a [] = L[a] := by simp [ha]
  rw [e] at h
  have := (hA.fit _ (List.getElem_mem ha)).2.2.2 p (by simpa using h)
  omega
theorem alk_Alk {C : Nat} {L : List (List Nat)} (hA : Alph C L) {u v : List Nat} (hu : VL C L u) (hv : VL C L v) : alk C L u v = true ↔ Alk L u v := by
  rw [alk_iff]
  constructor
  · intro h p
    by_cases hp : p < C
    · exact h p hp
    · rw [plw_far hA hu (by omega), plw_far hA hv (by omega)]
  · exact fun h p _ => h p
/-- a letter has a place -/
theorem has_place {C : Nat} {L : List (List Nat)} (hA : Alph C L) {a : Nat} (ha : a < L.length) : ∃ p, p ∈ L.getD a [] := by
  have e : L.getD a [] = L[a] := by simp [ha]
  have h2 := (hA.fit L[a] (List.getElem_mem ha)).1
  exact ⟨L[a][0], by rw [e]; exact List.getElem_mem h2⟩
theorem Alk.mem {C : Nat} {L : List (List Nat)} (hA : Alph C L) {u v : List Nat} (hu : VL C L u) (h : Alk L u v) {a : Nat} (ha : a ∈ u) : a ∈ v := by
  obtain ⟨p, hp⟩ := has_place hA (hu a ha)
  have : a ∈ plw L u p := plw_mem.mpr ⟨ha, hp⟩
  rw [h p] at this
  exact (plw_mem.mp this).1
/-- a letter that could come first: at each place of it the first letter -/
def Fst (L : List (List Nat)) (u : List Nat) (a : Nat) : Prop := a ∈ u ∧ ∀ p, p ∈ L.getD a [] → (plw L u p).head? = some a
theorem Fst.alk {C : Nat} {L : List (List Nat)} (hA : Alph C L) {u v : List Nat} (hu : VL C L u) (h : Alk L u v) {a : Nat} (hf : Fst L u a) : Fst L v a := ⟨h.mem hA hu hf.1, fun p hp => by rw [← h p]; exact hf.2 p hp⟩
/-- position k could come first -/
def canF (L : List (List Nat)) (w : List Nat) (k : Nat) : Bool := decide (((List.range k).filter fun j => de L w j k).length = 0)
theorem canF_iff {L : List (List Nat)} {w : List Nat} {k : Nat} : canF L w k = true ↔ ∀ j, j < k → de L w j k = false := by
  simp only [canF, decide_eq_true_eq, List.length_eq_zero_iff, List.filter_eq_nil_iff, List.mem_range, Bool.not_eq_true]
theorem take_no {L : List (List Nat)} {w : List Nat} {k : Nat} (hk : k < w.length) (h : canF L w k = true) {p : Nat} (hp : p ∈ L.getD w[k] []) : plw L (w.take k) p = [] := by
  rw [plw, List.filter_eq_nil_iff]
  intro a ha hpa
  obtain ⟨j, hj, e⟩ := List.mem_iff_getElem.mp ha
  simp at hj
  have h1 := canF_iff.mp h j (by omega)
  rw [List.getElem_take] at e
  have hjw : j < w.length := by omega
  have e1 : w.getD j 0 = w[j] := by simp [hjw]
  have e2 : w.getD k 0 = w[k] := by simp [hk]
  rw [de, e1, e2, e, dl_of (by simpa using hpa) hp] at h1
  exact absurd h1 (by decide)
theorem split_at {w : List Nat} {k : Nat} (hk : k < w.length) : w = w.take k ++ w[k] :: w.drop (k + 1) := by
  rw [← List.drop_eq_getElem_cons hk, List.take_append_drop]
theorem erase_at {w : List Nat} {k : Nat} : w.eraseIdx k = w.take k ++ w.drop (k + 1) := List.eraseIdx_eq_take_drop_succ w k
/-- taking a letter out that could come first -/
theorem tk_out {L : List (List Nat)} {w : List Nat} {k : Nat} (hk : k < w.length) (h : canF L w k = true) : Alk L (w[k] :: w.eraseIdx k) w := fun p => by
  have e : plw L w p = plw L (w.take k ++ w[k] :: w.drop (k + 1)) p := congrArg (fun l => plw L l p) (split_at hk)
  rw [e, plw_cons, erase_at, plw_app, plw_app, plw_cons]
  by_cases hp : p ∈ L.getD w[k] []
  · rw [if_pos hp, if_pos hp, take_no hk h hp]; rfl
  · rw [if_neg hp, if_neg hp]
theorem fst_of {L : List (List Nat)} {w : List Nat} {k : Nat} (hk : k < w.length) (h : canF L w k = true) : Fst L w w[k] := ⟨List.getElem_mem hk, fun p hp => by
  rw [← tk_out hk h p, plw_cons, if_pos hp]; rfl⟩
theorem fst_at {L : List (List Nat)} {w : List Nat} {a : Nat} (h : Fst L w a) : ∃ k, ∃ hk : k < w.length, canF L w k = true ∧ w[k] = a := by
  -- the first a
  have hf : ∃ k, w.findIdx? (fun x => decide (x = a)) = some k := by
    cases e : w.findIdx? (fun x => decide (x = a)) with
    | some k => exact ⟨k, rfl⟩
    | none =>
      rw [List.findIdx?_eq_none_iff] at e
      have := e a h.1
      simp at this
  obtain ⟨k, hk⟩ := hf
  obtain ⟨hkl, hka, hno⟩ := List.findIdx?_eq_some_iff_getElem.mp hk
  have hka : w[k] = a := by simpa using hka
  refine ⟨k, hkl, canF_iff.mpr fun j hj => ?_, hka⟩
  have hjw : j < w.length := by omega
  have e1 : w.getD j 0 = w[j] := by simp [hjw]
  have e2 : w.getD k 0 = w[k] := by simp [hkl]
  cases hd : de L w j k
  · rfl
  · rw [de, e1, e2, hka, dl, List.any_eq_true] at hd
    obtain ⟨p, hp1, hp2⟩ := hd
    have hp2 : p ∈ L.getD a [] := by simpa using hp2
    have hh := h.2 p hp2
    -- the head of what stands before k
    have hsp : plw L (w.take k ++ w.drop k) p = plw L w p := congrArg (fun l => plw L l p) (List.take_append_drop k w)
    rw [← hsp, plw_app] at hh
    have hmem : w[j] ∈ plw L (w.take k) p := plw_mem.mpr ⟨by rw [List.mem_take_iff_getElem]; exact ⟨j, by omega, rfl⟩, hp1⟩
    cases ht : plw L (w.take k) p with
    | nil => rw [ht] at hmem; exact absurd hmem (by simp)
    | cons x l =>
      rw [ht] at hh
      have hx : x = a := by simpa using hh
      have hxm : x ∈ plw L (w.take k) p := by rw [ht]; simp
      have hxt := (plw_mem.mp hxm).1
      obtain ⟨i, hi, e⟩ := List.mem_iff_getElem.mp hxt
      simp at hi
      rw [List.getElem_take] at e
      have := hno i (by omega)
      rw [e, hx] at this
      simp at this
def firsts (L : List (List Nat)) (w : List Nat) : List Nat := (List.range w.length).filter (canF L w)
theorem mem_firsts {L : List (List Nat)} {w : List Nat} {k : Nat} : k ∈ firsts L w ↔ k < w.length ∧ canF L w k = true := by simp [firsts]
theorem firsts_ne {L : List (List Nat)} {w : List Nat} (h : w ≠ []) : 0 ∈ firsts L w := mem_firsts.mpr ⟨List.length_pos_iff.mpr h, canF_iff.mpr fun j hj => absurd hj (by omega)⟩
/-- the place of the least letter among some -/
def bst (w : List Nat) (ks : List Nat) : Option Nat := ks.foldl (fun o k => match o with
  | none => some k
  | some b => if w.getD k 0 < w.getD b 0 then some k else some b) none
theorem bst_snoc {w ks : List Nat} {k : Nat} : bst w (ks ++ [k]) = match bst w ks with
  | none => some k
  | some b => if w.getD k 0 < w.getD b 0 then some k else some b := by simp only [bst, List.foldl_append, List.foldl_cons, List.foldl_nil]
theorem bst_spec {w : List Nat} {ks : List Nat} : (ks = [] ∧ bst w ks = none) ∨ ∃ b, bst w ks = some b ∧ b ∈ ks ∧ ∀ k, k ∈ ks → w.getD b 0 ≤ w.getD k 0 := by
  have : ∀ (n : Nat) (ks : List Nat), ks.length = n → (ks = [] ∧ bst w ks = none) ∨ ∃ b, bst w ks = some b ∧ b ∈ ks ∧ ∀ k, k ∈ ks → w.getD b 0 ≤ w.getD k 0 := by
    intro n
    induction n with
    | zero => intro ks h; left; exact ⟨List.length_eq_zero_iff.mp h, by rw [List.length_eq_zero_iff.mp h]; rfl⟩
    | succ n ih =>
      intro ks h
      have hne : ks ≠ [] := by intro e; rw [e] at h; simp at h
      have e := List.dropLast_concat_getLast hne
      have hl : ks.dropLast.length = n := by simp [h]
      right
      rw [← e, bst_snoc]
      rcases ih _ hl with ⟨h1, h2⟩ | ⟨b, h1, h2, h3⟩
      · rw [h2, h1]; exact ⟨_, rfl, by simp, by simp⟩
      · rw [h1]
        by_cases hlt : w.getD (ks.getLast hne) 0 < w.getD b 0
        · refine ⟨_, if_pos hlt, by simp, fun k hk => ?_⟩
          rcases List.mem_append.mp hk with hk | hk
          · have := h3 k hk; omega
          · rw [List.mem_singleton] at hk; rw [hk]; omega
        · refine ⟨_, if_neg hlt, by simp [h2], fun k hk => ?_⟩
          rcases List.mem_append.mp hk with hk | hk
          · exact h3 k hk
          · rw [List.mem_singleton] at hk; rw [hk]; omega
  exact this _ ks rfl
/-- the least form, by so many turns -/
def lfN (L : List (List Nat)) : Nat → List Nat → List Nat
  | 0, _ => []
  | n + 1, w => match bst w (firsts L w) with
    | none => []
    | some b => w.getD b 0 :: lfN L n (w.eraseIdx b)
def lf (L : List (List Nat)) (w : List Nat) : List Nat := lfN L w.length w
theorem bst_firsts {L : List (List Nat)} {w : List Nat} (h : w ≠ []) : ∃ b, bst w (firsts L w) = some b ∧ b < w.length ∧ canF L w b = true ∧ ∀ k, k ∈ firsts L w → w.getD b 0 ≤ w.getD k 0 := by
  rcases bst_spec (w := w) (ks := firsts L w) with ⟨h1, _⟩ | ⟨b, h1, h2, h3⟩
  · have := firsts_ne (L := L) h; rw [h1] at this; exact absurd this (by simp)
  · have := mem_firsts.mp h2; exact ⟨b, h1, this.1, this.2, h3⟩
theorem lfN_alk {L : List (List Nat)} : ∀ (n : Nat) (w : List Nat), w.length = n → Alk L (lfN L n w) w
  | 0, w, h => by rw [List.length_eq_zero_iff.mp h]; exact Alk.refl _
  | n + 1, w, h => by
    obtain ⟨b, h1, h2, h3, _⟩ := bst_firsts (L := L) (w := w) (by intro e; rw [e] at h; simp at h)
    have e : w.getD b 0 = w[b] := by simp [h2]
    simp only [lfN, h1, e]
    have ih := lfN_alk (L := L) n (w.eraseIdx b) (by rw [List.length_eraseIdx, if_pos h2]; omega)
    refine Alk.trans ?_ (tk_out h2 h3)
    exact Alk.app (u := [w[b]]) (v := [w[b]]) (Alk.refl _) ih
theorem lf_alk {L : List (List Nat)} (w : List Nat) : Alk L (lf L w) w := lfN_alk _ w rfl
theorem fst_letters {C : Nat} {L : List (List Nat)} (hA : Alph C L) {u v : List Nat} (hu : VL C L u) (h : Alk L u v) {k : Nat} (hk : k ∈ firsts L u) : ∃ j, j ∈ firsts L v ∧ v.getD j 0 = u.getD k 0 := by
  obtain ⟨h1, h2⟩ := mem_firsts.mp hk
  obtain ⟨j, hj, h3, h4⟩ := fst_at ((fst_of h1 h2).alk hA hu h)
  exact ⟨j, mem_firsts.mpr ⟨hj, h3⟩, by simp [hj, h1, h4]⟩
theorem Alk.cons_cancel {L : List (List Nat)} {a : Nat} {u v : List Nat} (h : Alk L (a :: u) (a :: v)) : Alk L u v := Alk.cancel (u := [a]) h
theorem alk_nil {C : Nat} {L : List (List Nat)} (hA : Alph C L) {v : List Nat} (hv : VL C L v) (h : Alk L [] v) : v = [] := by
  cases v with
  | nil => rfl
  | cons a v => exact absurd (h.symm.mem hA hv (a := a) (by simp)) (by simp)
theorem lfN_eq {C : Nat} {L : List (List Nat)} (hA : Alph C L) : ∀ (n : Nat) (u v : List Nat), u.length = n → VL C L u → VL C L v → Alk L u v → lfN L n u = lf L v
  | 0, u, v, hn, hu, hv, h => by
    rw [List.length_eq_zero_iff.mp hn] at h
    rw [alk_nil hA hv h]; rfl
  | n + 1, u, v, hn, hu, hv, h => by
    have hune : u ≠ [] := by intro e; rw [e] at hn; simp at hn
    have hvne : v ≠ [] := by intro e; rw [e] at h; exact hune (alk_nil hA hu h.symm)
    obtain ⟨b, b1, b2, b3, b4⟩ := bst_firsts (L := L) hune
    obtain ⟨c, c1, c2, c3, c4⟩ := bst_firsts (L := L) hvne
    have eb : u.getD b 0 = u[b] := by simp [b2]
    have ec : v.getD c 0 = v[c] := by simp [c2]
    obtain ⟨j, j1, j2⟩ := fst_letters hA hu h (mem_firsts.mpr ⟨b2, b3⟩)
    obtain ⟨i, i1, i2⟩ := fst_letters hA hv h.symm (mem_firsts.mpr ⟨c2, c3⟩)
    have hbc : u[b] = v[c] := by
      have q1 := c4 j j1; have q2 := b4 i i1
      rw [j2] at q1; rw [i2] at q2
      omega
    have hrest : Alk L (u.eraseIdx b) (v.eraseIdx c) := by
      have h1 := (tk_out b2 b3).trans (h.trans (tk_out c2 c3).symm)
      rw [hbc] at h1
      exact h1.cons_cancel
    have hvl : v.length = (v.eraseIdx c).length + 1 := by rw [List.length_eraseIdx, if_pos c2]; omega
    have ih := lfN_eq hA n (u.eraseIdx b) (v.eraseIdx c) (by rw [List.length_eraseIdx, if_pos b2]; omega) (fun a ha => hu a (List.mem_of_mem_eraseIdx ha)) (fun a ha => hv a (List.mem_of_mem_eraseIdx ha)) hrest
    rw [lf, hvl]
    simp only [lfN, b1, c1, eb, ec, hbc, ih]
    rfl
theorem lf_eq {C : Nat} {L : List (List Nat)} (hA : Alph C L) {u v : List Nat} (hu : VL C L u) (hv : VL C L v) (h : Alk L u v) : lf L u = lf L v := lfN_eq hA _ u v rfl hu hv h
theorem lf_len {L : List (List Nat)} : ∀ (n : Nat) (w : List Nat), w.length = n → (lfN L n w).Perm w
  | 0, w, h => by rw [List.length_eq_zero_iff.mp h]; exact List.Perm.refl _
  | n + 1, w, h => by
    obtain ⟨b, h1, h2, h3, _⟩ := bst_firsts (L := L) (w := w) (by intro e; rw [e] at h; simp at h)
    have e : w.getD b 0 = w[b] := by simp [h2]
    simp only [lfN, h1, e]
    have ih := lf_len (L := L) n (w.eraseIdx b) (by rw [List.length_eraseIdx, if_pos h2]; omega)
    refine (List.Perm.cons _ ih).trans ?_
    rw [erase_at]
    have := split_at h2
    conv => rhs; rw [this]
    exact List.perm_middle.symm
theorem lf_perm {L : List (List Nat)} (w : List Nat) : (lf L w).Perm w := lf_len _ w rfl
theorem lf_vl {C : Nat} {L : List (List Nat)} {w : List Nat} (h : VL C L w) : VL C L (lf L w) := fun a ha => h a ((lf_perm w).mem_iff.mp ha)
theorem lf_idem {C : Nat} {L : List (List Nat)} (hA : Alph C L) {w : List Nat} (h : VL C L w) : lf L (lf L w) = lf L w := lf_eq hA (lf_vl h) h (lf_alk w)
/-! Abm25: what is left behind a word; greatest common prefixes; crossings: plainly -/
def fp (L : List (List Nat)) (w : List Nat) (a : Nat) : Option Nat := (firsts L w).find? fun k => decide (w.getD k 0 = a)
theorem fp_some {L : List (List Nat)} {w : List Nat} {a k : Nat} (h : fp L w a = some k) : ∃ hk : k < w.length, canF L w k = true ∧ w[k] = a := by
  have h1 := mem_firsts.mp (List.mem_of_find?_eq_some h)
  have h2 := List.find?_some h
  simp only [decide_eq_true_eq] at h2
  exact ⟨h1.1, h1.2, by simpa [h1.1] using h2⟩
theorem fp_none {L : List (List Nat)} {w : List Nat} {a : Nat} (h : fp L w a = none) : ¬ Fst L w a := by
  intro hf
  obtain ⟨k, hk, h1, h2⟩ := fst_at hf
  have := List.find?_eq_none.mp h k (mem_firsts.mpr ⟨hk, h1⟩)
  simp [hk, h2] at this
theorem fp_out {L : List (List Nat)} {w : List Nat} {a k : Nat} (h : fp L w a = some k) : Alk L (a :: w.eraseIdx k) w := by
  obtain ⟨hk, h1, h2⟩ := fp_some h
  have := tk_out hk h1
  rw [h2] at this; exact this
def res (L : List (List Nat)) : List Nat → List Nat → Option (List Nat)
  | [], v => some v
  | a :: u, v => match fp L v a with
    | none => none
    | some k => res L u (v.eraseIdx k)
theorem erase_vl {C : Nat} {L : List (List Nat)} {w : List Nat} {k : Nat} (h : VL C L w) : VL C L (w.eraseIdx k) := fun a ha => h a (List.mem_of_mem_eraseIdx ha)
theorem res_some {C : Nat} {L : List (List Nat)} : ∀ {u v r : List Nat}, VL C L v → res L u v = some r → Alk L (u ++ r) v ∧ VL C L r ∧ r.length ≤ v.length
  | [], v, r, hv, h => by
    simp only [res, Option.some.injEq] at h
    subst h; exact ⟨Alk.refl _, hv, Nat.le_refl _⟩
  | a :: u, v, r, hv, h => by
    simp only [res] at h
    cases hf : fp L v a with
    | none => rw [hf] at h; cases h
    | some k =>
      rw [hf] at h
      obtain ⟨h1, h2, h3⟩ := res_some (erase_vl (k := k) hv) h
      obtain ⟨hk, _, _⟩ := fp_some hf
      refine ⟨?_, h2, ?_⟩
      · refine Alk.trans ?_ (fp_out hf)
        exact Alk.app (u := [a]) (v := [a]) (Alk.refl _) h1
      · rw [List.length_eraseIdx, if_pos hk] at h3; omega
theorem fst_cons {L : List (List Nat)} {a : Nat} {u : List Nat} : Fst L (a :: u) a := ⟨by simp, fun p hp => by rw [plw_cons, if_pos hp]; rfl⟩
theorem res_of {C : Nat} {L : List (List Nat)} (hA : Alph C L) : ∀ {u v r : List Nat}, VL C L u → VL C L r → VL C L v → Alk L (u ++ r) v → ∃ r', res L u v = some r' ∧ Alk L r' r
  | [], v, r, _, _, _, h => ⟨v, rfl, h.symm⟩
  | a :: u, v, r, hu, hr, hv, h => by
    have hur : VL C L (a :: u ++ r) := fun b hb => by
      rcases List.mem_append.mp hb with hb | hb
      · exact hu b hb
      · exact hr b hb
    have hf : Fst L v a := Fst.alk hA hur h fst_cons
    cases hfp : fp L v a with
    | none => exact absurd hf (fp_none hfp)
    | some k =>
      have h1 : Alk L (a :: (u ++ r)) (a :: v.eraseIdx k) := h.trans (fp_out hfp).symm
      obtain ⟨r', h2, h3⟩ := res_of hA (u := u) (v := v.eraseIdx k) (r := r) (fun b hb => hu b (by simp [hb])) hr (erase_vl hv) h1.cons_cancel
      exact ⟨r', by simp only [res, hfp, h2], h3⟩
/-- no letter could come first in both -/
def NoC (L : List (List Nat)) (r s : List Nat) : Prop := ∀ a, Fst L r a → ¬ Fst L s a
theorem NoC.alk {C : Nat} {L : List (List Nat)} (hA : Alph C L) {r s r' s' : List Nat} (hr : VL C L r') (hs : VL C L s') (h : NoC L r s) (h1 : Alk L r' r) (h2 : Alk L s' s) : NoC L r' s' := fun a ha hb => h a (ha.alk hA hr h1) (hb.alk hA hs h2)
theorem levi {C : Nat} {L : List (List Nat)} (hA : Alph C L) : ∀ {s r y v : List Nat}, VL C L s → VL C L r → VL C L y → VL C L v → Alk L (r ++ y) (s ++ v) → NoC L r s →
    (∀ a, a ∈ r → ∀ b, b ∈ s → dl L a b = false) ∧ ∃ q, VL C L q ∧ Alk L y (s ++ q) ∧ Alk L v (r ++ q)
  | [], r, y, v, _, _, hy, _, h, _ => ⟨by simp, y, hy, Alk.refl _, h.symm⟩
  | b :: s, r, y, v, hs, hr, hy, hv, h, hn => by
    have happ : ∀ {a b : List Nat}, VL C L a → VL C L b → VL C L (a ++ b) := fun ha hb c hc => by
      rcases List.mem_append.mp hc with hc | hc
      · exact ha c hc
      · exact hb c hc
    have hf : Fst L (r ++ y) b := Fst.alk hA (happ hs hv) h.symm fst_cons
    have hemp : ∀ p, p ∈ L.getD b [] → plw L r p = [] := by
      refine Classical.byContradiction fun hno => ?_
      have hex : ∃ p, p ∈ L.getD b [] ∧ plw L r p ≠ [] := Classical.byContradiction fun hx => hno fun p hp => Classical.byContradiction fun hq => hx ⟨p, hp, hq⟩
      obtain ⟨p, hp, hne⟩ := hex
      have hhd : ∀ p, p ∈ L.getD b [] → plw L r p ≠ [] → (plw L r p).head? = some b := fun p hp hne => by
        have := hf.2 p hp
        rw [plw_app] at this
        cases hq : plw L r p with
        | nil => exact absurd hq hne
        | cons x l => rw [hq] at this; simpa using this
      have hbr : b ∈ r := by
        have := hhd p hp hne
        have hm : b ∈ plw L r p := List.mem_of_mem_head? (by rw [this]; rfl)
        exact (plw_mem.mp hm).1
      exact hn b ⟨hbr, fun p hp => hhd p hp (fun e => by
        have : b ∈ plw L r p := plw_mem.mpr ⟨hbr, hp⟩
        rw [e] at this; exact absurd this (by simp))⟩ fst_cons
    have hind : ∀ a, a ∈ r → dl L a b = false := fun a ha => by
      cases hd : dl L a b
      · rfl
      · rw [dl, List.any_eq_true] at hd
        obtain ⟨p, hp1, hp2⟩ := hd
        have : a ∈ plw L r p := plw_mem.mpr ⟨ha, hp1⟩
        rw [hemp p (by simpa using hp2)] at this
        exact absurd this (by simp)
    have hfy : Fst L y b := by
      obtain ⟨p, hp⟩ := has_place hA (hs b (by simp))
      have hh : ∀ p, p ∈ L.getD b [] → (plw L y p).head? = some b := fun p hp => by
        have := hf.2 p hp
        rw [plw_app, hemp p hp] at this
        simpa using this
      have hm : b ∈ plw L y p := List.mem_of_mem_head? (by rw [hh p hp]; rfl)
      exact ⟨(plw_mem.mp hm).1, hh⟩
    obtain ⟨k, hk, k1, k2⟩ := fst_at hfy
    have hy1 : Alk L (b :: y.eraseIdx k) y := by have := tk_out hk k1; rw [k2] at this; exact this
    have hcomm : Alk L (b :: (r ++ y.eraseIdx k)) (r ++ y) := fun p => by
      rw [plw_cons, plw_app, plw_app, ← hy1 p, plw_cons]
      by_cases hp : p ∈ L.getD b []
      · rw [if_pos hp, if_pos hp, hemp p hp]; rfl
      · rw [if_neg hp, if_neg hp]
    have h2 : Alk L (r ++ y.eraseIdx k) (s ++ v) := (hcomm.trans h).cons_cancel
    have hn2 : NoC L r s := fun c hc1 hc2 => by
      refine hn c hc1 ⟨by simp [hc2.1], fun p hp => ?_⟩
      rw [plw_cons, if_neg]
      · exact hc2.2 p hp
      · intro hpb
        have := hind c hc1.1
        rw [dl_of hp hpb] at this
        exact absurd this (by decide)
    obtain ⟨h3, q, hq, h4, h5⟩ := levi hA (s := s) (fun c hc => hs c (by simp [hc])) hr (erase_vl hy) hv h2 hn2
    refine ⟨fun a ha c hc => ?_, q, hq, ?_, h5⟩
    · rcases List.mem_cons.mp hc with rfl | hc
      · exact hind a ha
      · exact h3 a ha c hc
    · exact hy1.symm.trans (Alk.app (u := [b]) (v := [b]) (Alk.refl _) h4)
/-! Abm21: words without end -/
theorem depth_tT (l : List Nat) : (toPD (.tup (l.map dN))).depth ≤ 10 := En.depth (f := tN) l
@[local simp] theorem plain_pr (l : List Nat) (b : Bool) : plain (.tup [.tup (l.map dN), .bl b]) = true := by
  have h1 := depth_tT l
  have h2 : (toPD (.bl b)).depth ≤ 10 := En.depth (f := D.bl) b
  have h3 : plain0 (.tup (l.map dN)) = true := En.plain0 (f := tN) l
  have h4 : plain0 (.bl b) = true := rfl
  have hd : (toPD (.tup [.tup (l.map dN), .bl b])).depth ≤ 60 := by
    have : toPD (.tup [.tup (l.map dN), .bl b]) = .tuple [toPD (.tup (l.map dN)), toPD (.bl b)] := rfl
    rw [this]
    generalize toPD (.tup (l.map dN)) = u at h1 ⊢
    generalize toPD (.bl b) = v at h2 ⊢
    simp only [PySem.PyData.depth, PySem.PyData.depthAll]
    omega
  simp only [plain, Bool.and_eq_true, decide_eq_true_eq]
  refine ⟨?_, hd⟩
  simp only [plain0, plains0] at h3 ⊢
  simp only [h3, Bool.and_self]
@[local simp] theorem eqD_pr (l m : List Nat) (a b : Bool) : eqD (.tup [.tup (l.map dN), .bl a]) (.tup [.tup (m.map dN), .bl b]) = (decide (l = m) && decide (a = b)) := by
  have h1 : PySem.PyData.eqv (toPD (.tup (l.map dN))) (toPD (.tup (m.map dN))) = decide (l = m) := En.eq (f := tN) l m
  have h2 : PySem.PyData.eqv (toPD (.bl a)) (toPD (.bl b)) = decide (a = b) := En.eq (f := D.bl) a b
  have e1 : ∀ (l : List Nat) (a : Bool), toPD (.tup [.tup (l.map dN), .bl a]) = .tuple [toPD (.tup (l.map dN)), toPD (.bl a)] := fun _ _ => rfl
  rw [eqD, e1, e1]
  simp only [PySem.PyData.eqv, PySem.PyData.eqvAll] at h1 h2 ⊢
  rw [h1, h2]
  simp
def PlaceOk (g : Callee) : Prop := ∀ (C : Nat) (L : List (List Nat)) (w : List Nat) (p : Nat), WIn L w → g [Al C L, .tup (w.map dN), .int p] = .ok (.tup ((plw L w p).map dN)) []
theorem place_ok {G : Env0A} {W : Nat} : PlaceOk (runF G W f_place_word) := by
  intro C L w p hw
  have hz : w.length ≤ 16777216 := by have := hw.1; omega
  have hc := compL_map (f := fun s => (evTo G W t_place_word_2 s).noRz) (g := fun s => (ev G W false e_place_word_1 s).noRz) (own := 3)
    (s := [some (Al C L), some (.tup (w.map dN)), some (.int p), none]) rfl dN (fun a => decide (p ∈ L.getD a [])) dN w fun a ha => by
      have ha := hw.2 a ha
      simp -implicitDefEqProofs [t_place_word_2, e_place_word_1, ha]
  change compL _ _ _ _ _ = Er.ok ((plw L w p).map dN) _ at hc
  simp at hc
  simp -implicitDefEqProofs [runF, f_place_word_eq, g_place_word, hz, hc]
/-- a word without end, as far as n times its turn -/
def lp (h t : List Nat) (n : Nat) : List Nat := h ++ (List.replicate n t).flatten
theorem lp_succ (h t : List Nat) (n : Nat) : lp h t (n + 1) = lp h t n ++ t := by
  simp only [lp, List.replicate_succ', List.flatten_append, List.flatten_cons, List.flatten_nil, List.append_nil, List.append_assoc]
theorem rep_len (t : List Nat) : ∀ n, (List.replicate n t).flatten.length = n * t.length
  | 0 => by simp
  | n + 1 => by simp only [List.replicate_succ, List.flatten_cons, List.length_append, rep_len t n]; rw [Nat.succ_mul]; omega
theorem lp_len (h t : List Nat) (n : Nat) : (lp h t n).length = h.length + n * t.length := by simp only [lp, List.length_append, rep_len]
/-- the letter at a place of a word without end -/
def inf (h t : List Nat) (i : Nat) : Nat := if i < h.length then h.getD i 0 else t.getD ((i - h.length) % t.length) 0
theorem rep_get (t : List Nat) : ∀ (n i : Nat), i < n * t.length → (List.replicate n t).flatten.getD i 0 = t.getD (i % t.length) 0
  | 0, i, h => absurd h (by simp)
  | n + 1, i, h => by
    simp only [List.replicate_succ, List.flatten_cons, List.getD_eq_getElem?_getD]
    by_cases hi : i < t.length
    · rw [List.getElem?_append_left hi, Nat.mod_eq_of_lt hi]
    · have ht : 0 < t.length := by
        rcases Nat.eq_zero_or_pos t.length with h0 | h0
        · rw [h0] at h; omega
        · exact h0
      rw [List.getElem?_append_right (by omega)]
      have := rep_get t n (i - t.length) (by rw [Nat.succ_mul] at h; omega)
      simp only [List.getD_eq_getElem?_getD] at this
      rw [this]
      congr 2
      exact (Nat.mod_eq_sub_mod (by omega)).symm
theorem lp_get {h t : List Nat} {n i : Nat} (hi : i < (lp h t n).length) : (lp h t n).getD i 0 = inf h t i := by
  rw [lp_len] at hi
  simp only [lp, inf, List.getD_eq_getElem?_getD]
  by_cases h1 : i < h.length
  · rw [if_pos h1, List.getElem?_append_left h1]
  · rw [if_neg h1, List.getElem?_append_right (by omega)]
    have := rep_get t n (i - h.length) (by omega)
    simpa only [List.getD_eq_getElem?_getD] using this
theorem take_eq_iff {h1 t1 h2 t2 : List Nat} {m1 m2 n : Nat} (l1 : n ≤ (lp h1 t1 m1).length) (l2 : n ≤ (lp h2 t2 m2).length) : (lp h1 t1 m1).take n = (lp h2 t2 m2).take n ↔ ∀ i, i < n → inf h1 t1 i = inf h2 t2 i := by
  constructor
  · intro h i hi
    rw [← lp_get (n := m1) (by omega), ← lp_get (n := m2) (by omega)]
    have := congrArg (fun l => l.getD i 0) h
    simpa [List.getD_eq_getElem?_getD, List.getElem?_take, hi] using this
  · intro h
    apply List.ext_getElem
    · simp; omega
    · intro i hi1 hi2
      simp at hi1
      have h3 := h i (by omega)
      rw [← lp_get (n := m1) (by omega), ← lp_get (n := m2) (by omega)] at h3
      have a1 : i < (lp h1 t1 m1).length := by omega
      have a2 : i < (lp h2 t2 m2).length := by omega
      simp only [List.getElem_take]
      simpa [a1, a2] using h3
theorem inf_per {h t : List Nat} (ht : 0 < t.length) {i : Nat} (hi : h.length ≤ i) : inf h t (i + t.length) = inf h t i := by
  simp only [inf]
  rw [if_neg (by omega), if_neg (by omega)]
  have : i + t.length - h.length = (i - h.length) + t.length := by omega
  rw [this, Nat.add_mod_right]
/-- two words without end that agree for long agree for ever -/
theorem inf_ever {h1 t1 h2 t2 : List Nat} (p1 : 0 < t1.length) (p2 : 0 < t2.length) {M : Nat} (m1 : h1.length ≤ M) (m2 : h2.length ≤ M) (h : ∀ i, i < M + t1.length + t2.length → inf h1 t1 i = inf h2 t2 i) : ∀ i, inf h1 t1 i = inf h2 t2 i := by
  intro i
  induction i using Nat.strongRecOn with
  | ind i ih =>
    by_cases hi : i < M + t1.length + t2.length
    · exact h i hi
    · have e1 : inf h1 t1 i = inf h1 t1 (i - t1.length) := by
        have := inf_per (h := h1) p1 (i := i - t1.length) (by omega)
        rwa [Nat.sub_add_cancel (by omega)] at this
      have e2 : inf h2 t2 (i - t1.length) = inf h2 t2 (i - t1.length - t2.length) := by
        have := inf_per (h := h2) p2 (i := i - t1.length - t2.length) (by omega)
        rwa [Nat.sub_add_cancel (by omega)] at this
      have e3 : inf h1 t1 (i - t2.length) = inf h1 t1 (i - t1.length - t2.length) := by
        have := inf_per (h := h1) p1 (i := i - t1.length - t2.length) (by omega)
        have e : i - t1.length - t2.length + t1.length = i - t2.length := by omega
        rwa [e] at this
      have e4 : inf h2 t2 i = inf h2 t2 (i - t2.length) := by
        have := inf_per (h := h2) p2 (i := i - t2.length) (by omega)
        rwa [Nat.sub_add_cancel (by omega)] at this
      rw [e1, ih (i - t1.length) (by omega), e2, ← ih (i - t1.length - t2.length) (by omega), ← e3, ih (i - t2.length) (by omega), e4]
/-- a beginning -/
def beg (h t : List Nat) (n : Nat) : List Nat := if t = [] then h.take n else (lp h t n).take n
def BegOk (g : Callee) : Prop := ∀ (h t : List Nat) (n : Nat), h.length ≤ 1000 → t.length ≤ 1000 → n ≤ 1000 → g [.tup (h.map dN), .tup (t.map dN), .int n] = .ok (.tup ((beg h t n).map dN)) []
theorem take_lp {h t : List Nat} (ht : 0 < t.length) {n m : Nat} (hm : n ≤ (lp h t m).length) : (lp h t m).take n = (lp h t n).take n := by
  refine (take_eq_iff hm ?_).mpr fun _ _ => rfl
  rw [lp_len]
  have : n * 1 ≤ n * t.length := Nat.mul_le_mul_left n ht
  omega
theorem beg_ok {G : Env0A} {W : Nat} (hW : 1000000 ≤ W) : BegOk (runF G W f_beginning) := by
  intro h t n hh ht hn
  by_cases h0 : t = []
  · subst h0
    obtain ⟨m, hm⟩ : ∃ m, W = m + 1 := ⟨W - 1, by omega⟩
    have e : whileL (fun s => evT G W t_beginning_1 s) (fun s => exs G W [] b_beginning_2 s) W [some (.tup (h.map dN)), some (.tup []), some (.int n), some (.tup (h.map dN))] = .nx [some (.tup (h.map dN)), some (.tup []), some (.int n), some (.tup (h.map dN))] := by
      have : evT G W t_beginning_1 [some (.tup (h.map dN)), some (.tup []), some (.int n), some (.tup (h.map dN))] = .ok false [some (.tup (h.map dN)), some (.tup []), some (.int n), some (.tup (h.map dN))] := by
        simp -implicitDefEqProofs [t_beginning_1]
      conv => lhs; arg 3; rw [hm]
      rw [whileL, this]
    simp -implicitDefEqProofs [runF, f_beginning_eq, g_beginning, e, beg]
  · have htl : 0 < t.length := List.length_pos_iff.mpr h0
    obtain ⟨s', e, m, hs, hm⟩ := whileL_inv (c := fun s => evT G W t_beginning_1 s) (st := fun s => exs G W [] b_beginning_2 s)
      (I := fun k s => ∃ m, s = [some (.tup (h.map dN)), some (.tup (t.map dN)), some (.int n), some (.tup ((lp h t m).map dN))] ∧ k = n - (lp h t m).length ∧ (lp h t m).length ≤ 3000)
      (Q := fun s => ∃ m, s = [some (.tup (h.map dN)), some (.tup (t.map dN)), some (.int n), some (.tup ((lp h t m).map dN))] ∧ n ≤ (lp h t m).length)
      (fun k s hi => by
        obtain ⟨m, rfl, hk, hz⟩ := hi
        have htl' : (0 : Int) < (t.length : Int) := by omega
        by_cases hlt : (lp h t m).length < n
        · right
          have hlt' : ((lp h t m).length : Int) < (n : Int) := by omega
          have hl := lp_succ h t m
          have hz2 : (lp h t m).length + t.length ≤ 16777216 := by omega
          have hl2 : (lp h t (m + 1)).length = (lp h t m).length + t.length := by rw [hl]; simp
          refine ⟨[some (.tup (h.map dN)), some (.tup (t.map dN)), some (.int n), some (.tup ((lp h t m).map dN))], [some (.tup (h.map dN)), some (.tup (t.map dN)), some (.int n), some (.tup ((lp h t (m + 1)).map dN))], n - (lp h t (m + 1)).length, ?_, .inl ?_, ⟨m + 1, rfl, rfl, by omega⟩, by omega⟩
          · generalize lp h t m = l at hlt hlt'
            simp -implicitDefEqProofs [t_beginning_1, htl, htl', h0, hlt, hlt']
          · rw [hl]
            generalize lp h t m = l at hz2
            simp -implicitDefEqProofs [b_beginning_2, hz2]
        · left
          have hlt' : ¬ (((lp h t m).length : Int) < (n : Int)) := by omega
          refine ⟨[some (.tup (h.map dN)), some (.tup (t.map dN)), some (.int n), some (.tup ((lp h t m).map dN))], ?_, m, rfl, by omega⟩
          generalize lp h t m = l at hlt hlt'
          simp -implicitDefEqProofs [t_beginning_1, htl, htl', h0, hlt, hlt'])
      W (n - h.length) (s := [some (.tup (h.map dN)), some (.tup (t.map dN)), some (.int n), some (.tup (h.map dN))]) ⟨0, by simp [lp], by simp [lp], by simp [lp]; omega⟩ (by omega)
    rw [hs] at e
    have hb : (lp h t m).take n = beg h t n := by rw [take_lp htl hm, beg, if_neg h0]
    rw [← hb]
    generalize lp h t m = l at e
    simp -implicitDefEqProofs [runF, f_beginning_eq, g_beginning, e]
/-! Abm22: same_loop and what the law asks of it -/
def repD (n : Nat) (ds : List D) : List D := (List.replicate n ds).flatten
@[local simp] theorem mul_tup {ds : List D} {j : Int} : bin .mul (.tup ds) (.int j) = if decide (-1000 ≤ j ∧ j ≤ 1000 ∧ ds.length ≤ 1000) then some (.tup (repD j.toNat ds)) else none := rfl
theorem rep_map (l : List Nat) (n : Nat) : repD n (l.map dN) = ((List.replicate n l).flatten).map dN := by
  simp only [repD]
  induction n with
  | zero => rfl
  | succ n ih => simp only [List.replicate_succ, List.flatten_cons, ih, List.map_append]
def pr (h t : List Nat) : D := .tup [.tup (h.map dN), .tup (t.map dN)]
@[local simp] theorem pr_ap (h t : List Nat) : pr h t = .tup [.tup (h.map dN), .tup (t.map dN)] := rfl
def lngW (u v : List Nat) : List Nat := if v = [] then u else (lp u v 80).take 80
def lng (L : List (List Nat)) (h t : List Nat) (p : Nat) : List Nat := lngW (plw L h p) (plw L t p)
def LongOk (g : Callee) : Prop := ∀ (C : Nat) (L : List (List Nat)) (h t : List Nat) (p : Nat), Alph C L → WIn L h → WIn L t → g [.lst false (L.map tN), pr h t, .int p] = .ok (.tup [.tup ((lng L h t p).map dN), .bl (decide (plw L t p = []))]) []
theorem plw_len {L : List (List Nat)} {w : List Nat} {p : Nat} : (plw L w p).length ≤ w.length := List.length_filter_le _ _
theorem long_ok {G : Env0A} {W : Nat} (h : Has G 15 LPlaceOk) : LongOk (runF G W f_l_long) := by
  intro C L hd tl p hA hh ht
  obtain ⟨g, hg, hp⟩ := h
  have e1 := hp C L hd p hA hh
  have e2 := hp C L tl p hA ht
  have hl1 := plw_len (L := L) (w := hd) (p := p)
  have hl2 := plw_len (L := L) (w := tl) (p := p)
  have hw1 := hh.1
  have hw2 := ht.1
  simp only [lng]
  generalize plw L hd p = u at e1 hl1 ⊢
  generalize plw L tl p = v at e2 hl2 ⊢
  by_cases h0 : v = []
  · subst h0
    simp -implicitDefEqProofs [runF, f_l_long_eq, g_l_long, hg, e1, e2, lngW]
  · have h0' : ¬ ((v.length : Int) = 0) := by have := List.length_pos_iff.mpr h0; omega
    have hv : v.length ≤ 1000 := by omega
    have hr := rep_len v 80
    have hc : ∀ l : List D, cut l none (some 80) = l.take 80 := fun l => cut_take l 80
    have hlp : lp u v 80 = u ++ (List.replicate 80 v).flatten := rfl
    have hrep := rep_map v 80
    rw [lngW, if_neg h0, hlp]
    generalize (List.replicate 80 v).flatten = q at hr hrep
    have hz2 : u.length + q.length ≤ 16777216 := by omega
    have hfin : ((u.map dN) ++ (q.map dN)).take 80 = ((u ++ q).take 80).map dN := by rw [List.map_take, List.map_append]
    simp -implicitDefEqProofs [-List.map_append, -List.map_take, runF, f_l_long_eq, g_l_long, hg, e1, e2, h0, h0', hv, hz2, hc, hrep, hfin]
/-- two loops have the same word at a place -/
def agrW (a b c d : List Nat) : Bool :=
  decide (decide (b = []) = decide (d = [])) && decide (beg a b (max a.length c.length + b.length + d.length) = beg c d (max a.length c.length + b.length + d.length))
def agr (L : List (List Nat)) (h t h' t' : List Nat) (p : Nat) : Bool := agrW (plw L h p) (plw L t p) (plw L h' p) (plw L t' p)
theorem agrW_iff {a b c d : List Nat} (hz : a.length + c.length + b.length + d.length ≤ 80) : agrW a b c d = (decide (lngW a b = lngW c d) && decide (decide (b = []) = decide (d = []))) := by
  simp only [agrW]
  rw [Bool.and_comm]
  by_cases hb : b = [] <;> by_cases hd : d = []
  · subst hb; subst hd
    have e1 : a.take (max a.length c.length) = a := List.take_of_length_le (by omega)
    have e2 : c.take (max a.length c.length) = c := List.take_of_length_le (by omega)
    simp [beg, lngW, e1, e2]
  · simp [hb, hd]
  · simp [hb, hd]
  · have pb : 0 < b.length := List.length_pos_iff.mpr hb
    have pd : 0 < d.length := List.length_pos_iff.mpr hd
    have hlen : ∀ (x y : List Nat) (n : Nat), 0 < y.length → n ≤ (lp x y n).length := fun x y n hy => by
      rw [lp_len]
      have : n * 1 ≤ n * y.length := Nat.mul_le_mul_left n hy
      omega
    have key : (beg a b (max a.length c.length + b.length + d.length) = beg c d (max a.length c.length + b.length + d.length)) ↔ lngW a b = lngW c d := by
      simp only [beg, lngW, if_neg hb, if_neg hd]
      rw [take_eq_iff (hlen a b _ pb) (hlen c d _ pd), take_eq_iff (hlen a b 80 pb) (hlen c d 80 pd)]
      constructor
      · intro h i _
        exact inf_ever pb pd (M := max a.length c.length) (by omega) (by omega) h i
      · intro h i hi
        exact h i (by omega)
    rw [decide_eq_decide.mpr key]
theorem agr_iff {L : List (List Nat)} {h t h' t' : List Nat} {p : Nat} (hz : h.length + h'.length + t.length + t'.length ≤ 80) : agr L h t h' t' p = (decide (lng L h t p = lng L h' t' p) && decide (decide (plw L t p = []) = decide (plw L t' p = []))) := by
  have l1 := plw_len (L := L) (w := h) (p := p)
  have l2 := plw_len (L := L) (w := t) (p := p)
  have l3 := plw_len (L := L) (w := h') (p := p)
  have l4 := plw_len (L := L) (w := t') (p := p)
  exact agrW_iff (by omega)
def SameOk (g : Callee) : Prop := ∀ (C : Nat) (L : List (List Nat)) (h t h' t' : List Nat), Alph C L → WIn L h → WIn L t → WIn L h' → WIn L t' → h.length + h'.length + t.length + t'.length ≤ 80 →
  g [Al C L, pr h t, pr h' t'] = .ok (.bl (!(List.range C).any fun p => !agr L h t h' t' p)) []
theorem same_ok {G : Env0A} {W : Nat} (hP : Has G 12 PlaceOk) (hB : Has G 197 BegOk) : SameOk (runF G W f_same_loop) := by
  intro C L h t h' t' hA w1 w2 w3 w4 hz
  obtain ⟨gP, hgP, hP⟩ := hP
  obtain ⟨gB, hgB, hB⟩ := hB
  have h1 : C < 1000000 := by have := hA.c4; omega
  have := for_find (st := fun s => exs G W [] b_same_loop_3 s) (g := .name 3) (.bl false) dN (List.range C) (fun p => !agr L h t h' t' p)
    (fun _ s => ∃ x3 x4 x6 x7, s = [some (Al C L), some (pr h t), some (pr h' t'), x3, x4, none, x6, x7]) (s := [some (Al C L), some (pr h t), some (pr h' t'), none, none, none, none, none]) ⟨none, none, none, none, rfl⟩ fun p hp s hs => by
      obtain ⟨x3, x4, x6, x7, rfl⟩ := hs
      simp only [List.getElem_range]
      have e1 := hP C L h p w1
      have e2 := hP C L t p w2
      have e3 := hP C L h' p w3
      have e4 := hP C L t' p w4
      have l1 := plw_len (L := L) (w := h) (p := p)
      have l2 := plw_len (L := L) (w := t) (p := p)
      have l3 := plw_len (L := L) (w := h') (p := p)
      have l4 := plw_len (L := L) (w := t') (p := p)
      have hag : agr L h t h' t' p = agrW (plw L h p) (plw L t p) (plw L h' p) (plw L t' p) := rfl
      generalize agr L h t h' t' p = ag at hag ⊢
      generalize plw L h p = a at *
      generalize plw L t p = b at *
      generalize plw L h' p = c at *
      generalize plw L t' p = d at *
      simp only [agrW] at hag
      have hm : (if (a.length : Int) < (c.length : Int) then (c.length : Int) else (a.length : Int)) + (b.length : Int) + (d.length : Int) = ((max a.length c.length + b.length + d.length : Nat) : Int) := by
        split <;> omega
      generalize hn : max a.length c.length + b.length + d.length = n at hm
      have e5 := hB a b n (by omega) (by omega) (by omega)
      have e6 := hB c d n (by omega) (by omega) (by omega)
      have z : ∀ l : List Nat, ((l.length : Int) = 0) ↔ l = [] := fun l => by
        constructor
        · intro h; exact List.length_eq_zero_iff.mp (by omega)
        · intro h; rw [h]; rfl
      rw [hn] at hag
      simp at e1 e3 e2 e4 e5 e6
      by_cases he : beg a b n = beg c d n <;> rcases Classical.em (b = []) with rfl | hb <;> rcases Classical.em (d = []) with rfl | hd <;>
        simp_all -implicitDefEqProofs [b_same_loop_3, compL, e_same_loop_1, e_same_loop_2]
  cases hb : (List.range C).any fun p => !agr L h t h' t' p
  · rw [hb] at this
    simp only [Bool.false_eq_true, if_false] at this
    obtain ⟨s', e, x3, x4, x6, x7, rfl⟩ := this
    simp at e
    simp -implicitDefEqProofs [runF, f_same_loop_eq, g_same_loop, h1, e]
  · rw [hb] at this
    simp only [if_true] at this
    obtain ⟨s', e⟩ := this
    simp at e
    simp -implicitDefEqProofs [runF, f_same_loop_eq, g_same_loop, h1, e]
/-! Abm26: least forms, what is left, greatest common prefixes: what the code computes -/
def blk (L : List (List Nat)) (w : List Nat) : Nat → Nat
  | 0 => 0
  | k + 1 => blk L w k ||| msk L (w.getD k 0) L.length
theorem blk_bit (L : List (List Nat)) (w : List Nat) (b : Nat) (hb : b < L.length) : ∀ k, (blk L w k).testBit b = (List.range k).any fun j => dl L (w.getD j 0) b
  | 0 => by simp [blk]
  | k + 1 => by
    simp only [blk, Nat.testBit_or, blk_bit L w b hb k, msk_bit, hb, decide_true, Bool.true_and, List.range_succ, List.any_append, List.any_cons, List.any_nil, Bool.or_false]
theorem canF_any {L : List (List Nat)} {w : List Nat} {k : Nat} : canF L w k = !(List.range k).any fun j => dl L (w.getD j 0) (w.getD k 0) := by
  rw [Bool.eq_iff_iff, canF_iff]
  simp only [Bool.not_eq_true', List.any_eq_false, List.mem_range, de, Bool.not_eq_true]
def FirstsOk (g : Callee) : Prop := ∀ (C : Nat) (L : List (List Nat)) (w : List Nat) (dw : D), Alph C L → IsW dw w → WIn L w → g [Al C L, dw] = .ok (.lst true ((firsts L w).map dN)) []
theorem firsts_ok {G : Env0A} {W : Nat} (h : Has G 24 MasksOk) : FirstsOk (runF G W f_first_letters) := by
  intro C L w dw hA hd hw
  obtain ⟨g, hg, hm⟩ := h
  have hm := hm C L hA
  have := for_ok (st := fun s => exs G W [] b_first_letters_1 s) (g := .name 5) dN (List.range w.length)
    (fun k s => ∃ x5, s = [some (Al C L), some dw, some (.lst true (((List.range k).filter (canF L w)).map dN)), some (.int (blk L w k : Nat)), some (.lst true ((mks L).map dN)), x5])
    (s := [some (Al C L), some dw, some (.lst true []), some (.int 0), some (.lst true ((mks L).map dN)), none]) ⟨none, rfl⟩ fun k hk s hs => by
      obtain ⟨x5, rfl⟩ := hs
      simp at hk
      have ha := hw.2 _ (List.getElem_mem hk)
      have ew : w.getD k 0 = w[k] := by simp [hk]
      have h1 := band_bit (blk L w k) w[k]
      rw [blk_bit L w _ ha] at h1
      have hc := canF_any (L := L) (w := w) (k := k)
      rw [ew] at hc
      have h2 := bitOr_nat (blk L w k) (msk L w[k] L.length)
      have h3 : ((mks L).map dN)[w[k]]? = some (.int (msk L w[k] L.length : Nat)) := by simp [mks, ha]
      have h4 : blk L w (k + 1) = blk L w k ||| msk L w[k] L.length := by simp [blk, hk]
      have hfl : ((List.range k).filter (canF L w)).length < 16777216 := by
        have h5 := List.length_filter_le (canF L w) (List.range k)
        rw [List.length_range] at h5
        have := hw.1
        omega
      have hr : (List.range (k + 1)).filter (canF L w) = (List.range k).filter (canF L w) ++ (if canF L w k then [k] else []) := by
        rw [List.range_succ, List.filter_append]
        congr 1
        cases hq : canF L w k <;> simp [hq]
      rw [h4, hr]
      generalize (List.range k).any (fun j => dl L (w.getD j 0) w[k]) = t at h1 hc
      rw [hc]
      generalize blk L w k = b at h1 h2 ⊢
      generalize msk L w[k] L.length = m at h2 h3 ⊢
      generalize (mks L).map dN = M at h3 ⊢
      generalize (List.range k).filter (canF L w) = F at hfl ⊢
      cases t
      · simp at h1
        rcases hd with rfl | rfl <;> simp -implicitDefEqProofs [b_first_letters_1, hk, h1, h2, h3, hfl]
      · simp at h1
        rcases hd with rfl | rfl <;> simp -implicitDefEqProofs [b_first_letters_1, hk, h1, h2, h3, hfl]
  obtain ⟨s', e, x5, rfl⟩ := this
  have hl : w.length < 1000000 := by have := hw.1; omega
  have hf : firsts L w = (List.range w.length).filter (canF L w) := rfl
  rw [List.length_range, ← hf] at e
  simp at e hm
  rcases hd with rfl | rfl <;> simp -implicitDefEqProofs [runF, f_first_letters_eq, g_first_letters, hg, hm, hl, e]
def nb (o : Option Nat) : Int := match o with
  | none => -1
  | some b => (b : Nat)
theorem map_erase (l : List Nat) (k : Nat) : (l.map dN).eraseIdx k = (l.eraseIdx k).map dN := by
  rw [List.eraseIdx_eq_take_drop_succ, List.eraseIdx_eq_take_drop_succ]
  simp
theorem best_in {G : Env0A} {W : Nat} (r ks : List Nat) (hks : ∀ k, k ∈ ks → k < r.length) (x0 x1 x3 : Option D) (x5 : Option D) :
    ∃ y5, forL (fun s => exs G W [] b_least_form_1 s) (.name 5) (ks.map dN) [x0, x1, some (.lst true (r.map dN)), x3, some (.int (-1)), x5] = .nx [x0, x1, some (.lst true (r.map dN)), x3, some (.int (nb (bst r ks))), y5] := by
  obtain ⟨s', e, y5, hs⟩ := for_ok (st := fun s => exs G W [] b_least_form_1 s) (g := .name 5) dN ks
    (fun n s => ∃ y5, s = [x0, x1, some (.lst true (r.map dN)), x3, some (.int (nb (bst r (ks.take n)))), y5])
    (s := [x0, x1, some (.lst true (r.map dN)), x3, some (.int (-1)), x5]) ⟨x5, rfl⟩ fun n hn s hs => by
      obtain ⟨y5, rfl⟩ := hs
      have hk := hks _ (List.getElem_mem hn)
      rw [List.take_succ_eq_append_getElem hn, bst_snoc]
      rcases bst_spec (w := r) (ks := ks.take n) with ⟨_, h2⟩ | ⟨b, h2, h3, _⟩
      · rw [h2]
        simp -implicitDefEqProofs [b_least_form_1, nb]
      · rw [h2]
        have hb := hks b (List.mem_of_mem_take h3)
        have e1 : r.getD ks[n] 0 = r[ks[n]] := by simp [hk]
        have e2 : r.getD b 0 = r[b] := by simp [hb]
        have hb0 : ¬ ((b : Int) < 0) := by omega
        simp only [e1, e2]
        generalize ks[n] = k at hk ⊢
        by_cases hlt : r[k] < r[b]
        · have hlt' : (r[k] : Int) < (r[b] : Int) := by omega
          simp -implicitDefEqProofs [b_least_form_1, nb, hb0, hk, hb, hlt, hlt']
        · have hlt' : ¬ ((r[k] : Int) < (r[b] : Int)) := by omega
          simp -implicitDefEqProofs [b_least_form_1, nb, hb0, hk, hb, hlt, hlt']
  refine ⟨y5, ?_⟩
  rw [e, hs, List.take_length]
def LeastFOk (g : Callee) : Prop := ∀ (C : Nat) (L : List (List Nat)) (w : List Nat) (dw : D), Alph C L → IsW dw w → WIn L w → g [Al C L, dw] = .ok (.tup ((lf L w).map dN)) []
theorem lf_step {L : List (List Nat)} {r : List Nat} {b : Nat} (h1 : bst r (firsts L r) = some b) (hb : b < r.length) : lf L r = r[b] :: lf L (r.eraseIdx b) := by
  have hl : r.length = (r.eraseIdx b).length + 1 := by rw [List.length_eraseIdx, if_pos hb]; omega
  rw [lf, hl]
  simp only [lfN, h1]
  simp [hb, lf]
theorem leastF_ok {G : Env0A} {W : Nat} (h : Has G 29 FirstsOk) (hW : 1000000 ≤ W) : LeastFOk (runF G W f_least_form) := by
  intro C L w dw hA hd hw
  obtain ⟨g, hg, hf⟩ := h
  have hwl := hw.1
  obtain ⟨s', e, r, f, x4, x5, hs, hfr⟩ := whileL_inv (c := fun s => evT G W t_least_form_2 s) (st := fun s => exs G W [] b_least_form_3 s)
    (I := fun m s => ∃ (r f : List Nat) (x4 x5 : Option D), s = [some (Al C L), some dw, some (.lst true (r.map dN)), some (.lst true (f.map dN)), x4, x5] ∧ f ++ lf L r = lf L w ∧ m = r.length ∧ WIn L r ∧ f.length + r.length ≤ 1000)
    (Q := fun s => ∃ (r f : List Nat) (x4 x5 : Option D), s = [some (Al C L), some dw, some (.lst true (r.map dN)), some (.lst true (f.map dN)), x4, x5] ∧ f = lf L w)
    (fun m s hi => by
      obtain ⟨r, f, x4, x5, rfl, h1, h2, h3, h4⟩ := hi
      by_cases h0 : r = []
      · left
        subst h0
        refine ⟨[some (Al C L), some dw, some (.lst true []), some (.lst true (f.map dN)), x4, x5], ?_, [], f, x4, x5, rfl, by rw [← h1]; simp [lf, lfN]⟩
        simp -implicitDefEqProofs [t_least_form_2]
      · right
        have hpos := List.length_pos_iff.mpr h0
        have hpos' : (0 : Int) < (r.length : Int) := by omega
        obtain ⟨b, b1, b2, b3, _⟩ := bst_firsts (L := L) h0
        have hf := hf C L r (.lst false (r.map dN)) hA (.inr rfl) h3
        obtain ⟨y5, e2⟩ := best_in (G := G) (W := W) r (firsts L r) (fun k hk => (mem_firsts.mp hk).1) (some (Al C L)) (some dw) (some (.lst true (f.map dN))) x5
        rw [b1] at e2
        have hz : r.length ≤ 16777216 := by have := h3.1; omega
        have hfz : f.length < 16777216 := by omega
        have hme := map_erase r b
        refine ⟨[some (Al C L), some dw, some (.lst true (r.map dN)), some (.lst true (f.map dN)), x4, x5], [some (Al C L), some dw, some (.lst true ((r.eraseIdx b).map dN)), some (.lst true ((f ++ [r[b]]).map dN)), some (.int (b : Nat)), y5], r.length - 1, ?_, .inl ?_, ⟨r.eraseIdx b, f ++ [r[b]], _, _, rfl, ?_, ?_, ⟨?_, ?_⟩, ?_⟩, by omega⟩
        · simp -implicitDefEqProofs [t_least_form_2, hpos, hpos', h0]
        · have hmp : ((f ++ [r[b]]).map dN) = f.map dN ++ [D.int (r[b] : Nat)] := by simp
          rw [hmp]
          simp [nb] at hf e2
          rcases hd with rfl | rfl <;> simp -implicitDefEqProofs [b_least_form_3, hg, hf, e2, nb, b2, hz, hfz, hme]
        · rw [← h1, lf_step b1 b2]; simp
        · rw [List.length_eraseIdx, if_pos b2]
        · have := List.length_eraseIdx_le r b; have := h3.1; omega
        · exact fun a ha => h3.2 a (List.mem_of_mem_eraseIdx ha)
        · rw [List.length_append, List.length_eraseIdx, if_pos b2]; simp; omega)
    W w.length (s := [some (Al C L), some dw, some (.lst true (w.map dN)), some (.lst true []), none, none]) ⟨w, [], none, none, rfl, by simp, rfl, hw, by simpa using hwl⟩ (by omega)
  rw [hs, hfr] at e
  simp at e
  rcases hd with rfl | rfl <;> simp -implicitDefEqProofs [runF, f_least_form_eq, g_least_form, e]
def FpOk (g : Callee) : Prop := ∀ (C : Nat) (L : List (List Nat)) (w : List Nat) (dw : D) (a : Nat), Alph C L → IsW dw w → WIn L w → g [Al C L, dw, .int a] = .ok (.int (nb (fp L w a))) []
theorem fp_ok {G : Env0A} {W : Nat} (h : Has G 29 FirstsOk) : FpOk (runF G W f_first_place) := by
  intro C L w dw a hA hd hw
  obtain ⟨g, hg, hf⟩ := h
  have hf := hf C L w dw hA hd hw
  have := for_findE (st := fun s => exs G W [] b_first_place_1 s) (g := .name 3) dN dN (firsts L w) (fun k => decide (w.getD k 0 = a))
    (fun _ s => ∃ x3, s = [some (Al C L), some dw, some (.int a), x3]) (s := [some (Al C L), some dw, some (.int a), none]) ⟨none, rfl⟩ fun n hn s hs => by
      obtain ⟨x3, rfl⟩ := hs
      have hk := (mem_firsts.mp (List.getElem_mem hn)).1
      have e1 : w.getD (firsts L w)[n] 0 = w[(firsts L w)[n]] := by simp [hk]
      rw [e1]
      generalize (firsts L w)[n] = k at hk ⊢
      have hiff : ((w[k] : Int) = (a : Int)) ↔ w[k] = a := by omega
      by_cases h : w[k] = a <;> rcases hd with rfl | rfl <;> simp -implicitDefEqProofs [b_first_place_1, hk, hiff, h]
  simp only [fp]
  simp at hf
  rcases this with ⟨k, s', e1, e⟩ | ⟨e1, s', e, x3, rfl⟩
  · rw [e1]
    simp at e
    rcases hd with rfl | rfl <;> simp -implicitDefEqProofs [runF, f_first_place_eq, g_first_place, hg, hf, e, nb]
  · rw [e1]
    simp at e
    rcases hd with rfl | rfl <;> simp -implicitDefEqProofs [runF, f_first_place_eq, g_first_place, hg, hf, e, nb]
def WithoutOk (g : Callee) : Prop := ∀ (w : List Nat) (k : Nat), w.length ≤ 1000 → k < w.length → g [.tup (w.map dN), .int k] = .ok (.tup ((w.eraseIdx k).map dN)) []
theorem without_ok {G : Env0A} {W : Nat} : WithoutOk (runF G W f_without) := by
  intro w k hw hk
  have hm : min k w.length = k := by omega
  have hz : k + (w.length - (k + 1)) ≤ 16777216 := by omega
  rw [erase_at]
  have htk : (w.map dN).take k = (w.take k).map dN := by simp
  have hdr : (w.map dN).drop (k + 1) = (w.drop (k + 1)).map dN := by simp
  simp -implicitDefEqProofs [-List.map_take, -List.map_drop, runF, f_without_eq, g_without, htk, hdr, hm, hz]
/-! Abm27: rest, common_prefix, the law's least form -/
theorem WIn.erase {L : List (List Nat)} {w : List Nat} (h : WIn L w) (k : Nat) : WIn L (w.eraseIdx k) := ⟨by have := List.length_eraseIdx_le w k; have := h.1; omega, fun a ha => h.2 a (List.mem_of_mem_eraseIdx ha)⟩
theorem rest_loop {G : Env0A} {W : Nat} (hFp : Has G 44 FpOk) (hWo : Has G 45 WithoutOk) {C : Nat} {L : List (List Nat)} (hA : Alph C L) (du dv : D) : ∀ (u left : List Nat) (x4 x5 : Option D), (∀ a, a ∈ u → a < L.length) → WIn L left →
    (∃ r y4 y5, res L u left = some r ∧ WIn L r ∧ forL (fun s => exs G W [] b_rest_1 s) (.name 4) (u.map dN) [some (Al C L), some du, some dv, some (.tup (left.map dN)), x4, x5] = .nx [some (Al C L), some du, some dv, some (.tup (r.map dN)), y4, y5]) ∨
    (res L u left = none ∧ ∃ s', forL (fun s => exs G W [] b_rest_1 s) (.name 4) (u.map dN) [some (Al C L), some du, some dv, some (.tup (left.map dN)), x4, x5] = .rt .non s')
  | [], left, x4, x5, _, hl => .inl ⟨left, x4, x5, rfl, hl, rfl⟩
  | a :: u, left, x4, x5, hu, hl => by
    have hFp' := hFp
    have hWo' := hWo
    obtain ⟨gF, hgF, hFp⟩ := hFp
    obtain ⟨gW, hgW, hWo⟩ := hWo
    have e1 := hFp C L left (.tup (left.map dN)) a hA (.inl rfl) hl
    cases hf : fp L left a with
    | none =>
      right
      rw [hf] at e1
      refine ⟨by simp only [res, hf], [some (Al C L), some du, some dv, some (.tup (left.map dN)), some (.int (a : Nat)), some (.int (-1))], ?_⟩
      have hstep : exs G W [] b_rest_1 [some (Al C L), some du, some dv, some (.tup (left.map dN)), some (.int (a : Nat)), x5] = .rt .non [some (Al C L), some du, some dv, some (.tup (left.map dN)), some (.int (a : Nat)), some (.int (-1))] := by
        simp [nb] at e1
        simp -implicitDefEqProofs [b_rest_1, hgF, e1]
      simp only [List.map_cons, forL, asgG_name, dN_ap, List.set_cons_succ, List.set_cons_zero, hstep]
    | some k =>
      rw [hf] at e1
      obtain ⟨hk, _, _⟩ := fp_some hf
      have e2 := hWo left k hl.1 hk
      have hstep : exs G W [] b_rest_1 [some (Al C L), some du, some dv, some (.tup (left.map dN)), some (.int (a : Nat)), x5] = .nx [some (Al C L), some du, some dv, some (.tup ((left.eraseIdx k).map dN)), some (.int (a : Nat)), some (.int (k : Nat))] := by
        have hk0 : ¬ ((k : Int) < 0) := by omega
        simp [nb] at e1
        simp -implicitDefEqProofs [b_rest_1, hgF, hgW, e1, e2, hk0]
      have ih := rest_loop hFp' hWo' (G := G) (W := W) hA du dv u (left.eraseIdx k) (some (.int (a : Nat))) (some (.int (k : Nat))) (fun b hb => hu b (by simp [hb])) (hl.erase k)
      have hres : res L (a :: u) left = res L u (left.eraseIdx k) := by simp only [res, hf]
      rw [hres]
      simp only [List.map_cons, forL, asgG_name, dN_ap, List.set_cons_succ, List.set_cons_zero, hstep]
      exact ih
def rD (L : List (List Nat)) (o : Option (List Nat)) : D := match o with
  | none => .non
  | some r => .tup ((lf L r).map dN)
def RestOk (g : Callee) : Prop := ∀ (C : Nat) (L : List (List Nat)) (u v : List Nat) (du dv : D), Alph C L → IsW du u → IsW dv v → WIn L u → WIn L v → g [Al C L, du, dv] = .ok (rD L (res L u v)) []
theorem rest_ok {G : Env0A} {W : Nat} (hFp : Has G 44 FpOk) (hWo : Has G 45 WithoutOk) (hLf : Has G 30 LeastFOk) : RestOk (runF G W f_rest) := by
  intro C L u v du dv hA hdu hdv hu hv
  obtain ⟨gL, hgL, hLf⟩ := hLf
  rcases rest_loop (G := G) (W := W) hFp hWo hA du dv u v none none hu.2 hv with ⟨r, y4, y5, h1, h2, e⟩ | ⟨h1, s', e⟩
  · have e2 := hLf C L r (.tup (r.map dN)) hA (.inl rfl) h2
    rw [h1]
    simp at e e2
    rcases hdu with rfl | rfl <;> rcases hdv with rfl | rfl <;> simp -implicitDefEqProofs [runF, f_rest_eq, g_rest, hgL, e, e2, rD]
  · rw [h1]
    simp at e
    rcases hdu with rfl | rfl <;> rcases hdv with rfl | rfl <;> simp -implicitDefEqProofs [runF, f_rest_eq, g_rest, e, rD]
def CpOk (g : Callee) : Prop := ∀ (C : Nat) (L : List (List Nat)) (u v : List Nat) (du dv : D), Alph C L → IsW du u → IsW dv v → WIn L u → WIn L v →
  ∃ f one two, g [Al C L, du, dv] = .ok (.tup ((lf L f).map dN)) [] ∧ WIn L f ∧ WIn L one ∧ WIn L two ∧ Alk L (f ++ one) u ∧ Alk L (f ++ two) v ∧ NoC L one two
def I_cp (C : Nat) (L : List (List Nat)) (u v : List Nat) (du dv : D) (m : Nat) (s : SA) : Prop := ∃ (one two f : List Nat) (n : Nat) (x7 x8 : Option D),
  s = [some (Al C L), some du, some dv, some (.tup (one.map dN)), some (.tup (two.map dN)), some (.lst true (f.map dN)), some (.int (n : Nat)), x7, x8] ∧ Alk L (f ++ one) u ∧ Alk L (f ++ two) v ∧ (∀ b, b < n → Fst L one b → ¬ Fst L two b) ∧
  n ≤ L.length ∧ m = one.length * (L.length + 1) + (L.length - n) ∧ WIn L one ∧ WIn L two ∧ (∀ a, a ∈ f → a < L.length) ∧ f.length + one.length ≤ 1000
theorem cp_loop {G : Env0A} {W : Nat} (hFp : Has G 44 FpOk) (hWo : Has G 45 WithoutOk) {C : Nat} {L : List (List Nat)} (hA : Alph C L) {u v : List Nat} {du dv : D} (m : Nat) (s : SA) (hi : I_cp C L u v du dv m s) :
    (∃ s1, evT G W t_common_prefix_1 s = .ok false s1 ∧ (∃ one two f x6 x7 x8, s1 = [some (Al C L), some du, some dv, some (.tup (one.map dN)), some (.tup (two.map dN)), some (.lst true (f.map dN)), x6, x7, x8] ∧ Alk L (f ++ one) u ∧ Alk L (f ++ two) v ∧ NoC L one two ∧ WIn L f ∧ WIn L one ∧ WIn L two)) ∨
    (∃ s1 s2 k', evT G W t_common_prefix_1 s = .ok true s1 ∧ ((exs G W [] b_common_prefix_2 s1 = .nx s2 ∨ exs G W [] b_common_prefix_2 s1 = .ct s2) ∧ I_cp C L u v du dv k' s2 ∧ k' < m)) := by
  obtain ⟨one, two, f, n, x7, x8, rfl, h1, h2, h3, h4, h5, h6, h7, h8, h9⟩ := hi
  obtain ⟨gF, hgF, hFp⟩ := hFp
  obtain ⟨gW, hgW, hWo⟩ := hWo
  by_cases hn : n < L.length
  · right
    have hn' : (n : Int) < (L.length : Int) := by omega
    have e1 := hFp C L one (.tup (one.map dN)) n hA (.inl rfl) h6
    have e2 := hFp C L two (.tup (two.map dN)) n hA (.inl rfl) h7
    refine ⟨[some (Al C L), some du, some dv, some (.tup (one.map dN)), some (.tup (two.map dN)), some (.lst true (f.map dN)), some (.int (n : Nat)), x7, x8], ?_⟩
    have ht : evT G W t_common_prefix_1 [some (Al C L), some du, some dv, some (.tup (one.map dN)), some (.tup (two.map dN)), some (.lst true (f.map dN)), some (.int (n : Nat)), x7, x8] = .ok true [some (Al C L), some du, some dv, some (.tup (one.map dN)), some (.tup (two.map dN)), some (.lst true (f.map dN)), some (.int (n : Nat)), x7, x8] := by
      simp -implicitDefEqProofs [t_common_prefix_1, hn, hn']
    have hno : (∃ y7 y8, exs G W [] b_common_prefix_2 [some (Al C L), some du, some dv, some (.tup (one.map dN)), some (.tup (two.map dN)), some (.lst true (f.map dN)), some (.int (n : Nat)), x7, x8] = .nx [some (Al C L), some du, some dv, some (.tup (one.map dN)), some (.tup (two.map dN)), some (.lst true (f.map dN)), some (.int ((n + 1 : Nat) : Int)), y7, y8]) → (Fst L one n → ¬ Fst L two n) →
        ∃ s2 k', evT G W t_common_prefix_1 [some (Al C L), some du, some dv, some (.tup (one.map dN)), some (.tup (two.map dN)), some (.lst true (f.map dN)), some (.int (n : Nat)), x7, x8] = .ok true [some (Al C L), some du, some dv, some (.tup (one.map dN)), some (.tup (two.map dN)), some (.lst true (f.map dN)), some (.int (n : Nat)), x7, x8] ∧
          ((exs G W [] b_common_prefix_2 [some (Al C L), some du, some dv, some (.tup (one.map dN)), some (.tup (two.map dN)), some (.lst true (f.map dN)), some (.int (n : Nat)), x7, x8] = .nx s2 ∨ exs G W [] b_common_prefix_2 [some (Al C L), some du, some dv, some (.tup (one.map dN)), some (.tup (two.map dN)), some (.lst true (f.map dN)), some (.int (n : Nat)), x7, x8] = .ct s2) ∧ I_cp C L u v du dv k' s2 ∧ k' < m) := by
      rintro ⟨y7, y8, e⟩ hnf
      refine ⟨_, one.length * (L.length + 1) + (L.length - (n + 1)), ht, .inl e, ⟨one, two, f, n + 1, y7, y8, rfl, h1, h2, fun b hb => ?_, by omega, rfl, h6, h7, h8, h9⟩, by omega⟩
      by_cases e : b = n
      · subst e; exact hnf
      · exact h3 b (by omega)
    cases hf1 : fp L one n with
    | none =>
      rw [hf1] at e1
      refine hno ?_ (fun h => absurd h (fp_none hf1))
      have hneg : ¬ ((0 : Int) ≤ -1) := by decide
      refine ⟨some (.int (-1)), some (.int (nb (fp L two n))), ?_⟩
      simp [nb] at e1
      simp at e2
      simp -implicitDefEqProofs [b_common_prefix_2, hgF, e1, e2]
    | some k =>
      rw [hf1] at e1
      obtain ⟨hk, _, _⟩ := fp_some hf1
      have hk0 : (0 : Int) ≤ (k : Int) := by omega
      cases hf2 : fp L two n with
      | none =>
        rw [hf2] at e2
        refine hno ?_ (fun _ => fp_none hf2)
        refine ⟨some (.int (k : Nat)), some (.int (-1)), ?_⟩
        simp [nb] at e1 e2
        simp -implicitDefEqProofs [b_common_prefix_2, hgF, e1, e2, hk0]
      | some j =>
        rw [hf2] at e2
        obtain ⟨hj, _, _⟩ := fp_some hf2
        have hj0 : (0 : Int) ≤ (j : Int) := by omega
        have e3 := hWo one k h6.1 hk
        have e4 := hWo two j h7.1 hj
        have hfz : f.length < 16777216 := by omega
        have ho1 := fp_out hf1
        have ho2 := fp_out hf2
        have hlen : (one.eraseIdx k).length = one.length - 1 := by rw [List.length_eraseIdx, if_pos hk]
        have hmp : ((f ++ [n]).map dN) = f.map dN ++ [D.int (n : Nat)] := by simp
        refine ⟨[some (Al C L), some du, some dv, some (.tup ((one.eraseIdx k).map dN)), some (.tup ((two.eraseIdx j).map dN)), some (.lst true ((f ++ [n]).map dN)), some (.int ((0 : Nat) : Int)), some (.int (k : Nat)), some (.int (j : Nat))], (one.eraseIdx k).length * (L.length + 1) + (L.length - 0), ht, .inl ?_, ⟨one.eraseIdx k, two.eraseIdx j, f ++ [n], 0, _, _, rfl, ?_, ?_, fun b hb => absurd hb (by omega), by omega, rfl, h6.erase k, h7.erase j, ?_, ?_⟩, ?_⟩
        · rw [hmp]
          simp [nb] at e1 e2
          simp -implicitDefEqProofs [b_common_prefix_2, hgF, hgW, e1, e2, e3, e4, hk0, hj0, hfz]
        · refine Alk.trans ?_ h1
          rw [List.append_assoc]
          exact Alk.app (Alk.refl f) ho1
        · refine Alk.trans ?_ h2
          rw [List.append_assoc]
          exact Alk.app (Alk.refl f) ho2
        · intro a ha
          rcases List.mem_append.mp ha with ha | ha
          · exact h8 a ha
          · rw [List.mem_singleton] at ha; rw [ha]; exact hn
        · rw [List.length_append, hlen]; simp; omega
        · rw [hlen, h5]
          obtain ⟨q, hq⟩ : ∃ q, one.length = q + 1 := ⟨one.length - 1, by omega⟩
          rw [hq, Nat.add_sub_cancel, Nat.succ_mul]; omega
  · left
    have hn' : ¬ ((n : Int) < (L.length : Int)) := by omega
    refine ⟨[some (Al C L), some du, some dv, some (.tup (one.map dN)), some (.tup (two.map dN)), some (.lst true (f.map dN)), some (.int (n : Nat)), x7, x8], ?_, one, two, f, _, x7, x8, rfl, h1, h2, fun b hb => h3 b (by have := h6.2 b hb.1; omega) hb, ⟨by omega, h8⟩, h6, h7⟩
    simp -implicitDefEqProofs [t_common_prefix_1, hn, hn']
theorem cp_ok {G : Env0A} {W : Nat} (hFp : Has G 44 FpOk) (hWo : Has G 45 WithoutOk) (hLf : Has G 30 LeastFOk) (hW : 1000000 ≤ W) : CpOk (runF G W f_common_prefix) := by
  intro C L u v du dv hA hdu hdv hu hv
  obtain ⟨gL, hgL, hLf⟩ := hLf
  have hul := hu.1
  have hmul : u.length * (L.length + 1) ≤ 1000 * 7 := Nat.mul_le_mul hul (by have := hA.l6; omega)
  obtain ⟨s', e, one, two, f, x6, x7, x8, rfl, h1, h2, h3, h4, h5, h6⟩ := whileL_inv (c := fun s => evT G W t_common_prefix_1 s) (st := fun s => exs G W [] b_common_prefix_2 s) (I := I_cp C L u v du dv)
    (Q := fun s1 => ∃ one two f x6 x7 x8, s1 = [some (Al C L), some du, some dv, some (.tup (one.map dN)), some (.tup (two.map dN)), some (.lst true (f.map dN)), x6, x7, x8] ∧ Alk L (f ++ one) u ∧ Alk L (f ++ two) v ∧ NoC L one two ∧ WIn L f ∧ WIn L one ∧ WIn L two)
    (fun k s hi => cp_loop hFp hWo hA k s hi) W (u.length * (L.length + 1) + (L.length - 0)) (s := [some (Al C L), some du, some dv, some (.tup (u.map dN)), some (.tup (v.map dN)), some (.lst true []), some (.int 0), none, none])
    ⟨u, v, [], 0, none, none, rfl, Alk.refl _, Alk.refl _, fun b hb => absurd hb (by omega), by omega, rfl, hu, hv, by simp, by simpa using hul⟩ (by have := hA.l6; omega)
  refine ⟨f, one, two, ?_, h4, h5, h6, h1, h2, h3⟩
  have e2 := hLf C L f (.lst false (f.map dN)) hA (.inr rfl) h4
  simp at e e2
  rcases hdu with rfl | rfl <;> rcases hdv with rfl | rfl <;> simp -implicitDefEqProofs [runF, f_common_prefix_eq, g_common_prefix, hgL, e, e2]
/-! Abm28: the law's least form; equivalent, commute, crossing -/
theorem lleast_in {G : Env0A} {W : Nat} (hF : Has G 8 FreeOk) {C : Nat} {L : List (List Nat)} (hA : Alph C L) (r : List Nat) (hr : WIn L r) (x1 x3 x4 x6 x7 : Option D) :
    ∃ y6 y7, forL (fun s => exs G W [] b_l_least_3 s) (.name 6) ((List.range r.length).map dN) [some (.lst false (L.map tN)), x1, some (.lst true (r.map dN)), x3, x4, some (.int (-1)), x6, x7, none] =
      .nx [some (.lst false (L.map tN)), x1, some (.lst true (r.map dN)), x3, x4, some (.int (nb (bst r (firsts L r)))), y6, y7, none] := by
  obtain ⟨g, hg, hF⟩ := hF
  obtain ⟨s', e, y6, y7, hs⟩ := for_ok (st := fun s => exs G W [] b_l_least_3 s) (g := .name 6) dN (List.range r.length)
    (fun n s => ∃ y6 y7, s = [some (.lst false (L.map tN)), x1, some (.lst true (r.map dN)), x3, x4, some (.int (nb (bst r ((List.range n).filter (canF L r))))), y6, y7, none])
    (s := [some (.lst false (L.map tN)), x1, some (.lst true (r.map dN)), x3, x4, some (.int (-1)), x6, x7, none]) ⟨x6, x7, rfl⟩ fun n hn s hs => by
      obtain ⟨y6, y7, rfl⟩ := hs
      simp at hn
      have hrl := hr.1
      have hc := compL_map (f := fun s => (evTo G W t_l_least_2 s).noRz) (g := fun s => (ev G W false e_l_least_1 s).noRz) (own := 8)
        (s := [some (.lst false (L.map tN)), x1, some (.lst true (r.map dN)), x3, x4, some (.int (nb (bst r ((List.range n).filter (canF L r))))), some (dN n), y7, none]) rfl dN (fun j => de L r j n) dN (List.range n) fun j hj => by
          simp at hj
          have hjr : j < r.length := by omega
          have hf := hF C L r[j] r[n] hA (hr.2 _ (List.getElem_mem hjr)) (hr.2 _ (List.getElem_mem hn))
          have hde : de L r j n = dl L r[j] r[n] := by simp [de, hn, hjr]
          rw [hde]
          cases hb : dl L r[j] r[n] <;> rw [hb] at hf <;> simp at hf <;> simp -implicitDefEqProofs [t_l_least_2, e_l_least_1, hg, hf, hjr, hn]
      have hcan : canF L r n = decide (((List.range n).filter fun j => de L r j n).length = 0) := rfl
      have hn1 : n < 1000000 := by omega
      have hn2 : n ≤ 16777216 := by omega
      have hfs : (List.range (n + 1)).filter (canF L r) = (List.range n).filter (canF L r) ++ (if canF L r n then [n] else []) := by
        rw [List.range_succ, List.filter_append]
        congr 1
        cases hq : canF L r n <;> simp [hq]
      rw [hfs, hcan]
      generalize (List.range n).filter (fun j => de L r j n) = q at hc ⊢
      by_cases hq : q = []
      · subst hq
        have hif : (if decide (([] : List Nat).length = 0) = true then [n] else []) = [n] := rfl
        rw [hif, bst_snoc]
        simp at hc
        rcases bst_spec (w := r) (ks := (List.range n).filter (canF L r)) with ⟨_, h2⟩ | ⟨b, h2, h3, _⟩
        · rw [h2] at hc ⊢
          simp [nb] at hc
          simp -implicitDefEqProofs [b_l_least_3, nb, hn1, hn2, hc]
        · rw [h2] at hc ⊢
          have hb : b < r.length := by
            have := (List.mem_filter.mp h3).1
            simp at this; omega
          have e1 : r.getD n 0 = r[n] := by simp [hn]
          have e2 : r.getD b 0 = r[b] := by simp [hb]
          have hb0 : ¬ ((b : Int) < 0) := by omega
          simp only [e1, e2]
          simp [nb] at hc
          by_cases hlt : r[n] < r[b]
          · have hlt' : (r[n] : Int) < (r[b] : Int) := by omega
            simp -implicitDefEqProofs [b_l_least_3, nb, hn, hb, hb0, hn1, hn2, hc, hlt, hlt']
          · have hlt' : ¬ ((r[n] : Int) < (r[b] : Int)) := by omega
            simp -implicitDefEqProofs [b_l_least_3, nb, hn, hb, hb0, hn1, hn2, hc, hlt, hlt']
      · have hq2 : ¬ (q.length = 0) := fun h => hq (List.length_eq_zero_iff.mp h)
        have hq3 : ¬ ((q.length : Int) = 0) := by omega
        have hif : (if decide (q.length = 0) = true then [n] else []) = [] := by rw [if_neg]; simpa using hq
        rw [hif, List.append_nil]
        generalize nb (bst r ((List.range n).filter (canF L r))) = bb at hc ⊢
        simp at hc
        simp -implicitDefEqProofs [b_l_least_3, hn1, hn2, hc, hq, hq3]
  refine ⟨y6, y7, ?_⟩
  have hf : firsts L r = (List.range r.length).filter (canF L r) := rfl
  rw [e, hs, List.length_range, hf]
def LLeastOk (g : Callee) : Prop := ∀ (C : Nat) (L : List (List Nat)) (w : List Nat), Alph C L → WIn L w → g [.lst false (L.map tN), .tup (w.map dN)] = .ok (.tup ((lf L w).map dN)) []
def I_ll (L : List (List Nat)) (w : List Nat) (n : Nat) (s : SA) : Prop := ∃ (r f : List Nat) (x4 x5 x6 x7 : Option D),
  s = [some (.lst false (L.map tN)), some (.tup (w.map dN)), some (.lst true (r.map dN)), some (.lst true (f.map dN)), x4, x5, x6, x7, none] ∧ f ++ lf L r = lf L w ∧ r.length = w.length - n ∧ WIn L r ∧ f.length ≤ n
theorem lleast_ok {G : Env0A} {W : Nat} (hF : Has G 8 FreeOk) : LLeastOk (runF G W f_l_least) := by
  intro C L w hA hw
  have hwl := hw.1
  have := for_ok (st := fun s => exs G W [] b_l_least_4 s) (g := .name 4) dN (List.range w.length) (I_ll L w)
    (s := [some (.lst false (L.map tN)), some (.tup (w.map dN)), some (.lst true (w.map dN)), some (.lst true []), none, none, none, none, none]) ⟨w, [], none, none, none, none, rfl, by simp, by omega, hw, by simp⟩ fun n hn s hs => by
      obtain ⟨r, f, x4, x5, x6, x7, rfl, h1, h2, h3, h4⟩ := hs
      simp at hn
      have hr0 : r ≠ [] := by intro e; rw [e] at h2; simp at h2; omega
      obtain ⟨b, b1, b2, b3, _⟩ := bst_firsts (L := L) hr0
      obtain ⟨y6, y7, e⟩ := lleast_in (G := G) (W := W) hF hA r h3 (some (.tup (w.map dN))) (some (.lst true (f.map dN))) (some (.int (n : Nat))) x6 x7
      rw [b1] at e
      have hz1 : r.length < 1000000 := by have := h3.1; omega
      have hz2 : f.length < 16777216 := by omega
      have key : ∀ y4 y5 y6 y7, I_ll L w (n + 1) [some (.lst false (L.map tN)), some (.tup (w.map dN)), some (.lst true ((r.eraseIdx b).map dN)), some (.lst true ((f ++ [r[b]]).map dN)), y4, y5, y6, y7, none] := fun y4 y5 y6 y7 =>
        ⟨r.eraseIdx b, f ++ [r[b]], y4, y5, y6, y7, rfl, by rw [← h1, lf_step b1 b2]; simp, by rw [List.length_eraseIdx, if_pos b2]; omega, h3.erase b, by simp; omega⟩
      have hmp : ((f ++ [r[b]]).map dN) = f.map dN ++ [D.int (r[b] : Nat)] := by simp
      have her : (r.eraseIdx b).map dN = (r.take b).map dN ++ (r.drop (b + 1)).map dN := by rw [erase_at, List.map_append]
      have htk : (r.map dN).take b = (r.take b).map dN := by simp
      have hdr : (r.map dN).drop (b + 1) = (r.drop (b + 1)).map dN := by simp
      have hmin : min b r.length = b := by omega
      have hz3 : b + (r.length - (b + 1)) ≤ 16777216 := by omega
      rw [hmp, her] at key
      simp [nb] at e
      try simp [-List.map_take, -List.map_drop] at key
      simp -implicitDefEqProofs [-List.map_take, -List.map_drop, b_l_least_4, hz1, hz2, e, b2, htk, hdr, hmin, hz3]
      exact key _ _ _ _
  obtain ⟨s', e, r, f, x4, x5, x6, x7, rfl, h1, h2, h3, h4⟩ := this
  rw [List.length_range] at h2
  have hr0 : r = [] := List.length_eq_zero_iff.mp (by omega)
  subst hr0
  have hf : f = lf L w := by rw [← h1]; simp [lf, lfN]
  rw [hf] at e
  have hz : w.length < 1000000 := by omega
  simp at e
  simp -implicitDefEqProofs [runF, f_l_least_eq, g_l_least, hz, e]
def EqvOk (g : Callee) : Prop := ∀ (C : Nat) (L : List (List Nat)) (w v : List Nat), Alph C L → WIn L w → WIn L v → g [Al C L, .tup (w.map dN), .tup (v.map dN)] = .ok (.bl (alk C L w v)) []
theorem eqv_ok {G : Env0A} {W : Nat} (h : Has G 12 PlaceOk) : EqvOk (runF G W f_equivalent) := by
  intro C L w v hA hw hv
  obtain ⟨g, hg, hp⟩ := h
  have h1 : C < 1000000 := by have := hA.c4; omega
  have := for_find (st := fun s => exs G W [] b_equivalent_1 s) (g := .name 3) (.bl false) dN (List.range C) (fun p => !decide (plw L w p = plw L v p))
    (fun _ s => ∃ x, s = [some (Al C L), some (.tup (w.map dN)), some (.tup (v.map dN)), x])
    (s := [some (Al C L), some (.tup (w.map dN)), some (.tup (v.map dN)), none]) ⟨none, rfl⟩ fun p hpl s hs => by
      obtain ⟨x, rfl⟩ := hs
      have e1 := hp C L w p hw
      have e2 := hp C L v p hv
      simp only [List.getElem_range]
      simp at e1 e2
      by_cases hb : plw L w p = plw L v p <;> simp -implicitDefEqProofs [b_equivalent_1, hg, e1, e2, hb]
  simp only [alk]
  cases hb : (List.range C).any fun p => !decide (plw L w p = plw L v p)
  · rw [hb] at this
    simp only [Bool.false_eq_true, if_false] at this
    obtain ⟨s', e, x, rfl⟩ := this
    simp at e
    simp -implicitDefEqProofs [runF, f_equivalent_eq, g_equivalent, h1, e]
  · rw [hb] at this
    simp only [if_true] at this
    obtain ⟨s', e⟩ := this
    simp at e
    simp -implicitDefEqProofs [runF, f_equivalent_eq, g_equivalent, h1, e]
/-! Abm8: cuts -/
/-- a cut among places below k: ascending, and with each event all below it -/
structure Cut (d : Nat → Nat → Bool) (n : Nat) (c : List Nat) : Prop where
  asc : c.Pairwise (· < ·)
  lt : ∀ x, x ∈ c → x < n
  down : ∀ x, x ∈ c → ∀ j, j < x → d j x = true → j ∈ c
def due (d : Nat → Nat → Bool) (k : Nat) (c : List Nat) : List Nat := (List.range k).filter fun j => d j k && !decide (j ∈ c)
def cuts (d : Nat → Nat → Bool) : Nat → List (List Nat)
  | 0 => [[]]
  | k + 1 => cuts d k ++ ((cuts d k).filter fun c => decide ((due d k c).length = 0)).map (· ++ [k])
theorem cuts_len (d : Nat → Nat → Bool) : ∀ k, (cuts d k).length ≤ 2 ^ k
  | 0 => by simp [cuts]
  | k + 1 => by
    have h := cuts_len d k
    have h2 := List.length_filter_le (fun c => decide ((due d k c).length = 0)) (cuts d k)
    simp only [cuts, List.length_append, List.length_map, Nat.pow_succ]
    omega
theorem cuts_ne (d : Nat → Nat → Bool) : ∀ k, [] ∈ cuts d k
  | 0 => by simp [cuts]
  | k + 1 => by simp only [cuts, List.mem_append]; exact .inl (cuts_ne d k)
theorem due_zero {d : Nat → Nat → Bool} {k : Nat} {c : List Nat} : (due d k c).length = 0 ↔ ∀ j, j < k → d j k = true → j ∈ c := by
  rw [List.length_eq_zero_iff, due, List.filter_eq_nil_iff]
  simp only [List.mem_range, Bool.and_eq_true, Bool.not_eq_true', decide_eq_false_iff_not, not_and, Classical.not_not]
theorem cut_up {d : Nat → Nat → Bool} {k : Nat} {c : List Nat} (h : Cut d k c) : Cut d (k + 1) c := ⟨h.asc, fun x hx => by have := h.lt x hx; omega, h.down⟩
theorem mem_cuts {d : Nat → Nat → Bool} : ∀ {k : Nat} {c : List Nat}, c ∈ cuts d k ↔ Cut d k c
  | 0, c => by
    simp only [cuts, List.mem_singleton]
    constructor
    · rintro rfl; exact ⟨List.Pairwise.nil, by simp, by simp⟩
    · intro h
      cases c with
      | nil => rfl
      | cons x c => exact absurd (h.lt x (by simp)) (by omega)
  | k + 1, c => by
    simp only [cuts, List.mem_append, List.mem_map, List.mem_filter, decide_eq_true_eq, due_zero]
    constructor
    · rintro (h | ⟨c', ⟨h1, h2⟩, rfl⟩)
      · exact cut_up (mem_cuts.mp h)
      · have h := mem_cuts.mp h1
        refine ⟨?_, ?_, ?_⟩
        · rw [List.pairwise_append]
          refine ⟨h.asc, by simp, ?_⟩
          intro a ha b hb
          rw [List.mem_singleton] at hb
          subst hb
          exact h.lt a ha
        · intro x hx
          rcases List.mem_append.mp hx with hx | hx
          · have := h.lt x hx; omega
          · rw [List.mem_singleton] at hx; omega
        · intro x hx j hj hd
          rcases List.mem_append.mp hx with hx | hx
          · exact List.mem_append_left _ (h.down x hx j hj hd)
          · rw [List.mem_singleton] at hx
            subst hx
            exact List.mem_append_left _ (h2 j hj hd)
    · intro h
      by_cases hk : k ∈ c
      · right
        -- k is the last
        have hne : c ≠ [] := by intro e; subst e; exact absurd hk (by simp)
        have e := List.dropLast_concat_getLast hne
        have hlast : c.getLast hne = k := by
          have h1 := h.lt _ (List.getLast_mem hne)
          have hp := h.asc
          rw [← e] at hp hk
          rcases List.mem_append.mp hk with h2 | h2
          · have := (List.pairwise_append.mp hp).2.2 k h2 (c.getLast hne) (by simp)
            omega
          · rw [List.mem_singleton] at h2; exact h2.symm
        rw [hlast] at e
        have hp := h.asc
        rw [← e] at hp
        have hp' := List.pairwise_append.mp hp
        have hlt : ∀ x, x ∈ c.dropLast → x < k := fun x hx => hp'.2.2 x hx k (by simp)
        refine ⟨c.dropLast, ⟨mem_cuts.mpr ⟨hp'.1, hlt, ?_⟩, ?_⟩, e⟩
        · intro x hx j hj hd
          have := h.down x (by rw [← e]; exact List.mem_append_left _ hx) j hj hd
          rw [← e] at this
          rcases List.mem_append.mp this with h2 | h2
          · exact h2
          · rw [List.mem_singleton] at h2; have := hlt x hx; omega
        · intro j hj hd
          have := h.down k hk j hj hd
          rw [← e] at this
          rcases List.mem_append.mp this with h2 | h2
          · exact h2
          · rw [List.mem_singleton] at h2; omega
      · left
        refine mem_cuts.mpr ⟨h.asc, fun x hx => ?_, h.down⟩
        have := h.lt x hx
        by_cases e : x = k
        · subst e; exact absurd hx hk
        · omega
def CutsOk (g : Callee) : Prop := ∀ (C : Nat) (L : List (List Nat)) (w : List Nat), Alph C L → WIn L w → w.length ≤ 16 → g [.lst false (L.map tN), .tup (w.map dN)] = .ok (.lst true ((cuts (de L w) w.length).map tN)) []
theorem cuts_in {G : Env0A} {W : Nat} (h : Has G 8 FreeOk) (hW : 1000000 ≤ W) {C : Nat} {L : List (List Nat)} {w : List Nat} (hA : Alph C L) (hw : WIn L w) (k : Nat) (hk : k < w.length) (cs : List (List Nat)) (hcs : cs.length ≤ 100000) (hcl : ∀ c, c ∈ cs → c.length ≤ 1000) (j5 j6 : Option D) :
    ∃ x5 x6, forV (fun s => exs G W [2] b_l_cuts_3 s) (.name 5) 2 W 0 [some (.lst false (L.map tN)), some (.tup (w.map dN)), some (.lst true (cs.map tN)), some (.int (k : Nat)), some (.lst true []), j5, j6, none] =
      .nx [some (.lst false (L.map tN)), some (.tup (w.map dN)), some (.lst true (cs.map tN)), some (.int (k : Nat)), some (.lst true (((cs.filter fun c => decide ((due (de L w) k c).length = 0)).map (· ++ [k])).map tN)), x5, x6, none] := by
  obtain ⟨g, hg, hf⟩ := h
  obtain ⟨s', e, x5, x6, hs⟩ := forV_ok (st := fun s => exs G W [2] b_l_cuts_3 s) (g := .name 5) (i := 2) tN (fun _ => rfl) cs (by decide) W (by omega)
    (fun n s => ∃ x5 x6, s = [some (.lst false (L.map tN)), some (.tup (w.map dN)), some (.lst true (cs.map tN)), some (.int (k : Nat)), some (.lst true ((((cs.take n).filter fun c => decide ((due (de L w) k c).length = 0)).map (· ++ [k])).map tN)), x5, x6, none])
    (s := [some (.lst false (L.map tN)), some (.tup (w.map dN)), some (.lst true (cs.map tN)), some (.int (k : Nat)), some (.lst true []), j5, j6, none]) ⟨j5, j6, rfl⟩
    (fun n s ⟨x5, x6, hs⟩ => by rw [hs]; rfl)
    fun n hn s ⟨x5, x6, hs⟩ => by
      subst hs
      have hc := compL_map (f := fun s => (evTo G W t_l_cuts_2 s).noRz) (g := fun s => (ev G W false e_l_cuts_1 s).noRz) (own := 7)
        (s := [some (.lst false (L.map tN)), some (.tup (w.map dN)), some (.lst true (cs.map tN)), some (.int (k : Nat)), some (.lst true ((((cs.take n).filter fun c => decide ((due (de L w) k c).length = 0)).map (· ++ [k])).map tN)), some (tN cs[n]), x6, none]) rfl dN
        (fun j => de L w j k && !decide (j ∈ cs[n])) dN (List.range k) fun j hj => by
          simp at hj
          have hjn : j < w.length := by omega
          have hf := hf C L w[j] w[k] hA (hw.2 _ (List.getElem_mem hjn)) (hw.2 _ (List.getElem_mem hk))
          have hde : de L w j k = dl L w[j] w[k] := by simp [de, hk, hjn]
          rw [hde]
          cases hb : dl L w[j] w[k] <;> rw [hb] at hf <;> simp at hf <;> simp -implicitDefEqProofs [t_l_cuts_2, e_l_cuts_1, hg, hf, hjn, hk]
      change compL _ _ _ _ _ = Er.ok ((due (de L w) k cs[n]).map dN) _ at hc
      have hk1 : k < 1000000 := by have := hw.1; omega
      have hk2 : k ≤ 16777216 := by omega
      have hcn := hcl cs[n] (List.getElem_mem hn)
      have hz1 : cs[n].length + 1 ≤ 16777216 := by omega
      have ht : cs.take (n + 1) = cs.take n ++ [cs[n]] := List.take_succ_eq_append_getElem hn
      have hml : (((cs.take n).filter fun c => decide ((due (de L w) k c).length = 0))).length < 16777216 := by
        have h1 := List.length_filter_le (fun c => decide ((due (de L w) k c).length = 0)) (cs.take n)
        have h2 : (cs.take n).length ≤ cs.length := by simp; omega
        omega
      rw [ht, List.filter_append]
      by_cases hd : (due (de L w) k cs[n]).length = 0
      · have hd' : due (de L w) k cs[n] = [] := List.length_eq_zero_iff.mp hd
        rw [hd'] at hc
        have hfl : [cs[n]].filter (fun c => decide ((due (de L w) k c).length = 0)) = [cs[n]] := by simp [hd']
        rw [hfl]
        generalize (List.filter (fun c => decide ((due (de L w) k c).length = 0)) (List.take n cs)) = ms at hc hml
        simp [-List.map_map] at hc
        simp -implicitDefEqProofs [-List.map_map, b_l_cuts_3, hn, hk1, hk2, hz1, hml, hc]
      · have hfl : [cs[n]].filter (fun c => decide ((due (de L w) k c).length = 0)) = [] := by simp only [List.filter_cons, hd, decide_false, Bool.false_eq_true, if_false, List.filter_nil]
        rw [hfl]
        have hd' : ¬ (due (de L w) k cs[n] = []) := fun h => hd (by rw [h]; rfl)
        generalize (List.filter (fun c => decide ((due (de L w) k c).length = 0)) (List.take n cs)) = ms at hc hml
        generalize due (de L w) k cs[n] = du at hc hd'
        simp [-List.map_map] at hc
        simp -implicitDefEqProofs [-List.map_map, b_l_cuts_3, hn, hk1, hk2, hz1, hml, hc, hd']
  refine ⟨x5, x6, ?_⟩
  rw [e, hs, List.take_length]
theorem lcuts_ok {G : Env0A} {W : Nat} (h : Has G 8 FreeOk) (hW : 1000000 ≤ W) : CutsOk (runF G W f_l_cuts) := by
  intro C L w hA hw h12
  have hpow : ∀ k, k ≤ 16 → (2 : Nat) ^ k ≤ 65536 := fun k hk => by
    calc (2 : Nat) ^ k ≤ 2 ^ 16 := Nat.pow_le_pow_right (by decide) hk
      _ = 65536 := by decide
  have := for_ok (st := fun s => exs G W [] b_l_cuts_4 s) (g := .name 3) dN (List.range w.length)
    (fun k s => ∃ j3 j4 j5 j6, s = [some (.lst false (L.map tN)), some (.tup (w.map dN)), some (.lst true ((cuts (de L w) k).map tN)), j3, j4, j5, j6, none])
    (s := [some (.lst false (L.map tN)), some (.tup (w.map dN)), some (.lst true [.tup []]), none, none, none, none, none]) ⟨none, none, none, none, rfl⟩ fun k hk s hs => by
      obtain ⟨j3, j4, j5, j6, rfl⟩ := hs
      simp at hk
      have h1 := cuts_len (de L w) k
      have h2 := hpow k (by omega)
      obtain ⟨x5, x6, e⟩ := cuts_in (G := G) (W := W) h hW hA hw k hk (cuts (de L w) k) (by omega) (fun c hc => by
        have hc := mem_cuts.mp hc
        have h3 : c.Sublist (List.range k) := by
          have : c = (List.range k).filter fun x => decide (x ∈ c) := by
            refine asc_eq hc.asc ((List.pairwise_lt_range).filter _) fun x => ?_
            simp only [List.mem_filter, List.mem_range, decide_eq_true_eq]
            exact ⟨fun h => ⟨hc.lt x h, h⟩, fun h => h.2⟩
          rw [this]; exact List.filter_sublist
        have := h3.length_le
        simp at this; omega) j5 j6
      have h4 := cuts_len (de L w) (k + 1)
      have h5 := hpow (k + 1) (by omega)
      have h6 : (cuts (de L w) (k + 1)).length ≤ 16777216 := by omega
      simp only [cuts] at h6 ⊢
      generalize ((cuts (de L w) k).filter fun c => decide ((due (de L w) k c).length = 0)).map (· ++ [k]) = ms at e h6 ⊢
      generalize cuts (de L w) k = cs at e h6 ⊢
      simp only [List.length_append] at h6
      simp -implicitDefEqProofs [-List.map_map, b_l_cuts_4, hk, e, h6]
  obtain ⟨s', e, j3, j4, j5, j6, rfl⟩ := this
  have h1 : w.length < 1000000 := by omega
  simp at e
  simp -implicitDefEqProofs [runF, f_l_cuts_eq, g_l_cuts, h1, e]
/-! Abm9: conditions, the least cut -/
theorem asc_sub {c : List Nat} {n : Nat} (h : c.Pairwise (· < ·)) (h2 : ∀ x, x ∈ c → x < n) : c.Sublist (List.range n) := by
  have : c = (List.range n).filter fun x => decide (x ∈ c) := by
    refine asc_eq h ((List.pairwise_lt_range).filter _) fun x => ?_
    simp only [List.mem_filter, List.mem_range, decide_eq_true_eq]
    exact ⟨fun h => ⟨h2 x h, h⟩, fun h => h.2⟩
  rw [this]; exact List.filter_sublist
theorem asc_len {c : List Nat} {n : Nat} (h : c.Pairwise (· < ·)) (h2 : ∀ x, x ∈ c → x < n) : c.length ≤ n := by
  have := (asc_sub h h2).length_le
  simpa using this
theorem maxF_asc : ∀ (l : List Nat) (m : Nat), (m :: l).Pairwise (· < ·) → ((l.map fun (n : Nat) => (n : Int)).foldl (fun m y => if m < y then y else m) (m : Int)) = (((m :: l).getLast (by simp) : Nat) : Int)
  | [], m, _ => rfl
  | x :: l, m, h => by
    have h1 := List.pairwise_cons.mp h
    have h2 := h1.1 x (by simp)
    have h3 : (m : Int) < (x : Int) := by omega
    simp only [List.map_cons, List.foldl_cons, h3, if_true]
    rw [maxF_asc l x h1.2]
    simp
theorem maxI_asc {l : List Nat} (hl : l ≠ []) (h : l.Pairwise (· < ·)) : maxI (l.map fun (n : Nat) => (n : Int)) = some ((l.getLast hl : Nat) : Int) := by
  cases l with
  | nil => exact absurd rfl hl
  | cons x l => simp only [List.map_cons, maxI, maxF_asc l x h]
def atp (L : List (List Nat)) (w : List Nat) (p k : Nat) : Bool := decide (p ∈ L.getD (w.getD k 0) [])
/-- the letter of the last of some events at a place, or -1 -/
def lstL (L : List (List Nat)) (w c : List Nat) (p : Nat) : Int := match (c.filter (atp L w p)).getLast? with
  | none => -1
  | some k => ((w.getD k 0 : Nat) : Int)
def LastOk (g : Callee) : Prop := ∀ (C : Nat) (L : List (List Nat)) (w c : List Nat) (dw : D) (p : Nat), IsW dw w → WIn L w → c.Pairwise (· < ·) → (∀ x, x ∈ c → x < w.length) → g [Al C L, dw, .lst false (c.map dN), .int p] = .ok (.int (lstL L w c p)) []
theorem last_ok {G : Env0A} {W : Nat} : LastOk (runF G W f_last_letter) := by
  intro C L w c dw p hd hw hc hl
  have hz : c.length ≤ 16777216 := by have := asc_len hc hl; have := hw.1; omega
  have hcomp := compL_map (f := fun s => (evTo G W t_last_letter_2 s).noRz) (g := fun s => (ev G W false e_last_letter_1 s).noRz) (own := 5)
    (s := [some (Al C L), some dw, some (.lst false (c.map dN)), some (.int p), none, none]) rfl dN (atp L w p) dN c fun x hx => by
      have hx := hl x hx
      have hx2 := hw.2 _ (List.getElem_mem hx)
      rcases hd with rfl | rfl <;> simp -implicitDefEqProofs [t_last_letter_2, e_last_letter_1, hx, hx2, atp]
  have hf : (c.filter (atp L w p)).Pairwise (· < ·) := hc.filter _
  have hfl : ∀ x, x ∈ c.filter (atp L w p) → x < w.length := fun x hx => hl x (List.mem_filter.mp hx).1
  simp only [lstL]
  generalize c.filter (atp L w p) = t at hcomp hf hfl
  by_cases h0 : t = []
  · subst h0
    simp at hcomp
    rcases hd with rfl | rfl <;> simp -implicitDefEqProofs [runF, f_last_letter_eq, g_last_letter, hz, hcomp]
  · have hm := maxI_asc h0 hf
    have hlt := hfl _ (List.getLast_mem h0)
    have hg : t.getLast? = some (t.getLast h0) := List.getLast?_eq_some_getLast h0
    have hwd : w.getD (t.getLast h0) 0 = w[t.getLast h0] := by simp [hlt]
    rw [hg]
    simp only [hwd]
    simp at hcomp
    rcases hd with rfl | rfl <;> simp -implicitDefEqProofs [runF, f_last_letter_eq, g_last_letter, hz, hcomp, h0, hm, hlt]
@[local simp] theorem frzs_lT (l : List (List Int)) : frzs (l.map (lT D.int)) = l.map (lT D.int) := by
  induction l with
  | nil => rfl
  | cons a l ih => simp [ih]
@[local simp] theorem stills_lT (l : List (List Int)) : stills (l.map (lT D.int)) = true := by
  induction l with
  | nil => rfl
  | cons a l ih => simp [ih]
def okAt (L : List (List Nat)) (w c : List Nat) (cond : List (List Int)) (p : Nat) : Bool := decide (lstL L w c p ∈ cond.getD p [])
/-- the conditions hold in a cut -/
def holdsB (C : Nat) (L : List (List Nat)) (w c : List Nat) (cond : List (List Int)) : Bool := !(List.range C).any fun p => !okAt L w c cond p
def HoldsOk (g : Callee) : Prop := ∀ (C : Nat) (L : List (List Nat)) (w c : List Nat) (dw : D) (cond : List (List Int)), Alph C L → IsW dw w → WIn L w → c.Pairwise (· < ·) → (∀ x, x ∈ c → x < w.length) → cond.length = C →
  g [Al C L, dw, .lst false (c.map dN), .lst false (cond.map (lT D.int))] = .ok (.bl (holdsB C L w c cond)) []
theorem holds_ok {G : Env0A} {W : Nat} (h : Has G 162 LastOk) : HoldsOk (runF G W f_holds) := by
  intro C L w c dw cond hA hd hw hc hl hcl
  obtain ⟨g, hg, ht⟩ := h
  have h1 : C < 1000000 := by have := hA.c4; omega
  have := for_find (st := fun s => exs G W [] b_holds_1 s) (g := .name 4) (.bl false) dN (List.range C) (fun p => !okAt L w c cond p)
    (fun _ s => ∃ x, s = [some (Al C L), some dw, some (.lst false (c.map dN)), some (.lst false (cond.map (lT D.int))), x])
    (s := [some (Al C L), some dw, some (.lst false (c.map dN)), some (.lst false (cond.map (lT D.int))), none]) ⟨none, rfl⟩ fun p hp s hs => by
      obtain ⟨x, rfl⟩ := hs
      simp at hp
      have ht := ht C L w c dw p hd hw hc hl
      have hpc : p < cond.length := by omega
      have he : cond.getD p [] = cond[p] := by simp [hpc]
      simp only [List.getElem_range, okAt, he]
      simp at ht
      by_cases hb : lstL L w c p ∈ cond[p] <;> rcases hd with rfl | rfl <;> simp -implicitDefEqProofs [b_holds_1, hg, ht, hpc, hb]
  simp only [holdsB]
  cases hb : (List.range C).any fun p => !okAt L w c cond p
  · rw [hb] at this
    simp only [Bool.false_eq_true, if_false] at this
    obtain ⟨s', e, x, rfl⟩ := this
    simp at e
    rcases hd with rfl | rfl <;> simp -implicitDefEqProofs [runF, f_holds_eq, g_holds, h1, e]
  · rw [hb] at this
    simp only [if_true] at this
    obtain ⟨s', e⟩ := this
    simp at e
    rcases hd with rfl | rfl <;> simp -implicitDefEqProofs [runF, f_holds_eq, g_holds, h1, e]
def wantI (C : Nat) (L : List (List Nat)) (w c : List Nat) (cond : List (List Int)) : Int := match (List.range C).find? fun p => !okAt L w c cond p with
  | some p => (p : Nat)
  | none => -1
def WantOk (g : Callee) : Prop := ∀ (C : Nat) (L : List (List Nat)) (w c : List Nat) (dw : D) (cond : List (List Int)), Alph C L → IsW dw w → WIn L w → c.Pairwise (· < ·) → (∀ x, x ∈ c → x < w.length) → cond.length = C →
  g [Al C L, dw, .lst false (c.map dN), .lst false (cond.map (lT D.int))] = .ok (.int (wantI C L w c cond)) []
theorem want_ok {G : Env0A} {W : Nat} (h : Has G 162 LastOk) : WantOk (runF G W f_wanting_place) := by
  intro C L w c dw cond hA hd hw hc hl hcl
  obtain ⟨g, hg, ht⟩ := h
  have h1 : C < 1000000 := by have := hA.c4; omega
  have := for_findE (st := fun s => exs G W [] b_wanting_place_1 s) (g := .name 4) dN dN (List.range C) (fun p => !okAt L w c cond p)
    (fun _ s => ∃ x, s = [some (Al C L), some dw, some (.lst false (c.map dN)), some (.lst false (cond.map (lT D.int))), x])
    (s := [some (Al C L), some dw, some (.lst false (c.map dN)), some (.lst false (cond.map (lT D.int))), none]) ⟨none, rfl⟩ fun p hp s hs => by
      obtain ⟨x, rfl⟩ := hs
      simp at hp
      have ht := ht C L w c dw p hd hw hc hl
      have hpc : p < cond.length := by omega
      have he : cond.getD p [] = cond[p] := by simp [hpc]
      simp only [List.getElem_range, okAt, he]
      simp at ht
      by_cases hb : lstL L w c p ∈ cond[p] <;> rcases hd with rfl | rfl <;> simp -implicitDefEqProofs [b_wanting_place_1, hg, ht, hpc, hb]
  simp only [wantI]
  rcases this with ⟨a, s', e1, e⟩ | ⟨e1, s', e, x, rfl⟩
  · rw [e1]
    simp at e
    rcases hd with rfl | rfl <;> simp -implicitDefEqProofs [runF, f_wanting_place_eq, g_wanting_place, h1, e]
  · rw [e1]
    simp at e
    rcases hd with rfl | rfl <;> simp -implicitDefEqProofs [runF, f_wanting_place_eq, g_wanting_place, h1, e]
def LHoldsOk (g : Callee) : Prop := ∀ (C : Nat) (L : List (List Nat)) (w c : List Nat) (cond : List (List Int)), Alph C L → WIn L w → (∀ x, x ∈ c → x < w.length) → cond.length = C →
  g [.int C, .lst false (L.map tN), .tup (w.map dN), .tup (c.map dN), .lst false (cond.map (lT D.int))] = .ok (.bl (holdsB C L w c cond)) []
theorem lholds_in {G : Env0A} {W : Nat} {C : Nat} {L : List (List Nat)} {w c : List Nat} (dc : D) (hA : Alph C L) (hw : WIn L w) (hl : ∀ x, x ∈ c → x < w.length) (p : Nat) (x7 : Option D) :
    ∃ y7, forL (fun s => exs G W [] b_l_holds_1 s) (.name 7) (c.map dN) [some (.int C), some (.lst false (L.map tN)), some (.tup (w.map dN)), some (.tup (c.map dN)), some dc, some (.int (p : Nat)), some (.int (-1)), x7] =
      .nx [some (.int C), some (.lst false (L.map tN)), some (.tup (w.map dN)), some (.tup (c.map dN)), some dc, some (.int (p : Nat)), some (.int (lstL L w c p)), y7] := by
  obtain ⟨s', e, y7, hs⟩ := for_ok (st := fun s => exs G W [] b_l_holds_1 s) (g := .name 7) dN c
    (fun n s => ∃ y7, s = [some (.int C), some (.lst false (L.map tN)), some (.tup (w.map dN)), some (.tup (c.map dN)), some dc, some (.int (p : Nat)), some (.int (lstL L w (c.take n) p)), y7])
    (s := [some (.int C), some (.lst false (L.map tN)), some (.tup (w.map dN)), some (.tup (c.map dN)), some dc, some (.int (p : Nat)), some (.int (-1)), x7]) ⟨x7, rfl⟩ fun n hn s hs => by
      obtain ⟨y7, rfl⟩ := hs
      have hx := hl c[n] (List.getElem_mem hn)
      have hx2 := hw.2 _ (List.getElem_mem hx)
      have hwd : w.getD c[n] 0 = w[c[n]] := by simp [hx]
      have hLd : L.getD w[c[n]] [] = L[w[c[n]]] := by simp [hx2]
      have ht : lstL L w (c.take (n + 1)) p = if p ∈ L[w[c[n]]] then ((w[c[n]] : Nat) : Int) else lstL L w (c.take n) p := by
        simp only [lstL, List.take_succ_eq_append_getElem hn, List.filter_append]
        by_cases hb : p ∈ L[w[c[n]]]
        · have : [c[n]].filter (atp L w p) = [c[n]] := by simp only [List.filter_cons, atp, hwd, hLd, hb, decide_true, if_true, List.filter_nil]
          rw [this]
          simp [hx, hb]
        · have : [c[n]].filter (atp L w p) = [] := by simp only [List.filter_cons, atp, hwd, hLd, hb, decide_false, Bool.false_eq_true, if_false, List.filter_nil]
          rw [this]
          simp [hb]
      rw [ht]
      by_cases hb : p ∈ L[w[c[n]]] <;> simp -implicitDefEqProofs [b_l_holds_1, hx, hx2, hb]
  refine ⟨y7, ?_⟩
  rw [e, hs, List.take_length]
theorem lholds_ok {G : Env0A} {W : Nat} : LHoldsOk (runF G W f_l_holds) := by
  intro C L w c cond hA hw hl hcl
  have h1 : C < 1000000 := by have := hA.c4; omega
  have := for_find (st := fun s => exs G W [] b_l_holds_2 s) (g := .name 5) (.bl false) dN (List.range C) (fun p => !okAt L w c cond p)
    (fun _ s => ∃ x5 x6 x7, s = [some (.int C), some (.lst false (L.map tN)), some (.tup (w.map dN)), some (.tup (c.map dN)), some (.lst false (cond.map (lT D.int))), x5, x6, x7])
    (s := [some (.int C), some (.lst false (L.map tN)), some (.tup (w.map dN)), some (.tup (c.map dN)), some (.lst false (cond.map (lT D.int))), none, none, none]) ⟨none, none, none, rfl⟩ fun p hp s hs => by
      obtain ⟨x5, x6, x7, rfl⟩ := hs
      simp at hp
      obtain ⟨y7, e⟩ := lholds_in (G := G) (W := W) (.lst false (cond.map (lT D.int))) hA hw hl p x7
      have hpc : p < cond.length := by omega
      have he : cond.getD p [] = cond[p] := by simp [hpc]
      simp only [List.getElem_range, okAt, he]
      by_cases hb : lstL L w c p ∈ cond[p] <;> simp -implicitDefEqProofs [b_l_holds_2, e, hpc, hb]
  simp only [holdsB]
  cases hb : (List.range C).any fun p => !okAt L w c cond p
  · rw [hb] at this
    simp only [Bool.false_eq_true, if_false] at this
    obtain ⟨s', e, x5, x6, x7, rfl⟩ := this
    simp -implicitDefEqProofs [runF, f_l_holds_eq, g_l_holds, h1, e]
  · rw [hb] at this
    simp only [if_true] at this
    obtain ⟨s', e⟩ := this
    simp -implicitDefEqProofs [runF, f_l_holds_eq, g_l_holds, h1, e]
def IsCutOk (g : Callee) : Prop := ∀ (C : Nat) (L : List (List Nat)) (w ev : List Nat) (dw : D), IsW dw w → WIn L w → (∀ e, e ∈ ev → e < w.length) → ev.length ≤ 1000 → g [Al C L, dw, .lst false (ev.map dN)] = .ok (.bl (decide (bel L w ev = srt ev))) []
theorem isCut_ok {G : Env0A} {W : Nat} (h : Has G 34 BelowOk) : IsCutOk (runF G W f_is_cut) := by
  intro C L w ev dw hd hw he hz
  obtain ⟨g, hg, hb⟩ := h
  have hb := hb C L w ev dw hd hw he
  have h1 : ev.length ≤ 16777216 := by omega
  simp at hb
  rcases hd with rfl | rfl <;> simp -implicitDefEqProofs [runF, f_is_cut_eq, g_is_cut, hg, hb, h1]
/-! Abm31: prefixes by cuts; the greatest common one -/
def part (w c : List Nat) : List Nat := c.map fun k => w.getD k 0
def comp (w c : List Nat) : List Nat := (List.range w.length).filter fun k => !decide (k ∈ c)
theorem split_down {l : List Nat} {q : Nat → Bool} (h : l.Pairwise fun x y => q y = true → q x = true) : l = l.filter q ++ l.filter fun x => !q x := by
  induction l with
  | nil => rfl
  | cons a l ih =>
    have h' := List.pairwise_cons.mp h
    cases ha : q a
    · have hno : l.filter q = [] := by
        rw [List.filter_eq_nil_iff]
        intro x hx hq
        have := h'.1 x hx hq
        rw [ha] at this; exact absurd this (by decide)
      have hall : l.filter (fun x => !q x) = l := by
        rw [List.filter_eq_self]
        intro x hx
        have : ¬ q x = true := List.filter_eq_nil_iff.mp hno x hx
        simpa using this
      simp [List.filter_cons, ha, hno, hall]
    · simp only [List.filter_cons, ha, if_true, Bool.not_true, Bool.false_eq_true, if_false, List.cons_append]
      rw [← ih h'.2]
theorem plw_part {L : List (List Nat)} {w c : List Nat} {p : Nat} : plw L (part w c) p = part w (c.filter (atp L w p)) := by
  simp only [plw, part, List.filter_map]
  rfl
theorem part_all (w : List Nat) : part w (List.range w.length) = w := by
  apply List.ext_getElem
  · simp [part]
  · intro i h1 h2
    simp [part, h2]
theorem cut_filter {d : Nat → Nat → Bool} {n : Nat} {c : List Nat} (h : Cut d n c) : (List.range n).filter (fun k => decide (k ∈ c)) = c := by
  refine asc_eq ((List.pairwise_lt_range).filter _) h.asc fun x => ?_
  simp only [List.mem_filter, List.mem_range, decide_eq_true_eq]
  exact ⟨fun h => h.2, fun hx => ⟨h.lt x hx, hx⟩⟩
/-- a word is what a cut takes, and then the others -/
theorem cut_alk {L : List (List Nat)} {w c : List Nat} (h : Cut (de L w) w.length c) : Alk L (part w c ++ part w (comp w c)) w := fun p => by
  rw [plw_app, plw_part, plw_part]
  have e : plw L w p = part w ((List.range w.length).filter (atp L w p)) := by
    conv => lhs; rw [← part_all w]
    rw [plw_part]
  rw [e]
  have hs := split_down (l := (List.range w.length).filter (atp L w p)) (q := fun k => decide (k ∈ c)) (by
    have hp : ((List.range w.length).filter (atp L w p)).Pairwise (· < ·) := (List.pairwise_lt_range).filter _
    rw [List.pairwise_iff_getElem] at hp ⊢
    intro i j hi hj hij hq
    have hlt := hp i j hi hj hij
    simp only [decide_eq_true_eq] at hq ⊢
    have h1 := (List.mem_filter.mp (List.getElem_mem hi)).2
    have h2 := (List.mem_filter.mp (List.getElem_mem hj)).2
    simp only [atp, decide_eq_true_eq] at h1 h2
    exact h.down _ hq _ hlt (dl_of h1 h2))
  rw [hs, part, part, part, List.map_append]
  congr 2
  · rw [List.filter_filter]
    conv => lhs; rw [← cut_filter h]
    rw [List.filter_filter]
    apply List.filter_congr
    intro x _
    exact Bool.and_comm _ _
  · rw [comp, List.filter_filter, List.filter_filter]
    apply List.filter_congr
    intro x _
    exact Bool.and_comm _ _
theorem Alk.cancel_right {L : List (List Nat)} {u v w : List Nat} (h : Alk L (u ++ w) (v ++ w)) : Alk L u v := fun p => by
  have := h p
  rw [plw_app, plw_app] at this
  exact List.append_cancel_right this
theorem part_vl {C : Nat} {L : List (List Nat)} {w c : List Nat} (hw : VL C L w) (hc : ∀ x, x ∈ c → x < w.length) : VL C L (part w c) := fun a ha => by
  obtain ⟨k, hk, rfl⟩ := List.mem_map.mp ha
  have hk := hc k hk
  have : w.getD k 0 = w[k] := by simp [hk]
  rw [this]; exact hw _ (List.getElem_mem hk)
theorem comp_lt {w c : List Nat} : ∀ x, x ∈ comp w c → x < w.length := fun x hx => by simp [comp] at hx; exact hx.1
theorem insN_mem2 {k x : Nat} {c : List Nat} : x ∈ insN k c ↔ x = k ∨ x ∈ c := mem_insN
theorem insN_len2 {k : Nat} {c : List Nat} (h : k ∉ c) : (insN k c).length = c.length + 1 := by
  induction c with
  | nil => rfl
  | cons y c ih =>
    simp only [insN]
    by_cases h1 : k < y
    · simp [h1]
    · have h2 : ¬ k = y := fun e => h (by simp [e])
      rw [if_neg h1, if_neg h2]
      simp only [List.length_cons, ih (fun hk => h (by simp [hk]))]
/-- each beginning of a word is taken by some cut -/
theorem pre_cut {C : Nat} {L : List (List Nat)} (hA : Alph C L) {w : List Nat} (hw : VL C L w) : ∀ (n : Nat) (u r : List Nat), u.length = n → VL C L u → VL C L r → Alk L (u ++ r) w → ∃ c, Cut (de L w) w.length c ∧ Alk L (part w c) u ∧ c.length = u.length
  | 0, u, r, hn, _, _, _ => ⟨[], ⟨List.Pairwise.nil, by simp, by simp⟩, by rw [List.length_eq_zero_iff.mp hn]; exact Alk.refl _, by simp [hn]⟩
  | n + 1, u, r, hn, hu, hr, h => by
    have hne : u ≠ [] := by intro e; rw [e] at hn; simp at hn
    have e := List.dropLast_concat_getLast hne
    generalize u.getLast hne = a at e
    generalize hu' : u.dropLast = u' at e
    subst e
    have hu1 : VL C L u' := fun b hb => hu b (by simp [hb])
    have ha := hu a (by simp)
    rw [List.append_assoc] at h
    have har : VL C L ([a] ++ r) := fun b hb => by
      rcases List.mem_append.mp hb with hb | hb
      · rw [List.mem_singleton] at hb; rw [hb]; exact ha
      · exact hr b hb
    obtain ⟨c, hc, h1, h2⟩ := pre_cut hA hw n u' ([a] ++ r) (by simp at hn; exact hn) hu1 har h
    have hcomp := cut_alk hc
    have h3 : Alk L ([a] ++ r) (part w (comp w c)) := by
      refine Alk.cancel (u := part w c) ?_
      exact (Alk.app h1 (Alk.refl _)).trans (h.trans hcomp.symm)
    have hf : Fst L (part w (comp w c)) a := Fst.alk hA har h3 fst_cons
    obtain ⟨k0, hk0, hcan, hka⟩ := fst_at hf
    have hk0' : k0 < (comp w c).length := by simpa [part] using hk0
    -- the place in w
    generalize hk : (comp w c)[k0] = k
    have hkm : k ∈ comp w c := by rw [← hk]; exact List.getElem_mem hk0'
    have hkl := comp_lt k hkm
    have hkc : k ∉ c := by simp [comp] at hkm; exact hkm.2
    have hwk : w.getD k 0 = a := by rw [← hka, ← hk]; simp [part]
    have hcasc : (comp w c).Pairwise (· < ·) := (List.pairwise_lt_range).filter _
    have hcut : Cut (de L w) w.length (insN k c) := by
      refine ⟨insN_asc hc.asc, fun x hx => ?_, fun x hx j hj hd => ?_⟩
      · rcases mem_insN.mp hx with rfl | hx
        · exact hkl
        · exact hc.lt x hx
      · rcases mem_insN.mp hx with rfl | hx
        · refine mem_insN.mpr (.inr ?_)
          refine Classical.byContradiction fun hjc => ?_
          have hjm : j ∈ comp w c := by simp only [comp, List.mem_filter, List.mem_range, Bool.not_eq_true', decide_eq_false_iff_not]; exact ⟨by omega, hjc⟩
          obtain ⟨i, hi, hie⟩ := List.mem_iff_getElem.mp hjm
          have hik : i < k0 := by
            refine Classical.byContradiction fun hn => ?_
            by_cases e : i = k0
            · subst e; rw [hie] at hk; omega
            · have := List.pairwise_iff_getElem.mp hcasc k0 i hk0' hi (by omega)
              rw [hk, hie] at this; omega
          have := canF_iff.mp hcan i hik
          have e1 : (part w (comp w c)).getD i 0 = w.getD j 0 := by rw [← hie]; simp [part, hi]
          have e2 : (part w (comp w c)).getD k0 0 = w.getD x 0 := by rw [← hk]; simp [part, hk0']
          rw [de, e1, e2] at this
          rw [de] at hd
          rw [hd] at this; exact absurd this (by decide)
        · exact mem_insN.mpr (.inr (hc.down x hx j hj hd))
    refine ⟨insN k c, hcut, ?_, by rw [insN_len2 hkc, h2]; simp⟩
    -- the others
    have hrest : (comp w c).eraseIdx k0 = comp w (insN k c) := by
      have h5 : comp w (insN k c) = (comp w c).filter fun x => !decide (x = k) := by
        simp only [comp, List.filter_filter]
        apply List.filter_congr
        intro x _
        by_cases e1 : x = k
        · have : x ∈ insN k c := mem_insN.mpr (.inl e1)
          simp [e1, mem_insN]
        · by_cases e2 : x ∈ c
          · have : x ∈ insN k c := mem_insN.mpr (.inr e2)
            simp [e2, this]
          · have : x ∉ insN k c := fun h => by
              rcases mem_insN.mp h with h | h
              · exact e1 h
              · exact e2 h
            simp [e1, e2, this]
      rw [h5, erase_at]
      have hs := split_at hk0'
      rw [hk] at hs
      have hp := hcasc
      rw [hs] at hp
      have hp' := List.pairwise_append.mp hp
      have hp2 := List.pairwise_cons.mp hp'.2.1
      conv => rhs; rw [hs]
      rw [List.filter_append, List.filter_cons_of_neg (by simp)]
      congr 1
      · exact (List.filter_eq_self.mpr fun x hx => by have := hp'.2.2 x hx k (by simp); simp; omega).symm
      · exact (List.filter_eq_self.mpr fun x hx => by have := hp2.1 x hx; simp; omega).symm
    have hme : (part w (comp w c)).eraseIdx k0 = part w ((comp w c).eraseIdx k0) := by
      simp only [part, List.eraseIdx_eq_take_drop_succ, List.map_append, List.map_take, List.map_drop]
    have hout := tk_out hk0 hcan
    rw [hka, hme, hrest] at hout
    refine Alk.cancel_right (w := part w (comp w (insN k c))) ?_
    refine (cut_alk hcut).trans (hcomp.symm.trans ?_)
    rw [List.append_assoc]
    exact Alk.app h1 hout.symm
/-- a beginning, up to order -/
def Pre (L : List (List Nat)) (u w : List Nat) : Prop := ∃ r, (∀ a, a ∈ r → a < L.length) ∧ Alk L (u ++ r) w
theorem pre_iff {C : Nat} {L : List (List Nat)} (hA : Alph C L) {u w : List Nat} (hu : VL C L u) (hw : VL C L w) : (∃ c, Cut (de L w) w.length c ∧ c.length = u.length ∧ Alk L (part w c) u) ↔ Pre L u w := by
  constructor
  · rintro ⟨c, hc, _, h⟩
    exact ⟨part w (comp w c), part_vl (C := C) hw comp_lt, (Alk.app h.symm (Alk.refl _)).trans (cut_alk hc)⟩
  · rintro ⟨r, hr, h⟩
    obtain ⟨c, h1, h2, h3⟩ := pre_cut hA hw _ u r rfl hu hr h
    exact ⟨c, h1, h3, h2⟩
/-- two words have a common beginning behind which no letter could come first in both -/
theorem com_ex {C : Nat} {L : List (List Nat)} (hA : Alph C L) : ∀ (n : Nat) (u v : List Nat), u.length = n → VL C L u → VL C L v → ∃ g u' v', VL C L g ∧ VL C L u' ∧ VL C L v' ∧ Alk L (g ++ u') u ∧ Alk L (g ++ v') v ∧ NoC L u' v'
  | 0, u, v, hn, hu, hv => ⟨[], u, v, by simp [VL], hu, hv, Alk.refl _, Alk.refl _, fun a ha => by rw [List.length_eq_zero_iff.mp hn] at ha; exact absurd ha.1 (by simp)⟩
  | n + 1, u, v, hn, hu, hv => by
    by_cases hex : ∃ a, Fst L u a ∧ Fst L v a
    · obtain ⟨a, h1, h2⟩ := hex
      obtain ⟨k, hk, k1, k2⟩ := fst_at h1
      obtain ⟨j, hj, j1, j2⟩ := fst_at h2
      have o1 := tk_out hk k1
      have o2 := tk_out hj j1
      rw [k2] at o1
      rw [j2] at o2
      obtain ⟨g, u', v', h3, h4, h5, h6, h7, h8⟩ := com_ex hA n (u.eraseIdx k) (v.eraseIdx j) (by rw [List.length_eraseIdx, if_pos hk]; omega) (erase_vl hu) (erase_vl hv)
      refine ⟨a :: g, u', v', fun b hb => ?_, h4, h5, ?_, ?_, h8⟩
      · rcases List.mem_cons.mp hb with rfl | hb
        · exact hu b h1.1
        · exact h3 b hb
      · exact (Alk.app (u := [a]) (v := [a]) (Alk.refl _) h6).trans o1
      · exact (Alk.app (u := [a]) (v := [a]) (Alk.refl _) h7).trans o2
    · exact ⟨[], u, v, by simp [VL], hu, hv, Alk.refl _, Alk.refl _, fun a h1 h2 => hex ⟨a, h1, h2⟩⟩
theorem pre_common {C : Nat} {L : List (List Nat)} (hA : Alph C L) {b r s f one two u v : List Nat} (hb : VL C L b) (hr : VL C L r) (hs : VL C L s) (hf : VL C L f) (h1 : VL C L one) (h2 : VL C L two)
    (e1 : Alk L (b ++ r) u) (e2 : Alk L (b ++ s) v) (e3 : Alk L (f ++ one) u) (e4 : Alk L (f ++ two) v) (hn : NoC L one two) : Pre L b f := by
  obtain ⟨g, b', f', hg, hb', hf', g1, g2, g3⟩ := com_ex hA _ b f rfl hb hf
  have key : ∀ {y w : List Nat}, VL C L y → VL C L w → Alk L (b ++ y) (f ++ w) → ∃ q, VL C L q ∧ Alk L w (b' ++ q) := fun {y w} hy hw h => by
    have h3 : Alk L (b' ++ y) (f' ++ w) := by
      refine Alk.cancel (u := g) ?_
      rw [← List.append_assoc, ← List.append_assoc]
      exact (Alk.app g1 (Alk.refl y)).trans (h.trans (Alk.app g2 (Alk.refl w)).symm)
    obtain ⟨_, q, hq, _, h4⟩ := levi hA hf' hb' hy hw h3 g3
    exact ⟨q, hq, h4⟩
  obtain ⟨q1, w1, k1⟩ := key hr h1 (e1.trans e3.symm)
  obtain ⟨q2, w2, k2⟩ := key hs h2 (e2.trans e4.symm)
  cases b' with
  | nil =>
    have : Alk L g b := by simpa using g1
    exact ⟨f', hf', (Alk.app this.symm (Alk.refl _)).trans g2⟩
  | cons a b' =>
    have happ : ∀ {x y : List Nat}, VL C L x → VL C L y → VL C L (x ++ y) := fun ha hb c hc => by
      rcases List.mem_append.mp hc with hc | hc
      · exact ha c hc
      · exact hb c hc
    exact absurd (Fst.alk hA (happ hb' w2) k2.symm fst_cons) (hn a (Fst.alk hA (happ hb' w1) k1.symm fst_cons))
theorem Sw.alk {L : List (List Nat)} {w v : List Nat} (h : Sw L w v) : Alk L w v := by
  induction h with
  | refl => exact Alk.refl _
  | @step u t a b _ hd ih =>
    refine ih.trans fun p => ?_
    rw [plw_app, plw_app, plw_cons, plw_cons, plw_cons, plw_cons]
    by_cases h1 : p ∈ L.getD a [] <;> by_cases h2 : p ∈ L.getD b []
    · rw [dl_of h1 h2] at hd; exact absurd hd (by decide)
    · simp only [if_pos h1, if_neg h2]
    · simp only [if_neg h1, if_pos h2]
    · simp only [if_neg h1, if_neg h2]
/-! Abm34: swaps of neighbours: what swaps and swapped reckon -/
def sw2 (w : List Nat) (r : Nat) : List Nat := (w.set r (w.getD (r + 1) 0)).set (r + 1) (w.getD r 0)
def swBad (L : List (List Nat)) (w : List Nat) (p : Int) : Bool := decide (p < 0) || (decide ((w.length : Int) ≤ p + 1) || dl L (w.getD p.toNat 0) (w.getD (p.toNat + 1) 0))
def swd (L : List (List Nat)) : List Nat → List Int → Option (List Nat)
  | w, [] => some w
  | w, p :: ps => if swBad L w p then none else swd L (sw2 w p.toNat) ps
def downs (k : Nat) : Nat → List Nat
  | 0 => []
  | m + 1 => (k + m) :: downs k m
def fi (a : Nat) (u : List Nat) : Nat := u.findIdx fun x => decide (x = a)
def sqs : Nat → List Nat → List Nat → List Nat
  | _, _, [] => []
  | k, u, a :: v => downs k (fi a u) ++ sqs (k + 1) (u.eraseIdx (fi a u)) v
theorem downs_len (k m : Nat) : (downs k m).length = m := by
  induction m with
  | zero => rfl
  | succ m ih => simp [downs, ih]
theorem sw2_eq {w : List Nat} {r : Nat} (h : r + 1 < w.length) : sw2 w r = w.take r ++ w[r + 1] :: w[r] :: w.drop (r + 2) := by
  rw [← swap_two h, sw2]
  simp [List.getD_eq_getElem?_getD, h, Nat.lt_of_succ_lt h]
theorem swBad_not {L : List (List Nat)} {w : List Nat} {p : Int} (h : swBad L w p = false) : ∃ r : Nat, p = r ∧ ∃ h2 : r + 1 < w.length, dl L w[r] w[r + 1] = false := by
  simp only [swBad, Bool.or_eq_false_iff, decide_eq_false_iff_not] at h
  obtain ⟨h1, h2, h3⟩ := h
  refine ⟨p.toNat, by omega, by omega, ?_⟩
  have h4 : p.toNat + 1 < w.length := by omega
  rw [List.getD_eq_getElem?_getD, List.getD_eq_getElem?_getD, List.getElem?_eq_getElem h4, List.getElem?_eq_getElem (by omega)] at h3
  exact h3
theorem swd_sw {L : List (List Nat)} : ∀ (ps : List Int) {w0 w v : List Nat}, Sw L w0 w → swd L w ps = some v → Sw L w0 v
  | [], w0, w, v, h, e => by cases e; exact h
  | p :: ps, w0, w, v, h, e => by
    rw [swd] at e
    cases hb : swBad L w p
    · rw [hb] at e
      obtain ⟨r, rfl, h2, hd⟩ := swBad_not hb
      rw [if_neg (by decide), Int.toNat_natCast] at e
      refine swd_sw ps ?_ e
      rw [sw2_eq h2]
      refine Sw.step ?_ hd
      rw [← split_two h2]; exact h
    · rw [hb] at e; cases e
theorem swd_step {L : List (List Nat)} {u v : List Nat} {a b : Nat} {ps : List Int} (h : dl L a b = false) : swd L (u ++ a :: b :: v) ((u.length : Int) :: ps) = swd L (u ++ b :: a :: v) ps := by
  have h1 : u.length + 1 < (u ++ a :: b :: v).length := by simp
  have e : swBad L (u ++ a :: b :: v) u.length = false := by
    simp only [swBad, Int.toNat_natCast, Bool.or_eq_false_iff, decide_eq_false_iff_not]
    refine ⟨by omega, by simp; omega, ?_⟩
    have g1 : (u ++ a :: b :: v).getD u.length 0 = a := by simp [List.getD_eq_getElem?_getD]
    have g2 : (u ++ a :: b :: v).getD (u.length + 1) 0 = b := by
      rw [List.getD_eq_getElem?_getD, List.getElem?_append_right (by omega)]
      simp
    rw [g1, g2]; exact h
  rw [swd, e]
  simp only [Bool.false_eq_true, if_false, Int.toNat_natCast]
  congr 1
  have := set_swap u v a b
  rw [sw2]
  have g1 : (u ++ a :: b :: v).getD u.length 0 = a := by simp [List.getD_eq_getElem?_getD]
  have g2 : (u ++ a :: b :: v).getD (u.length + 1) 0 = b := by
    rw [List.getD_eq_getElem?_getD, List.getElem?_append_right (by omega)]
    simp
  rw [g1, g2]; exact this
theorem swd_bubble {L : List (List Nat)} {p : List Nat} {a : Nat} {ps : List Int} : ∀ (m : Nat) (s t : List Nat), s.length = m → (∀ x, x ∈ s → dl L x a = false) →
    swd L (p ++ (s ++ a :: t)) ((downs p.length m).map (fun (n : Nat) => (n : Int)) ++ ps) = swd L (p ++ a :: (s ++ t)) ps
  | 0, s, t, hs, _ => by
    have := List.length_eq_zero_iff.mp hs
    subst this; rfl
  | m + 1, s, t, hs, h => by
    obtain ⟨s', x, rfl⟩ : ∃ s' x, s = s' ++ [x] := by
      rcases List.eq_nil_or_concat s with e | ⟨s', x, e⟩
      · rw [e] at hs; simp at hs
      · exact ⟨s', x, by simpa using e⟩
    have hm : s'.length = m := by simpa using hs
    have e1 : p ++ (s' ++ [x] ++ a :: t) = (p ++ s') ++ x :: a :: t := by simp
    have e2 : ((p.length + m : Nat) : Int) = ((p ++ s').length : Int) := by simp [hm]
    rw [downs, List.map_cons, List.cons_append, e1, e2, swd_step (h x (by simp))]
    have e3 : p ++ s' ++ a :: x :: t = p ++ (s' ++ a :: (x :: t)) := by simp
    rw [e3, swd_bubble m s' (x :: t) hm fun y hy => h y (by simp [hy])]
    simp
theorem fi_spec {a : Nat} {u : List Nat} {k : Nat} (hk : k < u.length) (e : u[k] = a) (h : ∀ j (hj : j < k), u[j]'(by omega) ≠ a) : fi a u = k := by
  unfold fi
  rw [List.findIdx_eq hk]
  exact ⟨by simp [e], fun j hj => by simpa using h j hj⟩
theorem alk_front {C : Nat} {L : List (List Nat)} (hA : Alph C L) {u v : List Nat} {a : Nat} (hu : VL C L u) (hv : VL C L (a :: v)) (h : Alk L u (a :: v)) :
    ∃ s t, u = s ++ a :: t ∧ fi a u = s.length ∧ (∀ x, x ∈ s → x ≠ a ∧ dl L x a = false) ∧ u.eraseIdx (fi a u) = s ++ t ∧ Alk L (s ++ t) v := by
  have hf : Fst L u a := Fst.alk hA hv h.symm fst_cons
  obtain ⟨k, hk, hc, e⟩ := fst_at hf
  have hc' := canF_iff.mp hc
  have ha : a < L.length := hv a (by simp)
  have hd : ∀ j (hj : j < k), dl L (u[j]'(by omega)) a = false := fun j hj => by
    have := hc' j hj
    rw [de, List.getD_eq_getElem?_getD, List.getD_eq_getElem?_getD, List.getElem?_eq_getElem hk, List.getElem?_eq_getElem (by omega)] at this
    simp only [Option.getD_some] at this
    rw [e] at this; exact this
  have hne : ∀ j (hj : j < k), u[j]'(by omega) ≠ a := fun j hj z => by
    have := hd j hj
    rw [z, dl_refl hA ha] at this; cases this
  have hfi := fi_spec hk e hne
  have hl : (u.take k).length = k := by simp; omega
  refine ⟨u.take k, u.drop (k + 1), ?_, by rw [hfi, hl], fun x hx => ?_, by rw [hfi, erase_at], ?_⟩
  · rw [← e]; exact split_at hk
  · obtain ⟨j, hj, rfl⟩ := List.getElem_of_mem hx
    have hj' : j < k := by omega
    rw [List.getElem_take]
    exact ⟨hne j hj', hd j hj'⟩
  · have h1 := tk_out hk hc
    rw [e, erase_at] at h1
    exact (h1.trans h).cons_cancel
theorem sqs_ok {C : Nat} {L : List (List Nat)} (hA : Alph C L) {ps : List Int} : ∀ (v u p : List Nat), VL C L u → VL C L v → Alk L u v →
    swd L (p ++ u) ((sqs p.length u v).map (fun (n : Nat) => (n : Int)) ++ ps) = swd L (p ++ v) ps
  | [], u, p, hu, hv, h => by
    have := alk_nil hA hu h.symm
    subst this; rfl
  | a :: v, u, p, hu, hv, h => by
    obtain ⟨s, t, e, hf, hs, he, hk⟩ := alk_front hA hu hv h
    rw [sqs, he, hf, List.map_append, List.append_assoc]
    have e0 : swd L (p ++ u) = swd L (p ++ (s ++ a :: t)) := by rw [e]
    rw [e0, swd_bubble s.length s t rfl fun x hx => (hs x hx).2]
    have e1 : p ++ a :: (s ++ t) = (p ++ [a]) ++ (s ++ t) := by simp
    have e2 : p ++ a :: v = (p ++ [a]) ++ v := by simp
    have e3 : p.length + 1 = (p ++ [a]).length := by simp
    rw [e1, e2, e3]
    refine sqs_ok hA v (s ++ t) (p ++ [a]) (fun x hx => hu x ?_) (fun x hx => hv x (by simp [hx])) hk
    rw [e]
    simp only [List.mem_append, List.mem_cons] at hx ⊢
    rcases hx with hx | hx
    · exact .inl hx
    · exact .inr (.inr hx)
theorem swd_sqs {C : Nat} {L : List (List Nat)} (hA : Alph C L) {u v : List Nat} (hu : VL C L u) (hv : VL C L v) (h : Alk L u v) : swd L u ((sqs 0 u v).map fun (n : Nat) => (n : Int)) = some v := by
  have := sqs_ok hA (ps := []) v u [] hu hv h
  simpa [swd] using this
theorem alk_sw {C : Nat} {L : List (List Nat)} (hA : Alph C L) {u v : List Nat} (hu : VL C L u) (hv : VL C L v) (h : Alk L u v) : Sw L u v := swd_sw _ .refl (swd_sqs hA hu hv h)
theorem sqs_len (n : Nat) : ∀ (v u : List Nat) (k : Nat), u.length ≤ n → (sqs k u v).length ≤ v.length * n
  | [], u, k, h => by simp [sqs]
  | a :: v, u, k, h => by
    have h1 : fi a u ≤ n := Nat.le_trans List.findIdx_le_length h
    have h2 := sqs_len n v (u.eraseIdx (fi a u)) (k + 1) (Nat.le_trans (List.length_eraseIdx_le ..) h)
    rw [sqs, List.length_append, downs_len, List.length_cons, Nat.succ_mul]
    omega
/-! swapped -/
def rN (o : Option (List Nat)) : D := match o with
  | none => .non
  | some r => .tup (r.map dN)
def SwappedOk (g : Callee) : Prop := ∀ (C : Nat) (L : List (List Nat)) (w : List Nat) (ps : List Int) (dw : D), Alph C L → IsW dw w → WIn L w → g [Al C L, dw, .lst false (ps.map .int)] = .ok (rN (swd L w ps)) []
/-! Abm35: the evaluators of swapped and swaps -/
theorem sw2_win {L : List (List Nat)} {w : List Nat} {r : Nat} (h : r + 1 < w.length) (hw : WIn L w) : WIn L (sw2 w r) := by
  rw [sw2_eq h]
  have e := split_two h
  refine ⟨?_, fun a ha => hw.2 a ?_⟩
  · have h1 := hw.1
    have : (w.take r ++ w[r + 1] :: w[r] :: w.drop (r + 2)).length = w.length := by simp; omega
    omega
  · rw [e]
    simp only [List.mem_append, List.mem_cons] at ha ⊢
    rcases ha with ha | ha | ha | ha
    · exact .inl ha
    · exact .inr (.inr (.inl ha))
    · exact .inr (.inl ha)
    · exact .inr (.inr (.inr ha))
theorem swapped_loop {G : Env0A} {W : Nat} (hI : Has G 2 IndOk) {C : Nat} {L : List (List Nat)} (hA : Alph C L) (dw dp : D) : ∀ (ps : List Int) (w : List Nat) (x4 : Option D), WIn L w →
    (∃ v y4, swd L w ps = some v ∧ WIn L v ∧ forL (fun s => exs G W [] b_swapped_1 s) (.name 4) (ps.map .int) [some (Al C L), some dw, some dp, some (.lst true (w.map dN)), x4] = .nx [some (Al C L), some dw, some dp, some (.lst true (v.map dN)), y4]) ∨
    (swd L w ps = none ∧ ∃ s', forL (fun s => exs G W [] b_swapped_1 s) (.name 4) (ps.map .int) [some (Al C L), some dw, some dp, some (.lst true (w.map dN)), x4] = .rt .non s')
  | [], w, x4, hw => .inl ⟨w, x4, rfl, hw, rfl⟩
  | p :: ps, w, x4, hw => by
    have hI' := hI
    obtain ⟨g, hg, hI⟩ := hI
    have hwl := hw.1
    cases hb : swBad L w p
    · obtain ⟨r, rfl, h2, hd⟩ := swBad_not hb
      have e1 := hI C L w[r] w[r + 1] (hw.2 _ (List.getElem_mem _)) (hw.2 _ (List.getElem_mem _))
      rw [hd] at e1
      have h0 : ¬ ((r : Int) < 0) := by omega
      have h3 : ¬ ((w.length : Int) ≤ (r : Int) + 1) := by omega
      have hr : r < w.length := by omega
      have e3 : ixN w.length ((r : Int) + 1) = some (r + 1) := by
        have := ixN_natq w.length (r + 1)
        rw [if_pos h2] at this
        simpa using this
      have hstep : exs G W [] b_swapped_1 [some (Al C L), some dw, some dp, some (.lst true (w.map dN)), some (.int (r : Nat))] = .nx [some (Al C L), some dw, some dp, some (.lst true ((sw2 w r).map dN)), some (.int (r : Nat))] := by
        have hs : (sw2 w r) = (w.set r w[r + 1]).set (r + 1) w[r] := by rw [sw2_eq h2, swap_two h2]
        rw [hs]
        simp at e1
        simp -implicitDefEqProofs [b_swapped_1, hg, e1, e3, h0, h2, h3, hr, stI, nxt, List.map_set]
      have ih := swapped_loop hI' (G := G) (W := W) hA dw dp ps (sw2 w r) (some (.int (r : Nat))) (sw2_win h2 hw)
      have hres : swd L w ((r : Int) :: ps) = swd L (sw2 w r) ps := by rw [swd, hb, if_neg (by decide), Int.toNat_natCast]
      rw [hres]
      simp only [List.map_cons, forL, asgG_name, List.set_cons_succ, List.set_cons_zero, hstep]
      exact ih
    · right
      refine ⟨by rw [swd, hb, if_pos rfl], [some (Al C L), some dw, some dp, some (.lst true (w.map dN)), some (.int p)], ?_⟩
      have hstep : exs G W [] b_swapped_1 [some (Al C L), some dw, some dp, some (.lst true (w.map dN)), some (.int p)] = .rt .non [some (Al C L), some dw, some dp, some (.lst true (w.map dN)), some (.int p)] := by
        by_cases h0 : p < 0
        · simp -implicitDefEqProofs [b_swapped_1, h0]
        · by_cases h3 : (w.length : Int) ≤ p + 1
          · simp -implicitDefEqProofs [b_swapped_1, h0, h3]
          · obtain ⟨r, rfl⟩ : ∃ r : Nat, p = r := ⟨p.toNat, by omega⟩
            have h2 : r + 1 < w.length := by omega
            have hr : r < w.length := by omega
            have e1 := hI C L w[r] w[r + 1] (hw.2 _ (List.getElem_mem _)) (hw.2 _ (List.getElem_mem _))
            simp only [swBad, h0, h3, decide_false, Bool.false_or, Int.toNat_natCast, List.getD_eq_getElem?_getD, List.getElem?_eq_getElem h2, List.getElem?_eq_getElem hr, Option.getD_some] at hb
            rw [hb] at e1
            have e3 : ixN w.length ((r : Int) + 1) = some (r + 1) := by
              have := ixN_natq w.length (r + 1)
              rw [if_pos h2] at this
              simpa using this
            simp at e1
            simp -implicitDefEqProofs [b_swapped_1, hg, e1, e3, h0, h2, h3, hr]
      simp only [List.map_cons, forL, asgG_name, List.set_cons_succ, List.set_cons_zero, hstep]
theorem swapped_ok {G : Env0A} {W : Nat} (hI : Has G 2 IndOk) : SwappedOk (runF G W f_swapped) := by
  intro C L w ps dw hA hd hw
  rcases swapped_loop (G := G) (W := W) hI hA dw (.lst false (ps.map .int)) ps w none hw with ⟨v, y4, h1, h2, e⟩ | ⟨h1, s', e⟩
  · rw [h1]
    have hvl : v.length ≤ 16777216 := by have := h2.1; omega
    simp at e
    rcases hd with rfl | rfl <;> simp -implicitDefEqProofs [runF, f_swapped_eq, g_swapped, e, rN]
  · rw [h1]
    simp at e
    rcases hd with rfl | rfl <;> simp -implicitDefEqProofs [runF, f_swapped_eq, g_swapped, e, rN]
/-! swaps -/
theorem downs_succ (k m : Nat) : downs k (m + 1) = (k + m) :: downs k m := rfl
theorem getD_app {p u : List Nat} {i : Nat} : (p ++ u).getD (p.length + i) 0 = u.getD i 0 := by
  rw [List.getD_eq_getElem?_getD, List.getD_eq_getElem?_getD, List.getElem?_append_right (by omega)]
  congr 2; omega
/-- the first place of a letter -/
theorem swaps_find {G : Env0A} {W : Nat} (hW : 1000000 ≤ W) (x0 x1 x4 : Option D) (p s t v : List Nat) (a k : Nat) (hk : p.length = k) (hv : k < v.length) (hva : v[k] = a) (hs : ∀ x, x ∈ s → x ≠ a) (hl : (p ++ (s ++ a :: t)).length ≤ 1000) (hvl : v.length ≤ 1000) (dv : D) (hdv : IsW dv v) :
    whileL (fun s => evT G W t_swaps_1 s) (fun s => exs G W [] b_swaps_2 s) W [x0, x1, some dv, some (.lst true ((p ++ (s ++ a :: t)).map dN)), x4, some (.int (k : Nat)), some (.int (k : Nat))] =
      .nx [x0, x1, some dv, some (.lst true ((p ++ (s ++ a :: t)).map dN)), x4, some (.int (k : Nat)), some (.int ((k + s.length : Nat) : Nat))] := by
  obtain ⟨s', e, hq⟩ := whileL_inv (c := fun s => evT G W t_swaps_1 s) (st := fun s => exs G W [] b_swaps_2 s)
    (I := fun m st => ∃ i, i ≤ s.length ∧ m = s.length - i ∧ st = [x0, x1, some dv, some (.lst true ((p ++ (s ++ a :: t)).map dN)), x4, some (.int (k : Nat)), some (.int ((k + i : Nat) : Nat))])
    (Q := fun st => st = [x0, x1, some dv, some (.lst true ((p ++ (s ++ a :: t)).map dN)), x4, some (.int (k : Nat)), some (.int ((k + s.length : Nat) : Nat))])
    (fun m st hi => by
      obtain ⟨i, hi, rfl, rfl⟩ := hi
      have hlen : (p ++ (s ++ a :: t)).length = k + s.length + (t.length + 1) := by simp [hk]; omega
      have hlt : k + i < (p ++ (s ++ a :: t)).length := by omega
      generalize hu : p ++ (s ++ a :: t) = u at hlt hlen hl
      by_cases h : i = s.length
      · left
        subst h
        have hg : u[k + s.length] = a := by
          subst hu; subst hk
          rw [List.getElem_append_right (by omega)]
          simp
        refine ⟨_, ?_, rfl⟩
        have hg' : u[k + s.length]? = some a := by rw [List.getElem?_eq_getElem hlt, hg]
        have e3 : atI (u.map dN) ((k : Int) + (s.length : Int)) = some (dN a) := by
          have := atI_natq (u.map dN) (k + s.length)
          rw [List.getElem?_map, hg'] at this
          simpa using this
        rcases hdv with rfl | rfl <;> simp -implicitDefEqProofs [t_swaps_1, hg', e3, hv, hva]
      · right
        have hlt2 : i < s.length := by omega
        have hg : u[k + i] = s[i] := by
          subst hu; subst hk
          rw [List.getElem_append_right (by omega)]
          simp [hlt2]
        have hne : s[i] ≠ a := hs _ (List.getElem_mem hlt2)
        have hne' : ¬ ((s[i] : Nat) : Int) = (a : Int) := by omega
        have hg' : u[k + i]? = some s[i] := by rw [List.getElem?_eq_getElem hlt, hg]
        have e3 : atI (u.map dN) ((k : Int) + (i : Int)) = some (dN s[i]) := by
          have := atI_natq (u.map dN) (k + i)
          rw [List.getElem?_map, hg'] at this
          simpa using this
        refine ⟨[x0, x1, some dv, some (.lst true (u.map dN)), x4, some (.int (k : Nat)), some (.int ((k + i : Nat) : Nat))], _, s.length - (i + 1), ?_, .inl ?_, ⟨i + 1, by omega, rfl, rfl⟩, by omega⟩
        · rcases hdv with rfl | rfl <;> simp -implicitDefEqProofs [t_swaps_1, hg', e3, hv, hva, hne']
        · simp -implicitDefEqProofs [b_swaps_2]
          omega)
    W s.length (s := [x0, x1, some dv, some (.lst true ((p ++ (s ++ a :: t)).map dN)), x4, some (.int (k : Nat)), some (.int (k : Nat))]) ⟨0, by omega, by omega, by simp⟩ (by simp at hl; omega)
  rw [e, hq]
theorem drop_last {s : List Nat} {m : Nat} (h : m < s.length) : s.take (m + 1) = s.take m ++ [s[m]] := by
  rw [List.take_succ, List.getElem?_eq_getElem h]; rfl
/-- the letter is brought to the front -/
theorem swaps_move {G : Env0A} {W : Nat} (hW : 1000000 ≤ W) (x0 x1 x2 : Option D) (p s t F : List Nat) (a k : Nat) (hk : p.length = k) (hl : (p ++ (s ++ a :: t)).length ≤ 1000) (hF : F.length + s.length ≤ 10000000) :
    whileL (fun s => evT G W t_swaps_3 s) (fun s => exs G W [] b_swaps_4 s) W [x0, x1, x2, some (.lst true ((p ++ (s ++ a :: t)).map dN)), some (.lst true (F.map dN)), some (.int (k : Nat)), some (.int ((k + s.length : Nat) : Nat))] =
      .nx [x0, x1, x2, some (.lst true ((p ++ a :: (s ++ t)).map dN)), some (.lst true ((F ++ downs k s.length).map dN)), some (.int (k : Nat)), some (.int (k : Nat))] := by
  obtain ⟨s', e, hq⟩ := whileL_inv (c := fun s => evT G W t_swaps_3 s) (st := fun s => exs G W [] b_swaps_4 s)
    (I := fun m st => ∃ E, m ≤ s.length ∧ E ++ downs k m = F ++ downs k s.length ∧ st = [x0, x1, x2, some (.lst true ((p ++ (s.take m ++ a :: (s.drop m ++ t))).map dN)), some (.lst true (E.map dN)), some (.int (k : Nat)), some (.int ((k + m : Nat) : Nat))])
    (Q := fun st => st = [x0, x1, x2, some (.lst true ((p ++ a :: (s ++ t)).map dN)), some (.lst true ((F ++ downs k s.length).map dN)), some (.int (k : Nat)), some (.int (k : Nat))])
    (fun m st hi => by
      obtain ⟨E, hm, hE, rfl⟩ := hi
      cases m with
      | zero =>
        left
        simp only [downs, List.append_nil] at hE
        subst hE
        refine ⟨_, ?_, rfl⟩
        simp -implicitDefEqProofs [t_swaps_3]
      | succ m =>
        right
        have hml : m < s.length := by omega
        have hd := drop_last hml
        have hdd : s.drop m = s[m] :: s.drop (m + 1) := List.drop_eq_getElem_cons hml
        have hu0 : p ++ (s.take (m + 1) ++ a :: (s.drop (m + 1) ++ t)) = (p ++ s.take m) ++ s[m] :: a :: (s.drop (m + 1) ++ t) := by rw [hd]; simp only [List.append_assoc, List.cons_append, List.nil_append]
        have hu1 : p ++ (s.take m ++ a :: (s.drop m ++ t)) = (p ++ s.take m) ++ a :: s[m] :: (s.drop (m + 1) ++ t) := by rw [hdd]; simp only [List.append_assoc, List.cons_append, List.nil_append]
        rw [hu0]
        have hql : (p ++ s.take m).length = k + m := by simp [hk]; omega
        have htl : (p ++ s.take m).length + 1 + (1 + (s.drop (m + 1) ++ t).length) ≤ 1000 := by
          simp at hl ⊢; omega
        have hsw := set_swap (p ++ s.take m) (s.drop (m + 1) ++ t) s[m] a
        have hEl : E.length ≤ 10000000 := by
          have := congrArg List.length hE
          simp only [List.length_append, downs_len] at this
          omega
        generalize hq : p ++ s.take m = q at *
        generalize hr : s.drop (m + 1) ++ t = r at *
        generalize hb : s[m] = b at *
        have g1 : (q ++ b :: a :: r)[k + m]? = some b := by rw [← hql]; simp
        have g2 : (q ++ b :: a :: r)[k + m + 1]? = some a := by rw [← hql, List.getElem?_append_right (by omega)]; simp
        have hlen : (q ++ b :: a :: r).length = k + m + (r.length + 2) := by simp [hql]
        rw [hql] at hsw
        generalize hw : q ++ b :: a :: r = w at *
        refine ⟨[x0, x1, x2, some (.lst true (w.map dN)), some (.lst true (E.map dN)), some (.int (k : Nat)), some (.int ((k + (m + 1) : Nat) : Nat))], _, m, ?_, .inl ?_, ⟨E ++ [k + m], by omega, by rw [← hE]; simp [downs], rfl⟩, by omega⟩
        · have h0 : (k : Int) < (k : Int) + ((m : Int) + 1) := by omega
          simp -implicitDefEqProofs [t_swaps_3, h0]
        · rw [hu1, ← hsw]
          have i1 : ((k : Int) + ((m : Int) + 1)) - 1 = ((k + m : Nat) : Int) := by omega
          have i2 : ((k : Int) + ((m : Int) + 1)) = ((k + m + 1 : Nat) : Int) := by omega
          have c1 : k + m < w.length := by omega
          have c2 : k + m + 1 < w.length := by omega
          have hmp : (E ++ [k + m]).map dN = E.map dN ++ [D.int ((k + m : Nat) : Int)] := by simp
          have hz : E.length < 16777216 := by omega
          have a1 : atI (w.map dN) ((k : Int) + (m : Int)) = some (dN b) := by
            have := atI_natq (w.map dN) (k + m)
            rw [List.getElem?_map, g1] at this
            simpa using this
          have a2 : atI (w.map dN) ((k : Int) + (m : Int) + 1) = some (dN a) := by
            have := atI_natq (w.map dN) (k + m + 1)
            rw [List.getElem?_map, g2] at this
            simpa using this
          have n1 : ixN w.length ((k : Int) + (m : Int)) = some (k + m) := by
            have := ixN_natq w.length (k + m)
            rw [if_pos c1] at this
            simpa using this
          have n2 : ixN w.length ((k : Int) + (m : Int) + 1) = some (k + m + 1) := by
            have := ixN_natq w.length (k + m + 1)
            rw [if_pos c2] at this
            simpa using this
          have j1 : (k : Int) + ((m : Int) + 1) = (k : Int) + (m : Int) + 1 := by omega
          have j2 : (k : Int) + (m : Int) + 1 - 1 = (k : Int) + (m : Int) := by omega
          rw [hmp]
          simp -implicitDefEqProofs [b_swaps_4, stI, nxt, j1, j2, a1, a2, n1, n2, hz, List.map_set])
    W s.length (s := [x0, x1, x2, some (.lst true ((p ++ (s ++ a :: t)).map dN)), some (.lst true (F.map dN)), some (.int (k : Nat)), some (.int ((k + s.length : Nat) : Nat))]) ⟨F, by omega, rfl, by simp⟩ (by simp at hl; omega)
  rw [e, hq]
/-! Abm36: swaps -/
def SwapsOk (g : Callee) : Prop := ∀ (C : Nat) (L : List (List Nat)) (w v : List Nat), Alph C L → WIn L w → WIn L v →
  g [Al C L, .tup (w.map dN), .tup (v.map dN)] = .ok (if alk C L w v then .lst true ((sqs 0 w v).map dN) else .non) []
def I_sqs (C : Nat) (L : List (List Nat)) (w v : List Nat) (k : Nat) (s : SA) : Prop := ∃ (r F : List Nat) (x5 x6 : Option D),
  s = [some (Al C L), some (.tup (w.map dN)), some (.tup (v.map dN)), some (.lst true ((v.take k ++ r).map dN)), some (.lst true (F.map dN)), x5, x6] ∧ WIn L r ∧ Alk L r (v.drop k) ∧ F ++ sqs k r (v.drop k) = sqs 0 w v ∧ (v.take k ++ r).length = w.length
theorem swaps_ok {G : Env0A} {W : Nat} (hE : Has G 13 EqvOk) (hW : 1000000 ≤ W) : SwapsOk (runF G W f_swaps) := by
  intro C L w v hA hw hv
  obtain ⟨gE, hgE, hE⟩ := hE
  have e1 := hE C L w v hA hw hv
  cases hk : alk C L w v
  · rw [hk] at e1
    simp at e1
    simp -implicitDefEqProofs [runF, f_swaps_eq, g_swaps, hgE, e1]
  · rw [hk] at e1
    have hwl := hw.1
    have hvl := hv.1
    have hak : Alk L w v := (alk_Alk hA hw.2 hv.2).mp hk
    obtain ⟨s', e, r, F, x5, x6, rfl, hr, hk', hF, hlen⟩ := for_ok (st := fun s => exs G W [] b_swaps_5 s) (g := .name 5) dN (List.range v.length) (I_sqs C L w v)
      (s := [some (Al C L), some (.tup (w.map dN)), some (.tup (v.map dN)), some (.lst true (w.map dN)), some (.lst true []), none, none]) ⟨w, [], none, none, rfl, hw, hak, rfl, by simp⟩ fun k hk s hs => by
        obtain ⟨r, F, x5, x6, rfl, hr, hak, hF, hlen⟩ := hs
        have hk : k < v.length := by simpa using hk
        have hd : v.drop k = v[k] :: v.drop (k + 1) := List.drop_eq_getElem_cons hk
        rw [hd] at hak hF
        obtain ⟨s, t, rfl, hf, hs, he, hk2⟩ := alk_front hA hr.2 (fun x hx => hv.2 x (by rw [← hd] at hx; exact List.mem_of_mem_drop hx)) hak
        have hpk : (v.take k).length = k := by simp; omega
        have hl0 : (v.take k ++ (s ++ v[k] :: t)).length ≤ 1000 := by rw [hlen]; exact hwl
        have hFl : F.length + s.length ≤ 10000000 := by
          have h1 := congrArg List.length hF
          have h2 := sqs_len 1000 v w 0 (by omega)
          have h3 : v.length * 1000 ≤ 1000 * 1000 := Nat.mul_le_mul hvl (Nat.le_refl _)
          rw [List.length_append] at h1
          simp at hl0
          omega
        have e2 := swaps_find (G := G) (W := W) hW (some (Al C L)) (some (.tup (w.map dN))) (some (.lst true (F.map dN))) (v.take k) s t v v[k] k hpk hk rfl (fun x hx => (hs x hx).1) hl0 hvl (.tup (v.map dN)) (.inl rfl)
        have e3 := swaps_move (G := G) (W := W) hW (some (Al C L)) (some (.tup (w.map dN))) (some (.tup (v.map dN))) (v.take k) s t F v[k] k hpk hl0 hFl
        have hkr : (List.range v.length)[k]? = some k := by simp [hk]
        have hnow : v.take k ++ v[k] :: (s ++ t) = v.take (k + 1) ++ (s ++ t) := by
          rw [drop_last hk]; simp only [List.append_assoc, List.cons_append, List.nil_append]
        have hP : I_sqs C L w v (k + 1) [some (Al C L), some (.tup (w.map dN)), some (.tup (v.map dN)), some (.lst true ((v.take k ++ v[k] :: (s ++ t)).map dN)), some (.lst true ((F ++ downs k s.length).map dN)), some (.int (k : Nat)), some (.int (k : Nat))] := by
          refine ⟨s ++ t, F ++ downs k s.length, _, _, by rw [hnow], ⟨?_, fun x hx => hr.2 x ?_⟩, hk2, ?_, ?_⟩
          · have := hr.1
            simp at this ⊢; omega
          · simp only [List.mem_append, List.mem_cons] at hx ⊢
            rcases hx with hx | hx
            · exact .inl hx
            · exact .inr (.inr hx)
          · rw [← hF, sqs, he, hf, List.append_assoc]
          · rw [← hlen, ← hnow]; simp; omega
        revert hP
        generalize I_sqs C L w v (k + 1) = P
        generalize v.take k ++ v[k] :: (s ++ t) = u1 at *
        generalize v.take k ++ (s ++ v[k] :: t) = u0 at *
        generalize F ++ downs k s.length = F1 at *
        intro hP
        simp at e2 e3 hP
        simp -implicitDefEqProofs [b_swaps_5, e2, e3]
        exact hP
    have hz : v.drop v.length = [] := List.drop_length
    rw [List.length_range, hz] at hF
    simp only [sqs, List.append_nil] at hF
    subst hF
    simp at e e1
    have hwl' : w.length ≤ 16777216 := by omega
    have hvl' : v.length ≤ 16777216 := by omega
    have hvr : v.length < 1000000 := by omega
    simp -implicitDefEqProofs [runF, f_swaps_eq, g_swaps, hgE, e1, e, hwl', hvl', hvr]
/-! is_least -/
theorem and_not : ∀ (n a b : Nat), a ≤ n → ∃ c, c + (a &&& b) = a ∧ ∀ i, c.testBit i = (a.testBit i && !b.testBit i)
  | 0, a, b, h => by
    have : a = 0 := by omega
    subst this
    exact ⟨0, by simp, fun i => by simp⟩
  | n + 1, a, b, h => by
    by_cases h0 : a = 0
    · subst h0
      exact ⟨0, by simp, fun i => by simp⟩
    · obtain ⟨c, h1, h2⟩ := and_not n (a / 2) (b / 2) (by omega)
      have e1 : (a &&& b) / 2 = a / 2 &&& b / 2 := Nat.and_div_two
      have e2 : (a &&& b) % 2 = 1 ↔ a % 2 = 1 ∧ b % 2 = 1 := Nat.and_mod_two_eq_one
      refine ⟨2 * c + (if a % 2 = 1 ∧ b % 2 = 0 then 1 else 0), ?_, fun i => ?_⟩
      · generalize hx : a &&& b = x at *
        split <;> omega
      · cases i with
        | zero =>
          rw [Nat.testBit_zero, Nat.testBit_zero, Nat.testBit_zero]
          by_cases ha : a % 2 = 1 <;> by_cases hb : b % 2 = 1
          · rw [if_neg (by omega)]; simp [ha, hb]
          · rw [if_pos ⟨ha, by omega⟩]
            have : (2 * c + 1) % 2 = 1 := by omega
            simp [ha, hb, this]
          · rw [if_neg (by omega)]; simp [ha, hb]
          · rw [if_neg (by omega)]; simp [ha, hb]
        | succ i =>
          rw [Nat.testBit_succ, Nat.testBit_succ, Nat.testBit_succ, ← h2 i]
          congr 1
          split <;> omega
theorem bitAndNot (a b : Nat) : ∃ c : Nat, Builtin.bitAnd (a : Int) (Builtin.bitNot (b : Int)) = (c : Int) ∧ ∀ i, c.testBit i = (a.testBit i && !b.testBit i) := by
  obtain ⟨c, h1, h2⟩ := and_not a a b (Nat.le_refl _)
  refine ⟨c, ?_, h2⟩
  have e1 : decide (0 ≤ (a : Int)) = true := by simp
  have e2 : decide (0 ≤ Builtin.bitNot (b : Int)) = false := by simp only [Builtin.bitNot]; simp; omega
  rw [Builtin.bitAnd, e1, e2]
  simp only [bitNot_bitNot, Int.toNat_natCast]
  omega
def islF (L : List (List Nat)) : (Nat → Bool) → List Nat → Bool
  | _, [] => true
  | f, a :: w => !f a && islF L (fun b => (f b || decide (b < a)) && !dl L a b) w
def isl (L : List (List Nat)) (w : List Nat) : Bool := islF L (fun _ => false) w
def NbOk (g : Callee) : Prop := ∀ (L : List (List Nat)) (B a : Nat), L.length ≤ 6 → a < L.length → ∃ B' : Nat, g [.lst false ((mks L).map dN), .int B, .int a] = .ok (.int B') [] ∧ ∀ b, b < L.length → B'.testBit b = ((B.testBit b || decide (b < a)) && !dl L a b)
theorem nb_ok {G : Env0A} {W : Nat} : NbOk (runF G W f_next_barred) := by
  intro L B a hLl ha
  have hm : (mks L)[a]? = some (msk L a L.length) := by simp [mks, ha]
  have hml : a < (mks L).length := by simp [mks, ha]
  obtain ⟨c, h1, h2⟩ := bitAndNot (B ||| (2 ^ a - 1)) (msk L a L.length)
  refine ⟨c, ?_, fun b hb => ?_⟩
  · have e0 : ((2 ^ a - 1 : Nat) : Int) = (2 : Int) ^ a - 1 := by
      have : 1 ≤ 2 ^ a := Nat.one_le_two_pow
      rw [Int.ofNat_sub this]; simp
    have e1 : Builtin.bitOr (B : Int) ((2 : Int) ^ a - 1) = ((B ||| (2 ^ a - 1) : Nat) : Int) := by rw [← e0]; exact bitOr_nat _ _
    have e3 : (mks L)[a] = msk L a L.length := by
      rw [List.getElem?_eq_getElem hml] at hm; exact Option.some.inj hm
    have ha' : (a : Int) ≤ 1000000 := by omega
    simp -implicitDefEqProofs [runF, f_next_barred_eq, g_next_barred, ha', hm, e1, h1, hml, e3]
  · rw [h2, Nat.testBit_or, Nat.testBit_two_pow_sub_one, msk_bit]
    simp [hb]
/-! Abm37: is_least -/
theorem isl_loop {G : Env0A} {W : Nat} (hN : Has G 31 NbOk) {L : List (List Nat)} (hL : L.length ≤ 6) (x0 x1 : Option D) : ∀ (w : List Nat) (B : Nat) (f : Nat → Bool) (m : Bool) (x4 : Option D), (∀ a, a ∈ w → a < L.length) → (∀ b, b < L.length → B.testBit b = f b) →
    (islF L f w = true ∧ ∃ s', forL (fun s => exs G W [] b_is_least_1 s) (.name 4) (w.map dN) [x0, x1, some (.lst m ((mks L).map dN)), some (.int B), x4] = .nx s') ∨
    (islF L f w = false ∧ ∃ s', forL (fun s => exs G W [] b_is_least_1 s) (.name 4) (w.map dN) [x0, x1, some (.lst m ((mks L).map dN)), some (.int B), x4] = .rt (.bl false) s')
  | [], B, f, m, x4, _, _ => .inl ⟨rfl, _, rfl⟩
  | a :: w, B, f, m, x4, hw, hB => by
    have hN' := hN
    obtain ⟨g, hg, hN⟩ := hN
    have ha := hw a (by simp)
    have hb := band_bit B a
    rw [hB a ha] at hb
    cases hf : f a
    · rw [hf, if_neg (by decide)] at hb
      obtain ⟨B', e1, e2⟩ := hN L B a hL ha
      have hstep : exs G W [] b_is_least_1 [x0, x1, some (.lst m ((mks L).map dN)), some (.int B), some (.int (a : Nat))] = .nx [x0, x1, some (.lst false ((mks L).map dN)), some (.int B'), some (.int (a : Nat))] := by
        cases m <;> simp -implicitDefEqProofs [b_is_least_1, hg, e1, hb]
      have ih := isl_loop hN' (G := G) (W := W) hL x0 x1 w B' (fun b => (f b || decide (b < a)) && !dl L a b) false (some (.int (a : Nat))) (fun b hb => hw b (by simp [hb])) fun b hb => by rw [e2 b hb, hB b hb]
      have hres : islF L f (a :: w) = islF L (fun b => (f b || decide (b < a)) && !dl L a b) w := by rw [islF, hf]; rfl
      rw [hres]
      simp only [List.map_cons, forL, asgG_name, dN_ap, List.set_cons_succ, List.set_cons_zero, hstep]
      exact ih
    · rw [hf, if_pos rfl] at hb
      right
      refine ⟨by rw [islF, hf]; rfl, [x0, x1, some (.lst m ((mks L).map dN)), some (.int B), some (.int (a : Nat))], ?_⟩
      have hstep : exs G W [] b_is_least_1 [x0, x1, some (.lst m ((mks L).map dN)), some (.int B), some (.int (a : Nat))] = .rt (.bl false) [x0, x1, some (.lst m ((mks L).map dN)), some (.int B), some (.int (a : Nat))] := by
        simp -implicitDefEqProofs [b_is_least_1, hb]
      simp only [List.map_cons, forL, asgG_name, dN_ap, List.set_cons_succ, List.set_cons_zero, hstep]
def IsLeastOk (g : Callee) : Prop := ∀ (C : Nat) (L : List (List Nat)) (w : List Nat) (dw : D), Alph C L → IsW dw w → WIn L w → g [Al C L, dw] = .ok (.bl (isl L w)) []
theorem isLeast_ok {G : Env0A} {W : Nat} (hM : Has G 24 MasksOk) (hN : Has G 31 NbOk) : IsLeastOk (runF G W f_is_least) := by
  intro C L w dw hA hd hw
  obtain ⟨gM, hgM, hM⟩ := hM
  have e1 := hM C L hA
  rcases isl_loop (G := G) (W := W) hN hA.l6 (some (Al C L)) (some dw) w 0 (fun _ => false) true none hw.2 (fun b hb => by simp) with ⟨h1, s', e⟩ | ⟨h1, s', e⟩
  · simp at e e1
    rw [isl, h1]
    rcases hd with rfl | rfl <;> simp -implicitDefEqProofs [runF, f_is_least_eq, g_is_least, hgM, e1, e]
  · simp at e e1
    rw [isl, h1]
    rcases hd with rfl | rfl <;> simp -implicitDefEqProofs [runF, f_is_least_eq, g_is_least, hgM, e1, e]
/-! a word is least if no letter could come before a greater one -/
theorem firsts_cons {L : List (List Nat)} {a : Nat} {w : List Nat} {k : Nat} : k + 1 ∈ firsts L (a :: w) ↔ k ∈ firsts L w ∧ dl L a (w.getD k 0) = false := by
  rw [mem_firsts, mem_firsts, canF_iff, canF_iff]
  constructor
  · rintro ⟨h1, h2⟩
    have h0 := h2 0 (by omega)
    refine ⟨⟨by simpa using h1, fun j hj => ?_⟩, by simpa [de] using h0⟩
    have := h2 (j + 1) (by omega)
    simpa [de] using this
  · rintro ⟨⟨h1, h2⟩, h3⟩
    refine ⟨by simpa using h1, fun j hj => ?_⟩
    cases j with
    | zero => simpa [de] using h3
    | succ j =>
      have := h2 j (by omega)
      simpa [de] using this
theorem lf_cons_iff {C : Nat} {L : List (List Nat)} (hA : Alph C L) {a : Nat} {w : List Nat} (hv : VL C L (a :: w)) : lf L (a :: w) = a :: w ↔ (∀ k, k ∈ firsts L w → dl L a (w.getD k 0) = false → a ≤ w.getD k 0) ∧ lf L w = w := by
  obtain ⟨b, h1, h2, h3, h4⟩ := bst_firsts (L := L) (w := a :: w) (by simp)
  have ha : a < L.length := hv a (by simp)
  have b0 : (a :: w)[b] = a → b = 0 := fun e => by
    cases b with
    | zero => rfl
    | succ b =>
      have := canF_iff.mp h3 0 (by omega)
      simp only [de, List.getD_cons_zero, List.getD_cons_succ] at this
      have hb : b < w.length := by simpa using h2
      simp only [List.getElem_cons_succ] at e
      rw [List.getD_eq_getElem?_getD, List.getElem?_eq_getElem hb, Option.getD_some, e, dl_refl hA ha] at this
      cases this
  have e := lf_step h1 h2
  constructor
  · intro h
    rw [e] at h
    injection h with h5 h6
    have hb := b0 h5
    subst hb
    refine ⟨fun k hk hd => ?_, by simpa using h6⟩
    have := h4 (k + 1) (firsts_cons.mpr ⟨hk, hd⟩)
    simpa using this
  · rintro ⟨h5, h6⟩
    have hle : (a :: w).getD b 0 ≤ a := by
      have := h4 0 (firsts_ne (by simp))
      simpa using this
    have hb : b = 0 := by
      cases b with
      | zero => rfl
      | succ b =>
        have hb : b < w.length := by simpa using h2
        have hm := firsts_cons.mp (mem_firsts.mpr ⟨h2, h3⟩)
        have := h5 b hm.1 hm.2
        simp only [List.getD_cons_succ] at hle
        have e1 : w.getD b 0 = a := by omega
        refine b0 ?_
        simp only [List.getElem_cons_succ]
        rw [List.getD_eq_getElem?_getD, List.getElem?_eq_getElem hb] at e1
        exact e1
    subst hb
    rw [e]
    simp [h6]
theorem islF_iff {C : Nat} {L : List (List Nat)} (hA : Alph C L) : ∀ (w : List Nat) (f : Nat → Bool), VL C L w → (islF L f w = true ↔ (∀ k, k ∈ firsts L w → f (w.getD k 0) = false) ∧ lf L w = w)
  | [], f, _ => by simp [islF, firsts, lf, lfN]
  | a :: w, f, hv => by
    have hv' : VL C L w := fun x hx => hv x (by simp [hx])
    rw [islF, Bool.and_eq_true, islF_iff hA w _ hv', lf_cons_iff hA hv]
    constructor
    · rintro ⟨h1, h2, h3⟩
      refine ⟨fun k hk => ?_, fun k hk hd => ?_, h3⟩
      · cases k with
        | zero => simpa using h1
        | succ k =>
          obtain ⟨hk, hd⟩ := firsts_cons.mp hk
          have := h2 k hk
          rw [hd] at this
          simp at this
          simpa using this.1
      · have := h2 k hk
        rw [hd] at this
        simp at this
        simpa using this.2
    · rintro ⟨h1, h2, h3⟩
      refine ⟨by simpa using h1 0 (firsts_ne (by simp)), fun k hk => ?_, h3⟩
      cases hd : dl L a (w.getD k 0)
      · have h4 := h1 (k + 1) (firsts_cons.mpr ⟨hk, hd⟩)
        have h5 := h2 k hk hd
        simp only [List.getD_cons_succ] at h4
        rw [h4]
        simp
        simpa using h5
      · simp
theorem isl_iff {C : Nat} {L : List (List Nat)} (hA : Alph C L) {w : List Nat} (hv : VL C L w) : isl L w = true ↔ lf L w = w := by
  rw [isl, islF_iff hA w _ hv]
  exact ⟨fun h => h.2, fun h => ⟨fun _ _ => rfl, h⟩⟩
/-! Abm16: the law of k04 -/
theorem srt_mem {l : List Nat} {x : Nat} : x ∈ srt l ↔ x ∈ l := (List.mergeSort_perm l _).mem_iff
theorem srt_asc {l : List Nat} (h : l.Nodup) : (srt l).Pairwise (· < ·) := by
  have h1 : (srt l).Perm l := List.mergeSort_perm _ _
  have h2 : (srt l).Pairwise (fun a b => decide (a ≤ b) = true) := List.pairwise_mergeSort (by intro a b c; simp; omega) (by intro a b; simp; omega) _
  have h3 : (srt l).Nodup := h1.nodup_iff.mpr h
  refine (List.Pairwise.and h2 h3).imp ?_
  intro a b hab
  have h4 := hab.1; have h5 := hab.2
  simp at h4
  omega
theorem ssetN_id {l : List Nat} (h : l.Pairwise (· < ·)) : ssetN l = l := asc_eq (ssetN_asc l) h fun x => mem_ssetN
@[local simp] theorem sset_tdN (l : List Nat) (h : l.length < 64) : bi1 .sset (.tup (l.map dN)) = some (.lst true ((ssetN l).map dN)) := by
  simp only [sset_tup, intsOf_dN, Option.bind_some, List.length_map, h, if_true, sset_cast, map_cast]
/-- what the law asks of a list of layers -/
structure Rows (L : List (List Nat)) (w : List Nat) (R : List (List Nat)) : Prop where
  ne : ∀ k (h : k < R.length), R[k] ≠ []
  asc : ∀ k (h : k < R.length), R[k].Pairwise (· < ·)
  lt : ∀ r, r ∈ R → ∀ a, a ∈ r → a < L.length
  ind : ∀ k (h : k < R.length) a b, a ∈ R[k] → b ∈ R[k] → a ≠ b → dl L a b = false
  chain : ∀ k (h : k + 1 < R.length) b, b ∈ R[k + 1] → ∃ c, c ∈ R[k] ∧ dl L b c = true
  plc : ∀ p, plw L R.flatten p = plw L w p
  len : R.flatten.length = w.length
theorem filt_one {l : List Nat} {q : Nat → Bool} (hn : l.Nodup) (h1 : ∀ a b, a ∈ l → b ∈ l → q a = true → q b = true → a = b) : (srt l).filter q = l.filter q := by
  have hp : ((srt l).filter q).Perm (l.filter q) := (List.mergeSort_perm l _).filter q
  have hlen : (l.filter q).length ≤ 1 := by
    have hn2 : (l.filter q).Nodup := hn.filter q
    have hm : ∀ a, a ∈ l.filter q → ∀ b, b ∈ l.filter q → a = b := fun a ha b hb => h1 a b (List.mem_filter.mp ha).1 (List.mem_filter.mp hb).1 (List.mem_filter.mp ha).2 (List.mem_filter.mp hb).2
    generalize l.filter q = t at hn2 hm
    match t, hn2, hm with
    | [], _, _ => simp
    | [x], _, _ => simp
    | x :: y :: t, hn2, hm =>
      have := hm x (by simp) y (by simp)
      subst this
      simp at hn2
  have hl := hp.length_eq
  generalize (srt l).filter q = s at hp hl
  generalize l.filter q = t at hp hl hlen
  match s, t, hp, hl, hlen with
  | [], [], _, _, _ => rfl
  | [x], [y], hp, _, _ => rw [List.perm_singleton.mp hp]
  | [], _ :: _, _, hl, _ => simp at hl
  | _ :: _, [], _, hl, _ => simp at hl
  | _ :: _ :: _, [_], _, hl, _ => simp at hl
  | _, _ :: _ :: _, _, _, hlen => simp at hlen
theorem lay_rows {C : Nat} {L : List (List Nat)} (hA : Alph C L) {w : List Nat} (hw : ∀ a, a ∈ w → a < L.length) : Rows L w (lay L w) := by
  have h := lrun_inv hA hw
  have hp := lrun_perm L w
  simp only [lay]
  generalize hst : lrun L w = st at h hp
  have hg : ∀ k (hk : k < st.1.length), st.1.getD k [] = st.1[k] := fun k hk => by simp [hk]
  refine ⟨?_, ?_, ?_, ?_, ?_, ?_, ?_⟩
  · intro k hk
    simp at hk
    have := h.ne k hk
    rw [hg k hk] at this
    simp only [List.getElem_map]
    intro e
    have h2 : (srt st.1[k]).length = 0 := by rw [e]; rfl
    have h3 : (srt st.1[k]).length = st.1[k].length := (List.mergeSort_perm _ _).length_eq
    rw [h3] at h2
    exact this (List.length_eq_zero_iff.mp h2)
  · intro k hk
    simp at hk
    have := h.nod k
    rw [hg k hk] at this
    simp only [List.getElem_map]
    exact srt_asc this
  · intro r hr a ha
    obtain ⟨r', hr', rfl⟩ := List.mem_map.mp hr
    obtain ⟨k, hk, e⟩ := mem_getD hr'
    exact h.lt k a (by rw [e]; exact srt_mem.mp ha)
  · intro k hk a b ha hb
    simp at hk
    simp only [List.getElem_map, srt_mem] at ha hb
    exact h.ind k a b (by rw [hg k hk]; exact ha) (by rw [hg k hk]; exact hb)
  · intro k hk b hb
    simp at hk
    simp only [List.getElem_map, srt_mem] at hb ⊢
    obtain ⟨c, h1, h2⟩ := h.chain k b (by rw [hg _ hk]; exact hb)
    rw [hg k (by omega)] at h1
    exact ⟨c, h1, h2⟩
  · intro p
    rw [← h.plc p]
    simp only [plw, List.filter_flatten, List.map_map]
    congr 1
    apply List.map_congr_left
    intro r hr
    obtain ⟨k, hk, e⟩ := mem_getD hr
    simp only [Function.comp]
    refine filt_one (by rw [← e]; exact h.nod k) ?_
    intro a b ha hb hpa hpb
    refine Classical.byContradiction fun hne => ?_
    have := h.ind k a b (by rw [e]; exact ha) (by rw [e]; exact hb) hne
    rw [dl_of (p := p) (by simpa using hpa) (by simpa using hpb)] at this
    exact absurd this (by decide)
  · rw [← hp.length_eq, List.length_flatten, List.length_flatten, List.map_map]
    congr 1
    apply List.map_congr_left
    intro r _
    exact (List.mergeSort_perm r _).length_eq
theorem law04_in {G : Env0A} {W : Nat} (hF : Has G 8 FreeOk) {C : Nat} {L : List (List Nat)} {w : List Nat} {R : List (List Nat)} (hA : Alph C L) (hR : Rows L w R) (hwl : w.length ≤ 1000) (k : Nat) (hk : k < R.length) (x0 x1 x2 x4 x5 x7 x10 : Option D) :
    ∃ y10, forL (fun s => exs G W [] b_law_k04_5 s) (.name 10) (R[k].map dN) [x0, x1, x2, some (.lst false (L.map tN)), x4, x5, some (.lst false (R.map tN)), x7, some (.int (k : Nat)), some (.tup (R[k].map dN)), x10, none] =
      .nx [x0, x1, x2, some (.lst false (L.map tN)), x4, x5, some (.lst false (R.map tN)), x7, some (.int (k : Nat)), some (.tup (R[k].map dN)), y10, none] := by
  obtain ⟨g, hg, hF⟩ := hF
  have hrl : ∀ j (hj : j < R.length), R[j].length ≤ 16777216 := fun j hj => by
    have := mem_flat_len (List.getElem_mem hj)
    have := hR.len
    omega
  obtain ⟨s', e, y10, hs⟩ := for_ok (st := fun s => exs G W [] b_law_k04_5 s) (g := .name 10) dN R[k]
    (fun _ s => ∃ y10, s = [x0, x1, x2, some (.lst false (L.map tN)), x4, x5, some (.lst false (R.map tN)), x7, some (.int (k : Nat)), some (.tup (R[k].map dN)), y10, none])
    (s := [x0, x1, x2, some (.lst false (L.map tN)), x4, x5, some (.lst false (R.map tN)), x7, some (.int (k : Nat)), some (.tup (R[k].map dN)), x10, none]) ⟨x10, rfl⟩ fun n hn s hs => by
      obtain ⟨y10, rfl⟩ := hs
      have ha := hR.lt _ (List.getElem_mem hk) _ (List.getElem_mem hn)
      have hc1 := compL_map (f := fun s => (evTo G W t_law_k04_2 s).noRz) (g := fun s => (ev G W false e_law_k04_1 s).noRz) (own := 11)
        (s := [x0, x1, x2, some (.lst false (L.map tN)), x4, x5, some (.lst false (R.map tN)), x7, some (.int (k : Nat)), some (.tup (R[k].map dN)), some (dN R[k][n]), none]) rfl dN (fun o => !decide (o = R[k][n]) && dl L R[k][n] o) dN R[k] fun o ho => by
          have ho := hR.lt _ (List.getElem_mem hk) o ho
          have hF := hF C L R[k][n] o hA ha ho
          generalize R[k][n] = one at hF ha
          by_cases e1 : o = one
          · subst e1
            simp -implicitDefEqProofs [t_law_k04_2, e_law_k04_1]
          · have e1' : ¬ ((o : Int) = (one : Int)) := by omega
            cases hd : dl L one o <;> rw [hd] at hF <;> simp at hF <;> simp -implicitDefEqProofs [t_law_k04_2, e_law_k04_1, hg, hF, e1, e1']
      rw [filt_nil (q := fun o => !decide (o = R[k][n]) && dl L R[k][n] o) (fun o ho => by
        by_cases e1 : o = R[k][n]
        · simp [e1]
        · have := hR.ind k hk R[k][n] o (List.getElem_mem hn) ho (fun h => e1 h.symm)
          simp [this])] at hc1
      have hz := hrl k hk
      cases k with
      | zero =>
        simp at hc1
        simp -implicitDefEqProofs [b_law_k04_5, hz, hc1]
      | succ j =>
        simp at hc1
        have hjl : j < R.length := by omega
        have hz2 := hrl j hjl
        have hc2 := compL_map (f := fun s => (evTo G W t_law_k04_4 s).noRz) (g := fun s => (ev G W false e_law_k04_3 s).noRz) (own := 11)
          (s := [x0, x1, x2, some (.lst false (L.map tN)), x4, x5, some (.lst false (R.map tN)), x7, some (.int ((j + 1 : Nat) : Int)), some (.tup (R[j + 1].map dN)), some (dN R[j + 1][n]), none]) rfl dN (fun o => dl L R[j + 1][n] o) dN R[j] fun o ho => by
            have ho := hR.lt _ (List.getElem_mem hjl) o ho
            have hF := hF C L R[j + 1][n] o hA ha ho
            generalize R[j + 1][n] = one at hF ha
            cases hd : dl L one o <;> rw [hd] at hF <;> simp at hF <;> simp -implicitDefEqProofs [t_law_k04_4, e_law_k04_3, hg, hF]
        have hne : R[j].filter (fun o => dl L R[j + 1][n] o) ≠ [] := by
          obtain ⟨c, h1, h2⟩ := hR.chain j hk R[j + 1][n] (List.getElem_mem hn)
          intro e
          rw [List.filter_eq_nil_iff] at e
          exact e c h1 h2
        have hpos : (0 : Int) < (j : Int) + 1 := by omega
        generalize R[j].filter (fun o => dl L R[j + 1][n] o) = t at hc2 hne
        have htl : ¬ ((t.length : Int) = 0) := by have := List.length_pos_iff.mpr hne; omega
        simp at hc2
        simp -implicitDefEqProofs [b_law_k04_5, hz, hz2, hc1, hc2, hjl, hpos, hne, htl]
  exact ⟨y10, by rw [e, hs]⟩
theorem law04_out {G : Env0A} {W : Nat} (hF : Has G 8 FreeOk) {C : Nat} {L : List (List Nat)} {w : List Nat} {R : List (List Nat)} (hA : Alph C L) (hR : Rows L w R) (hwl : w.length ≤ 20) (x0 x1 x2 x4 x5 x8 x9 x10 : Option D) :
    ∃ y8 y9 y10, forL (fun s => exs G W [] b_law_k04_6 s) (.name 8) ((List.range R.length).map dN) [x0, x1, x2, some (.lst false (L.map tN)), x4, x5, some (.lst false (R.map tN)), some (.tup []), x8, x9, x10, none] =
      .nx [x0, x1, x2, some (.lst false (L.map tN)), x4, x5, some (.lst false (R.map tN)), some (.tup (R.flatten.map dN)), y8, y9, y10, none] := by
  obtain ⟨s', e, y8, y9, y10, hs⟩ := for_ok (st := fun s => exs G W [] b_law_k04_6 s) (g := .name 8) dN (List.range R.length)
    (fun k s => ∃ y8 y9 y10, s = [x0, x1, x2, some (.lst false (L.map tN)), x4, x5, some (.lst false (R.map tN)), some (.tup ((R.take k).flatten.map dN)), y8, y9, y10, none])
    (s := [x0, x1, x2, some (.lst false (L.map tN)), x4, x5, some (.lst false (R.map tN)), some (.tup []), x8, x9, x10, none]) ⟨x8, x9, x10, rfl⟩ fun k hk s hs => by
      obtain ⟨y8, y9, y10, rfl⟩ := hs
      simp at hk
      obtain ⟨z10, e⟩ := law04_in (G := G) (W := W) hF hA hR (by omega) k hk x0 x1 x2 x4 x5 (some (.tup ((R.take k).flatten.map dN))) y10
      have ht : (R.take (k + 1)).flatten = (R.take k).flatten ++ R[k] := by
        rw [List.take_succ_eq_append_getElem hk, List.flatten_append]
        simp only [List.flatten_cons, List.flatten_nil, List.append_nil]
      have hl1 : (R.take k).flatten.length + R[k].length ≤ 16777216 := by
        have h1 : (R.take (k + 1)).flatten.length + (R.drop (k + 1)).flatten.length = R.flatten.length := by
          rw [← List.length_append, ← List.flatten_append, List.take_append_drop]
        rw [ht, List.length_append] at h1
        have := hR.len
        omega
      have hl2 : R[k].length < 64 := by
        have := mem_flat_len (List.getElem_mem hk)
        have := hR.len
        omega
      have hne := hR.ne k hk
      have hne2 : ¬ ((R[k].length : Int) = 0) := by have := List.length_pos_iff.mpr hne; omega
      have hid := ssetN_id (hR.asc k hk)
      rw [ht]
      generalize (R.take k).flatten = pre at e hl1 ⊢
      simp -implicitDefEqProofs [b_law_k04_6, hk, e, hl1, hl2, hne, hne2, hid]
  refine ⟨y8, y9, y10, ?_⟩
  rw [e, hs]; simp
theorem tail04 {G : Env0A} {W : Nat} (hF : Has G 8 FreeOk) (hAW : Has G 27 AllWordsOk) (hAk : Has G 20 LAlikeOk) (hLy : Has G 25 LayersOk) (hSh : Has G 16 ShufOk) {C : Nat} {L : List (List Nat)} {w : List Nat} (hA : Alph C L) (hw : WIn L w) (hwl : w.length ≤ 20) (xs : List Int) (x0 : Option D) :
    ∃ s', exs G W [] c_law_k04_1 [x0, some (.lst true (xs.map .int)), some (.int C), some (.lst false (L.map tN)), some (.ins false 0 [.int C, .tup (L.map tN)]), some (.tup (w.map dN)), some (.lst true ((lay L w).map tN)), none, none, none, none, none] = .rt (.bl true) s' := by
  obtain ⟨gA, hgA, hAW⟩ := hAW
  obtain ⟨gK, hgK, hAk⟩ := hAk
  obtain ⟨gL, hgL, hLy⟩ := hLy
  obtain ⟨gS, hgS, hSh⟩ := hSh
  have hR := lay_rows hA hw.2
  obtain ⟨v, ys, e1, hv⟩ := hSh C L w 15 xs hA hw (by decide)
  have hvw := hv.win hw
  have e2 := hLy C L v (.lst false (v.map dN)) hA (.inr rfl) hvw
  rw [lay_sw hA hw hv] at e2
  have e3 := hAW (lay L w) L.length hR.lt
  have hfl : WIn L (lay L w).flatten := ⟨by have := hR.len; omega, fun a ha => by
    obtain ⟨r, hr, har⟩ := List.mem_flatten.mp ha
    exact hR.lt r hr a har⟩
  have e4 := hAk C L (lay L w).flatten w hA hfl hw
  rw [alk_iff.mpr fun p _ => hR.plc p] at e4
  obtain ⟨y8, y9, y10, e5⟩ := law04_out (G := G) (W := W) hF hA hR hwl x0 (some (.lst true (xs.map .int))) (some (.int C)) (some (.ins false 0 [.int C, .tup (L.map tN)])) (some (.tup (w.map dN))) none none none
  have hrl : (lay L w).length < 1000000 := by
    have : (lay L w).length ≤ w.length := by simp only [lay, List.length_map]; exact lrun_rows L w
    omega
  generalize lay L w = R at *
  generalize R.flatten = fl at *
  simp at e1 e2
  simp -implicitDefEqProofs [c_law_k04_1, hgA, hgK, hgL, hgS, e1, e2, e3, e4, e5, hrl]
theorem law04 {G : Env0A} {W : Nat} (hD : Has G 5 DrawsOk) (hAl : Has G 7 AlphabetOk) (hI : Has G 1 InitOk) (hWd : Has G 14 WordOk) (hF : Has G 8 FreeOk) (hAW : Has G 27 AllWordsOk) (hAk : Has G 20 LAlikeOk) (hLy : Has G 25 LayersOk) (hSh : Has G 16 ShufOk) (ns : List Int) : runF G W f_law_k04 [.scr ns] = .ok (.bl true) [] := by
  obtain ⟨gD, hgD, hD⟩ := hD
  obtain ⟨gA, hgA, hAl⟩ := hAl
  obtain ⟨gI, hgI, hI⟩ := hI
  obtain ⟨gW, hgW, hWd⟩ := hWd
  have hLy' := hLy
  obtain ⟨gL, hgL, hLy⟩ := hLy
  obtain ⟨xs, e1⟩ := hD ns 80 (by decide)
  obtain ⟨C, L, ys, e2, hA, hC3, hL4⟩ := hAl xs 4 5 (by decide) (by decide) (by decide) (by decide)
  have e3 := hI C L hA
  obtain ⟨w, zs, e4, hwl, hwa⟩ := hWd ys L.length 10 hA.l1 (by decide)
  have hw : WIn L w := ⟨by omega, hwa⟩
  have e5 := hLy C L w (.tup (w.map dN)) hA (.inl rfl) hw
  obtain ⟨s', e6⟩ := tail04 (G := G) (W := W) hF hAW hAk hLy' hSh hA hw (by omega) zs (some (.scr ns))
  simp at e1 e2 e4 e5
  simp -implicitDefEqProofs [runF, f_law_k04_eq, g_law_k04, hgD, hgA, hgI, hgW, hgL, e1, e2, e3, e4, e5, e6]
/-! Abm38: the law of k06 -/
theorem cut_drop2 (ds : List D) (k : Nat) : cut ds (some ((k : Int) + 2)) none = ds.drop (k + 2) := by
  have := cut_drop ds (k + 2)
  simpa using this
theorem lay_alk {C : Nat} {L : List (List Nat)} (hA : Alph C L) {w v : List Nat} (hw : WIn L w) (hv : WIn L v) (h : Alk L w v) : lay L w = lay L v := (lay_sw hA hw (alk_sw hA hw.2 hv.2 h)).symm
theorem lay_dec {C : Nat} {L : List (List Nat)} (hA : Alph C L) {w v : List Nat} (hw : WIn L w) (hv : WIn L v) : decide (lay L w = lay L v) = alk C L w v := by
  by_cases h : alk C L w v = true
  · rw [h]; exact decide_eq_true (lay_alk hA hw hv ((alk_Alk hA hw.2 hv.2).mp h))
  · have : ¬ lay L w = lay L v := fun e => h ((alk_Alk hA hw.2 hv.2).mpr fun p => by
      rw [← (lay_rows hA hw.2).plc p, ← (lay_rows hA hv.2).plc p, e])
    rw [decide_eq_false this, Bool.not_eq_true _ |>.mp h]
theorem lf_dec {C : Nat} {L : List (List Nat)} (hA : Alph C L) {w v : List Nat} (hw : WIn L w) (hv : WIn L v) : decide (lf L w = lf L v) = alk C L w v := by
  by_cases h : alk C L w v = true
  · rw [h]; exact decide_eq_true (lf_eq hA hw.2 hv.2 ((alk_Alk hA hw.2 hv.2).mp h))
  · have : ¬ lf L w = lf L v := fun e => h ((alk_Alk hA hw.2 hv.2).mpr ((lf_alk w).symm.trans (by rw [e]; exact lf_alk v)))
    rw [decide_eq_false this, Bool.not_eq_true _ |>.mp h]
theorem lfW {L : List (List Nat)} {w : List Nat} (h : WIn L w) : WIn L (lf L w) := ⟨by rw [(lf_perm w).length_eq]; exact h.1, lf_vl (C := 0) h.2⟩
theorem tail06_3 {G : Env0A} {W : Nat} (hSd : Has G 18 SwappedOk) {C : Nat} {L : List (List Nat)} (hA : Alph C L) {w v : List Nat} (hw : WIn L w) (hv : WIn L v) (x0 x1 x2 x3 x7 x8 x10 : Option D) :
    ∃ s', exs G W [] c_law_k06_3 [x0, x1, x2, x3, some (.ins false 0 [.int C, .tup (L.map tN)]), some (.tup (w.map dN)), some (.tup (v.map dN)), x7, x8, some (.bl (alk C L w v)), x10, some (if alk C L w v then .lst true ((sqs 0 w v).map dN) else .non)] = .rt (.bl true) s' := by
  obtain ⟨g, hg, hSd⟩ := hSd
  by_cases h : alk C L w v = true
  · have e1 := hSd C L w ((sqs 0 w v).map fun (n : Nat) => (n : Int)) (.tup (w.map dN)) hA (.inl rfl) hw
    rw [swd_sqs hA hw.2 hv.2 ((alk_Alk hA hw.2 hv.2).mp h), map_cast] at e1
    rw [h, if_pos rfl]
    generalize sqs 0 w v = q at *
    simp [rN] at e1
    simp -implicitDefEqProofs [c_law_k06_3, hg, e1]
  · have h' := Bool.not_eq_true _ |>.mp h
    rw [h', if_neg (by decide)]
    simp -implicitDefEqProofs [c_law_k06_3]
theorem tail06_2 {G : Env0A} {W : Nat} (hLy : Has G 25 LayersOk) (hLf : Has G 30 LeastFOk) (hIl : Has G 32 IsLeastOk) (hAk : Has G 20 LAlikeOk) (hSq : Has G 17 SwapsOk) (hSd : Has G 18 SwappedOk) {C : Nat} {L : List (List Nat)} (hA : Alph C L) {w v : List Nat} (hw : WIn L w) (hv : WIn L v) (x0 x1 x7 x8 : Option D) :
    ∃ s', exs G W [] c_law_k06_2 [x0, x1, some (.int C), some (.lst false (L.map tN)), some (.ins false 0 [.int C, .tup (L.map tN)]), some (.tup (w.map dN)), some (.tup (v.map dN)), x7, x8, some (.bl (alk C L w v)), none, none] = .rt (.bl true) s' := by
  have hSd' := hSd
  obtain ⟨gY, hgY, hLy⟩ := hLy
  obtain ⟨gF, hgF, hLf⟩ := hLf
  obtain ⟨gI, hgI, hIl⟩ := hIl
  obtain ⟨gK, hgK, hAk⟩ := hAk
  obtain ⟨gS, hgS, hSq⟩ := hSq
  have hz := lfW hw
  have y1 := hLy C L w (.tup (w.map dN)) hA (.inl rfl) hw
  have y2 := hLy C L v (.tup (v.map dN)) hA (.inl rfl) hv
  have y3 := hLy C L (lf L w) (.tup ((lf L w).map dN)) hA (.inl rfl) hz
  rw [lay_alk hA hz hw (lf_alk w)] at y3
  have f1 := hLf C L w (.tup (w.map dN)) hA (.inl rfl) hw
  have f2 := hLf C L v (.tup (v.map dN)) hA (.inl rfl) hv
  have i1 := hIl C L (lf L w) (.tup ((lf L w).map dN)) hA (.inl rfl) hz
  rw [(isl_iff hA hz.2).mpr (lf_idem hA hw.2)] at i1
  have k1 := hAk C L (lf L w) w hA hz hw
  rw [(alk_Alk hA hz.2 hw.2).mpr (lf_alk w)] at k1
  have s1 := hSq C L w v hA hw hv
  obtain ⟨s', e3⟩ := tail06_3 (G := G) (W := W) hSd' hA hw hv x0 x1 (some (.int C)) (some (.lst false (L.map tN))) x7 x8 (some (.tup ((lf L w).map dN)))
  have d1 := lay_dec hA hw hv
  have d2 := lf_dec hA hw hv
  generalize lay L w = R at *
  generalize lay L v = R2 at *
  generalize lf L w = z at *
  generalize lf L v = z2 at *
  generalize sqs 0 w v = q at *
  generalize alk C L w v = b at *
  simp at y1 y2 y3 f1 f2 i1 k1
  refine ⟨s', ?_⟩
  cases b
  · have n1 : ¬ R = R2 := by simpa using d1
    have n2 : ¬ z = z2 := by simpa using d2
    simp at s1 e3
    simp -implicitDefEqProofs [c_law_k06_2, hgY, hgF, hgI, hgK, hgS, y1, y2, y3, f1, f2, i1, k1, s1, e3, n1, n2]
  · have n1 : R = R2 := by simpa using d1
    have n2 : z = z2 := by simpa using d2
    subst n1 n2
    simp at s1 e3
    simp -implicitDefEqProofs [c_law_k06_2, hgY, hgF, hgI, hgK, hgS, y1, y2, y3, f1, f2, i1, k1, s1, e3]
def i06 : MS := .ite (.and (.cmp .gt (.bi1 .len (.slot 6)) (.int 1)) (.cmp .eq (.slot 7) (.int 0))) (.cons (.asg 8 (.call 6 (.cons (.mv 1) (.cons (.rd (.bin .sub (.bi1 .len (.slot 6)) (.int 1))) .nil)))) (.cons (.asg 6 (.bin .add (.bin .add (.slc (.slot 6) .none (.some (.slot 8))) (.tup (.cons (.sub (.slot 6) (.bin .add (.slot 8) (.int 1))) (.cons (.sub (.slot 6) (.slot 8)) .nil)))) (.slc (.slot 6) (.some (.bin .add (.slot 8) (.int 2))) .none))) .nil)) .nil
def j06 : MS := .ite (.and (.cmp .gt (.bi1 .len (.slot 6)) (.int 0)) (.cmp .eq (.slot 7) (.int 1))) (.cons (.asg 8 (.call 6 (.cons (.mv 1) (.cons (.rd (.bi1 .len (.slot 6))) .nil)))) (.cons (.asg 6 (.bin .add (.bin .add (.slc (.slot 6) .none (.some (.slot 8))) (.tup (.cons (.call 6 (.cons (.mv 1) (.cons (.rd (.bi1 .len (.slot 3))) .nil))) .nil))) (.slc (.slot 6) (.some (.bin .add (.slot 8) (.int 1))) .none))) .nil)) .nil
def e06 : MSs := .cons (.asg 9 (.call 20 (.cons (.rd (.slot 2)) (.cons (.rd (.slot 3)) (.cons (.rd (.slot 5)) (.cons (.rd (.slot 6)) .nil)))))) (.cons (.ite (.cmp .ne (.call 13 (.cons (.rd (.slot 4)) (.cons (.rd (.slot 5)) (.cons (.rd (.slot 6)) .nil)))) (.slot 9)) (.cons (.ret (.bl false)) .nil) .nil) c_law_k06_2)
theorem c1_06 : c_law_k06_1 = .cons (.asg 7 (.call 6 (.cons (.mv 1) (.cons (.rd (.int 4)) .nil)))) (.cons i06 (.cons j06 e06)) := rfl
theorem i06_ok {G : Env0A} {W : Nat} (hT : Has G 6 TakeOk) {L : List (List Nat)} {v : List Nat} (hv : WIn L v) (t : Nat) (xs : List Int) (x0 x2 x4 x5 x8 x9 x10 x11 : Option D) :
    ∃ (v2 : List Nat) (ys : List Int) (y8 : Option D), ex G W [] i06 [x0, some (.lst true (xs.map .int)), x2, some (.lst false (L.map tN)), x4, x5, some (.tup (v.map dN)), some (.int t), x8, x9, x10, x11] =
      .nx [x0, some (.lst true (ys.map .int)), x2, some (.lst false (L.map tN)), x4, x5, some (.tup (v2.map dN)), some (.int t), y8, x9, x10, x11] ∧ WIn L v2 ∧ v2.length = v.length := by
  obtain ⟨gT, hgT, hT⟩ := hT
  by_cases h0 : 1 < v.length ∧ t = 0
  · obtain ⟨h0, rfl⟩ := h0
    obtain ⟨r, ys, e1, hr⟩ := hT xs (v.length - 1) (by omega)
    have h2 : r + 1 < v.length := by omega
    have hr1 : r < v.length := by omega
    have hc1 : ((v.length - 1 : Nat) : Int) = (v.length : Int) - 1 := by omega
    have h1' : (1 : Int) < (v.length : Int) := by omega
    rw [hc1] at e1
    try simp at e1
    have hwin := sw2_win h2 hv
    have hs := sw2_eq h2
    refine ⟨sw2 v r, ys, some (.int (r : Nat)), ?_, hwin, by simp [sw2]⟩
    have hvl := hv.1
    have hmp : ((v.take r ++ v[r + 1] :: v[r] :: v.drop (r + 2)).map dN) = ((v.take r).map dN ++ [D.int (v[r + 1] : Nat), D.int (v[r] : Nat)]) ++ (v.drop (r + 2)).map dN := by simp
    have e3 : atI (v.map dN) ((r : Int) + 1) = some (dN v[r + 1]) := by
      have := atI_natq (v.map dN) (r + 1)
      rw [List.getElem?_map, List.getElem?_eq_getElem h2] at this
      simpa using this
    have z1 : (v.take r).length + 2 ≤ 16777216 := by simp; omega
    have z2 : (v.take r).length + 2 + (v.drop (r + 2)).length ≤ 16777216 := by simp; omega
    have t1 : (v.map dN).take r = (v.take r).map dN := by simp
    have t2 : (v.map dN).drop (r + 2) = (v.drop (r + 2)).map dN := by simp
    have c1 := cut_take (v.map dN) r
    have c2 := cut_drop2 (v.map dN) r
    rw [t1] at c1
    rw [t2] at c2
    rw [hs, hmp]
    generalize v.take r = p at *
    generalize v.drop (r + 2) = q at *
    simp -implicitDefEqProofs [-cut_take, i06, hgT, e1, e3, h0, h1', h2, hr1, c1, c2, z1, z2]
  · refine ⟨v, xs, x8, ?_, hv, rfl⟩
    by_cases h1 : 1 < v.length
    · have h1' : (1 : Int) < (v.length : Int) := by omega
      have ht : ¬ ((t : Int) = 0) := by omega
      have ht' : ¬ t = 0 := by omega
      simp -implicitDefEqProofs [i06, h1, h1', ht, ht']
    · have h1' : ¬ (1 : Int) < (v.length : Int) := by omega
      simp -implicitDefEqProofs [i06, h1, h1']
theorem j06_ok {G : Env0A} {W : Nat} (hT : Has G 6 TakeOk) {L : List (List Nat)} (hL : 1 ≤ L.length) {v : List Nat} (hv : WIn L v) (t : Nat) (xs : List Int) (x0 x2 x4 x5 x8 x9 x10 x11 : Option D) :
    ∃ (v2 : List Nat) (ys : List Int) (y8 : Option D), ex G W [] j06 [x0, some (.lst true (xs.map .int)), x2, some (.lst false (L.map tN)), x4, x5, some (.tup (v.map dN)), some (.int t), x8, x9, x10, x11] =
      .nx [x0, some (.lst true (ys.map .int)), x2, some (.lst false (L.map tN)), x4, x5, some (.tup (v2.map dN)), some (.int t), y8, x9, x10, x11] ∧ WIn L v2 := by
  obtain ⟨gT, hgT, hT⟩ := hT
  by_cases h0 : 0 < v.length ∧ t = 1
  · obtain ⟨h0, rfl⟩ := h0
    obtain ⟨r, ys, e1, hr⟩ := hT xs v.length h0
    obtain ⟨c, zs, e2, hc⟩ := hT ys L.length hL
    try simp at e1 e2
    have h1' : (0 : Int) < (v.length : Int) := by omega
    have hne : v ≠ [] := List.length_pos_iff.mp h0
    have hvl := hv.1
    refine ⟨(v.take r ++ [c]) ++ v.drop (r + 1), zs, some (.int (r : Nat)), ?_, ⟨by simp; omega, fun a ha => ?_⟩⟩
    · have hmp : (((v.take r ++ [c]) ++ v.drop (r + 1)).map dN) = ((v.take r).map dN ++ [D.int (c : Nat)]) ++ (v.drop (r + 1)).map dN := by simp
      have z1 : (v.take r).length + 1 ≤ 16777216 := by simp; omega
      have z2 : (v.take r).length + 1 + (v.drop (r + 1)).length ≤ 16777216 := by simp; omega
      have t1 : (v.map dN).take r = (v.take r).map dN := by simp
      have t2 : (v.map dN).drop (r + 1) = (v.drop (r + 1)).map dN := by simp
      have c1 := cut_take (v.map dN) r
      have c2 := cut_drop1 (v.map dN) r
      rw [t1] at c1
      rw [t2] at c2
      rw [hmp]
      generalize v.take r = p at *
      generalize v.drop (r + 1) = q at *
      simp -implicitDefEqProofs [-cut_take, -cut_drop1, j06, hgT, e1, e2, h0, h1', hne, c1, c2, z1, z2]
    · simp only [List.mem_append, List.mem_singleton] at ha
      rcases ha with (ha | ha) | ha
      · exact hv.2 a (List.mem_of_mem_take ha)
      · rw [ha]; exact hc
      · exact hv.2 a (List.mem_of_mem_drop ha)
  · refine ⟨v, xs, x8, ?_, hv⟩
    by_cases h1 : 0 < v.length
    · have h1' : (0 : Int) < (v.length : Int) := by omega
      have hne : v ≠ [] := List.length_pos_iff.mp h1
      have ht : ¬ ((t : Int) = 1) := by omega
      have ht' : ¬ t = 1 := by omega
      simp -implicitDefEqProofs [j06, h1, h1', ht, ht', hne]
    · have h1' : ¬ (0 : Int) < (v.length : Int) := by omega
      have hne : v = [] := List.length_eq_zero_iff.mp (by omega)
      subst hne
      simp -implicitDefEqProofs [j06, h1, h1']
theorem e06_ok {G : Env0A} {W : Nat} (hE : Has G 13 EqvOk) (hLy : Has G 25 LayersOk) (hLf : Has G 30 LeastFOk) (hIl : Has G 32 IsLeastOk) (hAk : Has G 20 LAlikeOk) (hSq : Has G 17 SwapsOk) (hSd : Has G 18 SwappedOk) {C : Nat} {L : List (List Nat)} (hA : Alph C L) {w v : List Nat} (hw : WIn L w) (hv : WIn L v) (x0 x1 x7 x8 : Option D) :
    ∃ s', exs G W [] e06 [x0, x1, some (.int C), some (.lst false (L.map tN)), some (.ins true 0 [.int C, .tup (L.map tN)]), some (.tup (w.map dN)), some (.tup (v.map dN)), x7, x8, none, none, none] = .rt (.bl true) s' := by
  have hAk' := hAk
  obtain ⟨gE, hgE, hE⟩ := hE
  obtain ⟨gK, hgK, hAk⟩ := hAk
  have k1 := hAk C L w v hA hw hv
  have e1 := hE C L w v hA hw hv
  obtain ⟨s', e2⟩ := tail06_2 (G := G) (W := W) hLy hLf hIl hAk' hSq hSd hA hw hv x0 x1 x7 x8
  generalize alk C L w v = b at *
  refine ⟨s', ?_⟩
  simp at k1 e1
  simp -implicitDefEqProofs [e06, hgE, hgK, k1, e1, e2]
theorem law06 {G : Env0A} {W : Nat} (hD : Has G 5 DrawsOk) (hAl : Has G 7 AlphabetOk) (hI : Has G 1 InitOk) (hWd : Has G 14 WordOk) (hT : Has G 6 TakeOk) (hSh : Has G 16 ShufOk) (hE : Has G 13 EqvOk) (hLy : Has G 25 LayersOk) (hLf : Has G 30 LeastFOk) (hIl : Has G 32 IsLeastOk) (hAk : Has G 20 LAlikeOk) (hSq : Has G 17 SwapsOk) (hSd : Has G 18 SwappedOk) (ns : List Int) : runF G W f_law_k06 [.scr ns] = .ok (.bl true) [] := by
  have hT' := hT
  obtain ⟨gD, hgD, hD⟩ := hD
  obtain ⟨gA, hgA, hAl⟩ := hAl
  obtain ⟨gI, hgI, hI⟩ := hI
  obtain ⟨gW, hgW, hWd⟩ := hWd
  obtain ⟨gT, hgT, hT⟩ := hT
  obtain ⟨gS, hgS, hSh⟩ := hSh
  obtain ⟨xs, e1⟩ := hD ns 100 (by decide)
  obtain ⟨C, L, ys, e2, hA, _, _⟩ := hAl xs 4 6 (by decide) (by decide) (by decide) (by decide)
  have e3 := hI C L hA
  obtain ⟨w, zs, e4, hwl, hwa⟩ := hWd ys L.length 14 hA.l1 (by decide)
  have hw : WIn L w := ⟨by omega, hwa⟩
  obtain ⟨v, us, e5, hv⟩ := hSh C L w 25 zs hA hw (by decide)
  have hvw := hv.win hw
  obtain ⟨t, ts, e6, ht⟩ := hT us 4 (by decide)
  obtain ⟨v2, ps, y8, e7, hv2, _⟩ := i06_ok (G := G) (W := W) hT' hvw t ts (some (.scr ns)) (some (.int C)) (some (.ins true 0 [.int C, .tup (L.map tN)])) (some (.tup (w.map dN))) none none none none
  obtain ⟨v3, qs, y9, e8, hv3⟩ := j06_ok (G := G) (W := W) hT' hA.l1 hv2 t ps (some (.scr ns)) (some (.int C)) (some (.ins true 0 [.int C, .tup (L.map tN)])) (some (.tup (w.map dN))) y8 none none none
  obtain ⟨s', e9⟩ := e06_ok (G := G) (W := W) hE hLy hLf hIl hAk hSq hSd hA hw hv3 (some (.scr ns)) (some (.lst true (qs.map .int))) (some (.int t)) y9
  have e10 : exs G W [] c_law_k06_1 [some (.scr ns), some (.lst true (us.map .int)), some (.int C), some (.lst false (L.map tN)), some (.ins true 0 [.int C, .tup (L.map tN)]), some (.tup (w.map dN)), some (.tup (v.map dN)), none, none, none, none, none] = .rt (.bl true) s' := by
    rw [c1_06]
    simp at e6
    have h1 : ex G W [] (.asg 7 (.call 6 (.cons (.mv 1) (.cons (.rd (.int 4)) .nil)))) [some (.scr ns), some (.lst true (us.map .int)), some (.int C), some (.lst false (L.map tN)), some (.ins true 0 [.int C, .tup (L.map tN)]), some (.tup (w.map dN)), some (.tup (v.map dN)), none, none, none, none, none] =
      .nx [some (.scr ns), some (.lst true (ts.map .int)), some (.int C), some (.lst false (L.map tN)), some (.ins true 0 [.int C, .tup (L.map tN)]), some (.tup (w.map dN)), some (.tup (v.map dN)), some (.int t), none, none, none, none] := by
      simp -implicitDefEqProofs [hgT, e6]
    rw [exs_cons, h1]
    simp only [sq]
    rw [exs_cons, e7]
    simp only [sq]
    rw [exs_cons, e8]
    simp only [sq]
    exact e9
  simp at e1 e2 e4 e5
  simp -implicitDefEqProofs [runF, f_law_k06_eq, g_law_k06, hgD, hgA, hgI, hgW, hgS, e1, e2, e3, e4, e5, e10]
/-! Abm42: all orders of a word, found swap by swap -/
/-! the order of words -/
def nlt : List Nat → List Nat → Bool
  | [], [] => false
  | [], _ :: _ => true
  | _ :: _, [] => false
  | a :: u, b :: v => if a = b then nlt u v else decide (a < b)
theorem nlt_self : ∀ u : List Nat, nlt u u = false
  | [] => rfl
  | a :: u => by rw [nlt, if_pos rfl, nlt_self u]
theorem nlt_asym : ∀ {u v : List Nat}, nlt u v = true → nlt v u = false
  | [], [], h => by cases h
  | [], _ :: _, _ => rfl
  | _ :: _, [], h => by cases h
  | a :: u, b :: v, h => by
    rw [nlt] at h ⊢
    by_cases e : a = b
    · rw [if_pos e] at h; rw [if_pos e.symm]; exact nlt_asym h
    · rw [if_neg e] at h; rw [if_neg fun z => e z.symm]
      simp at h ⊢; omega
theorem nlt_tri : ∀ {u v : List Nat}, nlt u v = false → nlt v u = false → u = v
  | [], [], _, _ => rfl
  | [], _ :: _, h, _ => by cases h
  | _ :: _, [], _, h => by cases h
  | a :: u, b :: v, h, h' => by
    rw [nlt] at h h'
    by_cases e : a = b
    · subst e; rw [if_pos rfl] at h h'; rw [nlt_tri h h']
    · rw [if_neg e] at h; rw [if_neg fun z => e z.symm] at h'
      simp at h h'; omega
theorem nlt_trans : ∀ {u v w : List Nat}, nlt v u = false → nlt w v = false → nlt w u = false
  | [], [], [], _, _ => rfl
  | [], [], _ :: _, h, h' => rfl
  | [], _ :: _, [], h, h' => rfl
  | [], _ :: _, _ :: _, h, h' => rfl
  | _ :: _, [], _, h, h' => by cases h
  | _ :: _, _ :: _, [], h, h' => by cases h'
  | a :: u, b :: v, c :: w, h, h' => by
    rw [nlt] at h h' ⊢
    by_cases e1 : b = a
    · subst e1
      rw [if_pos rfl] at h
      by_cases e2 : c = b
      · subst e2; rw [if_pos rfl] at h' ⊢; exact nlt_trans h h'
      · rw [if_neg e2] at h' ⊢; exact h'
    · rw [if_neg e1] at h
      by_cases e2 : c = b
      · subst e2; rw [if_neg e1]; exact h
      · rw [if_neg e2] at h'
        simp at h h'
        rw [if_neg (by omega)]; simp; omega
theorem dataLt_tN : ∀ u v : List Nat, PyProof.Rows.lexLt PyProof.Rows.itemOrd (PySem.W.keyToksAll (toPDs (u.map dN))) (PySem.W.keyToksAll (toPDs (v.map dN))) = nlt u v
  | [], [] => by decide +kernel
  | [], b :: v => by
    simp only [List.map_nil, List.map_cons, toPDs, PySem.W.keyToksAll, nlt]
    rfl
  | a :: u, [] => by
    simp only [List.map_nil, List.map_cons, toPDs, PySem.W.keyToksAll, nlt]
    rfl
  | a :: u, b :: v => by
    simp only [List.map_cons, toPDs]
    rw [PySem.W.dataLt_cons (by simp [PySem.W.alike]), dataLt_tN u v, nlt]
    have e := eqD_int (a : Int) (b : Int)
    rw [eqD] at e
    have e' : PySem.PyData.eqv (toPD (dN a)) (toPD (dN b)) = decide ((a : Int) = (b : Int)) := e
    rw [e']
    by_cases h : a = b
    · subst h; simp
    · have h2 : ¬ (a : Int) = (b : Int) := by omega
      simp only [h2, decide_false, h, if_false, Bool.false_eq_true]
      simp only [dN_ap, toPD, PySem.W.dataLt_int]
      simp
theorem leD_tN (u v : List Nat) : leD (tN u) (tN v) = !nlt v u := by
  simp only [leD, tN_ap, toPD, PySem.W.dataLt_tuple, dataLt_tN]
def sortW (S : List (List Nat)) : List (List Nat) := S.mergeSort fun a b => !nlt b a
theorem sortD_tN (S : List (List Nat)) : sortD (S.map tN) = (sortW S).map tN := by
  simp only [sortD, sortW]
  rw [List.map_mergeSort]
  intro a _ b _
  rw [leD_tN]
theorem sortW_perm (S : List (List Nat)) : (sortW S).Perm S := List.mergeSort_perm ..
theorem sortW_asc (S : List (List Nat)) : (sortW S).Pairwise fun a b => nlt b a = false := by
  have := List.pairwise_mergeSort (le := fun a b : List Nat => !nlt b a) (fun a b c h1 h2 => by
    simp only [Bool.not_eq_true'] at h1 h2 ⊢
    exact nlt_trans h1 h2) (fun a b => by
    simp only [Bool.or_eq_true, Bool.not_eq_true']
    cases h : nlt b a
    · exact .inl rfl
    · exact .inr (nlt_asym h)) S
  exact this.imp fun h => by simpa using h
theorem alike_tN : ∀ {u v : List Nat}, u.length = v.length → PySem.W.alikeAll (toPDs (u.map dN)) (toPDs (v.map dN)) = true
  | [], [], _ => by simp [toPDs, PySem.W.alikeAll]
  | [], _ :: _, h => by simp at h
  | _ :: _, [], h => by simp at h
  | a :: u, b :: v, h => by
    simp only [List.map_cons, toPDs, PySem.W.alikeAll, alike_tN (show u.length = v.length by simpa using h), Bool.and_true]
    simp [PySem.W.alike]
theorem sorted_tN {m : Bool} {S : List (List Nat)} {n : Nat} (hl : S.length ≤ 16777216) (hn : ∀ u, u ∈ S → u.length = n) (h1 : 0 < n ∨ S.length ≤ 1) : bi1 .sorted (.lst m (S.map tN)) = some (.lst true ((sortW S).map tN)) := by
  have h2 : (sortable (S.map tN) || decide ((S.map tN).length ≤ 1)) = true := by
    rw [Bool.or_eq_true]
    rcases h1 with h1 | h1
    · left
      simp only [sortable, plains_map, List.all_map, Bool.true_and, List.length_map, Bool.and_eq_true, List.all_eq_true, Function.comp, Bool.or_eq_true, decide_eq_true_eq]
      refine ⟨⟨fun a ha b hb => ?_, .inl fun a ha => ?_⟩, by simpa using hl⟩
      · simp only [tN_ap, toPD, PySem.W.alike]
        exact alike_tN (by rw [hn a ha, hn b hb])
      · have := hn a ha
        cases a with
        | nil => simp at this; omega
        | cons x a => rfl
    · right; simpa using h1
  simp only [sorted_lst, stills_map, h2, Bool.true_and, if_true, sortD_tN]
/-! how many orders -/
theorem nodup_le {α : Type} [DecidableEq α] : ∀ {l m : List α}, l.Nodup → (∀ x, x ∈ l → x ∈ m) → l.length ≤ m.length
  | [], m, _, _ => by simp
  | a :: l, m, h, hs => by
    have ha := hs a (by simp)
    have hp := List.perm_cons_erase ha
    obtain ⟨h1, h2⟩ := List.nodup_cons.mp h
    have := nodup_le (l := l) (m := m.erase a) h2 fun x hx => by
      have hx' := hs x (by simp [hx])
      rcases List.mem_cons.mp (hp.mem_iff.mp hx') with e | e
      · exact absurd (e ▸ hx) h1
      · exact e
    have := hp.length_eq
    simp at this ⊢; omega
def fct : Nat → Nat
  | 0 => 1
  | n + 1 => (n + 1) * fct n
def prm : Nat → List Nat → List (List Nat)
  | 0, _ => [[]]
  | n + 1, w => (List.range w.length).flatMap fun k => (prm n (w.eraseIdx k)).map (w.getD k 0 :: ·)
theorem flat_len {α β : Type} (f : α → List β) (c : Nat) : ∀ l : List α, (∀ x, x ∈ l → (f x).length = c) → (l.flatMap f).length = l.length * c
  | [], _ => by simp
  | x :: l, h => by
    rw [List.flatMap_cons, List.length_append, h x (by simp), flat_len f c l fun y hy => h y (by simp [hy]), List.length_cons, Nat.succ_mul, Nat.add_comm]
theorem prm_len : ∀ (n : Nat) (w : List Nat), w.length = n → (prm n w).length = fct n
  | 0, w, h => rfl
  | n + 1, w, h => by
    rw [prm, flat_len _ (fct n), List.length_range, h, fct]
    intro k hk
    have hk : k < w.length := by simpa using hk
    rw [List.length_map, prm_len n]
    rw [List.length_eraseIdx, if_pos hk]; omega
theorem prm_mem : ∀ (n : Nat) {w v : List Nat}, w.length = n → v.Perm w → v ∈ prm n w
  | 0, w, v, h, hp => by
    have := List.length_eq_zero_iff.mp h
    subst this
    rw [List.Perm.eq_nil hp]; simp [prm]
  | n + 1, w, [], h, hp => by have := hp.length_eq; simp at this; omega
  | n + 1, w, a :: v, h, hp => by
    have ha : a ∈ w := hp.mem_iff.mp (by simp)
    obtain ⟨k, hk, e⟩ := List.getElem_of_mem ha
    rw [prm, List.mem_flatMap]
    refine ⟨k, by simpa using hk, List.mem_map.mpr ⟨v, prm_mem n (by rw [List.length_eraseIdx, if_pos hk]; omega) ?_, by simp [hk, e]⟩⟩
    have h2 : w.Perm (a :: w.eraseIdx k) := by
      rw [erase_at]
      have := split_at hk
      rw [e] at this
      have h3 : (w.take k ++ a :: w.drop (k + 1)).Perm (a :: (w.take k ++ w.drop (k + 1))) := List.perm_middle
      rw [← this] at h3
      exact h3
    exact List.Perm.cons_inv (hp.trans h2)
theorem fct_mono : ∀ {m n : Nat}, m ≤ n → fct m ≤ fct n
  | m, 0, h => by have : m = 0 := by omega
                  rw [this]; exact Nat.le_refl _
  | m, n + 1, h => by
    by_cases e : m = n + 1
    · rw [e]; exact Nat.le_refl _
    · have := fct_mono (m := m) (n := n) (by omega)
      rw [fct, Nat.succ_mul]; omega
theorem orders_few {L : List (List Nat)} {w : List Nat} {S : List (List Nat)} (hn : S.Nodup) (hs : ∀ v, v ∈ S → Sw L w v) (hw : w.length ≤ 7) : S.length ≤ 5040 := by
  have h1 := nodup_le (m := prm w.length w) hn fun v hv => prm_mem _ rfl (hs v hv).perm.symm
  rw [prm_len _ w rfl] at h1
  exact Nat.le_trans h1 (fct_mono (n := 7) hw)
/-! the search -/
def cl1 (L : List (List Nat)) (S : List (List Nat)) (u : List Nat) (n : Nat) : Prop := ∀ r, r < n → r + 1 < u.length → dl L (u.getD r 0) (u.getD (r + 1) 0) = false → sw2 u r ∈ S
structure Bfs (L : List (List Nat)) (w : List Nat) (S : List (List Nat)) (k : Nat) : Prop where
  nd : S.Nodup
  sw : ∀ v, v ∈ S → Sw L w v
  hd : w ∈ S
  cl : ∀ i, i < k → ∀ u, S[i]? = some u → cl1 L S u u.length
theorem cl1_mono {L S S' : List (List Nat)} {u : List Nat} {n : Nat} (h : cl1 L S u n) (hs : ∀ x, x ∈ S → x ∈ S') : cl1 L S' u n := fun r hr h2 hd => hs _ (h r hr h2 hd)
theorem Bfs.snoc {L : List (List Nat)} {w : List Nat} {S : List (List Nat)} {k : Nat} (b : Bfs L w S k) {v : List Nat} (hv : Sw L w v) (hn : ¬ v ∈ S) (hk : k ≤ S.length) : Bfs L w (S ++ [v]) k := by
  refine ⟨?_, fun x hx => ?_, by simp [b.hd], fun i hi u hu => ?_⟩
  · rw [List.nodup_append]
    exact ⟨b.nd, by simp, fun x hx y hy e => hn (by rw [List.mem_singleton] at hy; rw [← hy, ← e]; exact hx)⟩
  · rcases List.mem_append.mp hx with h | h
    · exact b.sw x h
    · rw [List.mem_singleton.mp h]; exact hv
  · rw [List.getElem?_append_left (by omega)] at hu
    exact cl1_mono (b.cl i hi u hu) fun x hx => by simp [hx]
theorem sw2_sw {L : List (List Nat)} {w u : List Nat} {r : Nat} (h : Sw L w u) (hr : r + 1 < u.length) (hd : dl L (u.getD r 0) (u.getD (r + 1) 0) = false) : Sw L w (sw2 u r) := by
  rw [sw2_eq hr]
  have e1 : u.getD r 0 = u[r] := by simp [Nat.lt_of_succ_lt hr]
  have e2 : u.getD (r + 1) 0 = u[r + 1] := by simp [hr]
  rw [e1, e2] at hd
  refine Sw.step ?_ hd
  rw [← split_two hr]; exact h
theorem Bfs.all {L : List (List Nat)} {w : List Nat} {S : List (List Nat)} {k : Nat} (b : Bfs L w S k) (hk : S.length ≤ k) : ∀ v, v ∈ S ↔ Sw L w v := fun v => by
  refine ⟨b.sw v, fun h => ?_⟩
  induction h with
  | refl => exact b.hd
  | @step u v x y hp hd ih =>
    obtain ⟨i, hi, e⟩ := List.getElem_of_mem ih
    have h1 := b.cl i (by omega) _ (by rw [List.getElem?_eq_getElem hi, e])
    have hl : u.length + 1 < (u ++ x :: y :: v).length := by simp
    have g1 : (u ++ x :: y :: v).getD u.length 0 = x := by simp [List.getD_eq_getElem?_getD]
    have g2 : (u ++ x :: y :: v).getD (u.length + 1) 0 = y := by
      rw [List.getD_eq_getElem?_getD, List.getElem?_append_right (by omega)]; simp
    have h2 := h1 u.length (by simp) hl (by rw [g1, g2]; exact hd)
    have h3 : sw2 (u ++ x :: y :: v) u.length = u ++ y :: x :: v := by
      rw [sw2, g1, g2]; exact set_swap u v x y
    rw [h3] at h2; exact h2
/-! Abm43: the evaluator of the search for all orders; the least form is the least order -/
theorem for_st {α : Type} {st : SA → Fl} {g : MG} (e : α → D) (l : List α) (I : Nat → SA → Prop) {s : SA} (h0 : I 0 s)
    (hs : ∀ (k : Nat) (hk : k < l.length) (s : SA), I k s → ∃ s1 s2, asgG g (e l[k]) s = some s1 ∧ st s1 = .nx s2 ∧ I (k + 1) s2) :
    ∃ s', forL st g (l.map e) s = .nx s' ∧ I l.length s' :=
  for_ok e l I h0 fun k hk s hi => by
    obtain ⟨s1, s2, e1, e2, h⟩ := hs k hk s hi
    rw [e1]; show Nx _ (st s1); rw [e2]; exact h
@[local simp] theorem kOk_tN {l : List Nat} : kOk 1 (.tup (l.map dN)) = true := by
  simp only [kOk, beq_self_eq_true, Bool.true_and, List.all_map]
  rw [List.all_eq_true]; intro x _; rfl
def vT (_ : List Nat) : D := .bl true
def seenD (S : List (List Nat)) : D := .dic true 1 (S.map tN) (S.map vT)
theorem dput_seen {S : List (List Nat)} {o : List Nat} (h : ¬ o ∈ S) : dput 1 (S.map tN) (S.map vT) (.tup (o.map dN)) (.bl true) = .dic true 1 ((S ++ [o]).map tN) ((S ++ [o]).map vT) := by
  have : memD (.tup (o.map dN)) (S.map tN) = false := by rw [memD_tN]; exact decide_eq_false h
  rw [dput, this]; simp [vT]
theorem cut_two {u : List Nat} {r : Nat} (h : r + 1 < u.length) : (u.map dN).take r ++ (D.int (u[r + 1] : Nat) :: D.int (u[r] : Nat) :: (u.map dN).drop (r + 2)) = (sw2 u r).map dN := by
  rw [sw2_eq h]; simp
theorem ord_step {G : Env0A} {W : Nat} (hF : Has G 8 FreeOk) {C : Nat} {L : List (List Nat)} (hA : Alph C L) {u : List Nat} (hu : WIn L u) {S : List (List Nat)} (hS : S.length < 16777216) {r : Nat} (hr : r + 1 < u.length) (x1 x4 x7 : Option D) :
    ∃ y7, exs G W [] b_l_orders_1 [some (.lst false (L.map tN)), x1, some (.lst true (S.map tN)), some (.dic true 1 (S.map tN) (S.map vT)), x4, some (.tup (u.map dN)), some (.int (r : Nat)), x7] =
      (if dl L (u.getD r 0) (u.getD (r + 1) 0) = false ∧ ¬ sw2 u r ∈ S then .nx [some (.lst false (L.map tN)), x1, some (.lst true ((S ++ [sw2 u r]).map tN)), some (.dic true 1 ((S ++ [sw2 u r]).map tN) ((S ++ [sw2 u r]).map vT)), x4, some (.tup (u.map dN)), some (.int (r : Nat)), y7]
       else .nx [some (.lst false (L.map tN)), x1, some (.lst true (S.map tN)), some (.dic true 1 (S.map tN) (S.map vT)), x4, some (.tup (u.map dN)), some (.int (r : Nat)), y7]) := by
  obtain ⟨gF, hgF, hF⟩ := hF
  have hr1 : r < u.length := by omega
  have e1 := hF C L u[r] u[r + 1] hA (hu.2 _ (List.getElem_mem _)) (hu.2 _ (List.getElem_mem _))
  have g1 : u.getD r 0 = u[r] := by simp [hr1]
  have g2 : u.getD (r + 1) 0 = u[r + 1] := by simp [hr]
  rw [g1, g2]
  have e3 : atI (u.map dN) ((r : Int) + 1) = some (dN u[r + 1]) := by
    have := atI_natq (u.map dN) (r + 1)
    rw [List.getElem?_map, List.getElem?_eq_getElem hr] at this
    simpa using this
  cases hd : dl L u[r] u[r + 1]
  · rw [hd] at e1
    have hul := hu.1
    have z1 : min r u.length + 2 ≤ 16777216 := by omega
    have z2 : min r u.length + 2 + (u.length - (r + 2)) ≤ 16777216 := by omega
    have z3 : min r u.length + (u.length - (r + 2) + 1 + 1) ≤ 16777216 := by omega
    have c1 := cut_take (u.map dN) r
    have c2 := cut_drop2 (u.map dN) r
    have c3 := cut_two hr
    have hin : ∀ X : List D, X = (sw2 u r).map dN → (D.tup X) = .tup ((sw2 u r).map dN) := fun X e => by rw [e]
    refine ⟨some (.tup ((sw2 u r).map dN)), ?_⟩
    generalize sw2 u r = o at *
    by_cases hm : o ∈ S
    · simp at e1
      simp -implicitDefEqProofs [-List.map_take, -List.map_drop, b_l_orders_1, hgF, e1, e3, hr1, hr, c1, c2, c3, hm, z1, z2, z3]
    · have hp := dput_seen hm
      simp at e1
      simp at hp
      simp -implicitDefEqProofs [-List.map_take, -List.map_drop, b_l_orders_1, hgF, e1, e3, hr1, hr, c1, c2, c3, hm, z1, z2, z3, hS, hp]
  · rw [hd] at e1
    refine ⟨x7, ?_⟩
    simp at e1
    simp -implicitDefEqProofs [b_l_orders_1, hgF, e1, hr1, hr]
def I_ord (L : List (List Nat)) (w u : List Nat) (S : List (List Nat)) (k : Nat) (x1 x4 : Option D) (n : Nat) (s : SA) : Prop := ∃ (T : List (List Nat)) (x6 x7 : Option D),
  s = [some (.lst false (L.map tN)), x1, some (.lst true ((S ++ T).map tN)), some (.dic true 1 ((S ++ T).map tN) ((S ++ T).map vT)), x4, some (.tup (u.map dN)), x6, x7] ∧ Bfs L w (S ++ T) k ∧ cl1 L (S ++ T) u n
theorem ord_in {G : Env0A} {W : Nat} (hF : Has G 8 FreeOk) {C : Nat} {L : List (List Nat)} (hA : Alph C L) {w u : List Nat} (hw : WIn L w) (hw7 : w.length ≤ 7) {S : List (List Nat)} {k : Nat} (hb : Bfs L w S k) (hk : k < S.length) (hu : u ∈ S) (x1 x4 x6 x7 : Option D) :
    ∃ s', forL (fun s => exs G W [] b_l_orders_1 s) (.name 6) ((List.range (u.length - 1)).map dN) [some (.lst false (L.map tN)), x1, some (.lst true (S.map tN)), some (.dic true 1 (S.map tN) (S.map vT)), x4, some (.tup (u.map dN)), x6, x7] = .nx s' ∧ I_ord L w u S k x1 x4 (u.length - 1) s' := by
  have hsu := hb.sw u hu
  have huw := hsu.win hw
  have := for_st (st := fun s => exs G W [] b_l_orders_1 s) (g := .name 6) dN (List.range (u.length - 1)) (I_ord L w u S k x1 x4)
    (s := [some (.lst false (L.map tN)), x1, some (.lst true (S.map tN)), some (.dic true 1 (S.map tN) (S.map vT)), x4, some (.tup (u.map dN)), x6, x7]) ⟨[], x6, x7, by simp, by simpa using hb, fun r hr => absurd hr (by omega)⟩ fun n hn s hs => by
      obtain ⟨T, x6, x7, rfl, hbT, hc⟩ := hs
      have hn : n < u.length - 1 := by simpa using hn
      have hr : n + 1 < u.length := by omega
      have hfew := orders_few hbT.nd hbT.sw hw7
      obtain ⟨y7, e⟩ := ord_step (G := G) (W := W) hF hA huw (S := S ++ T) (by omega) hr x1 x4 x7
      have hg : (List.range (u.length - 1))[n]'(by simpa using hn) = n := by simp
      by_cases h : dl L (u.getD n 0) (u.getD (n + 1) 0) = false ∧ ¬ sw2 u n ∈ S ++ T
      · rw [if_pos h] at e
        refine ⟨_, _, rfl, (by rw [hg]; exact e), T ++ [sw2 u n], some (.int (n : Nat)), y7, by rw [List.append_assoc], ?_, fun r hr' h2 hd => ?_⟩
        · rw [← List.append_assoc]
          exact hbT.snoc (sw2_sw hsu hr h.1) h.2 (by simp; omega)
        · rw [← List.append_assoc]
          by_cases e : r = n
          · subst e; simp
          · exact List.mem_append_left _ (hc r (by omega) h2 hd)
      · rw [if_neg h] at e
        refine ⟨_, _, rfl, (by rw [hg]; exact e), T, some (.int (n : Nat)), y7, rfl, hbT, fun r hr' h2 hd => ?_⟩
        by_cases e : r = n
        · subst e
          exact Classical.byContradiction fun z => h ⟨hd, z⟩
        · exact hc r (by omega) h2 hd
  obtain ⟨s', e, h⟩ := this
  rw [List.length_range] at h
  exact ⟨s', e, h⟩
def I_ordO (L : List (List Nat)) (w : List Nat) (k : Nat) (s : SA) : Prop := ∃ (S : List (List Nat)) (x4 x5 x6 x7 : Option D),
  s = [some (.lst false (L.map tN)), some (.tup (w.map dN)), some (.lst true (S.map tN)), some (.dic true 1 (S.map tN) (S.map vT)), x4, x5, x6, x7] ∧ Bfs L w S k
theorem Bfs.next {L : List (List Nat)} {w : List Nat} {S T : List (List Nat)} {k : Nat} (b : Bfs L w (S ++ T) k) (hk : k < S.length) (hc : cl1 L (S ++ T) S[k] S[k].length) : Bfs L w (S ++ T) (k + 1) := by
  refine ⟨b.nd, b.sw, b.hd, fun i hi u hu => ?_⟩
  by_cases e : i = k
  · subst e
    rw [List.getElem?_append_left hk, List.getElem?_eq_getElem hk] at hu
    rw [← Option.some.inj hu]; exact hc
  · exact b.cl i (by omega) u hu
def OrdersOk (g : Callee) : Prop := ∀ (C : Nat) (L : List (List Nat)) (w : List Nat), Alph C L → WIn L w → w.length ≤ 7 → ∃ R : List (List Nat), g [.lst false (L.map tN), .tup (w.map dN)] = .ok (.lst true (R.map tN)) [] ∧ R.Nodup ∧ R.length ≤ 5040 ∧ (R.Pairwise fun a b => nlt b a = false) ∧ ∀ v, v ∈ R ↔ Sw L w v
theorem orders_ok {G : Env0A} {W : Nat} (hF : Has G 8 FreeOk) : OrdersOk (runF G W f_l_orders) := by
  intro C L w hA hw hw7
  have b0 : Bfs L w [w] 0 := ⟨by simp, fun v hv => by rw [List.mem_singleton.mp hv]; exact .refl, by simp, fun i hi => absurd hi (by omega)⟩
  obtain ⟨s', e, S, x4, x5, x6, x7, rfl, hb⟩ := for_st (st := fun s => exs G W [] b_l_orders_2 s) (g := .name 4) dN (List.range 6000) (I_ordO L w)
    (s := [some (.lst false (L.map tN)), some (.tup (w.map dN)), some (.lst true ([w].map tN)), some (.dic true 1 ([w].map tN) ([w].map vT)), none, none, none, none]) ⟨[w], none, none, none, none, rfl, b0⟩ fun k hk s hs => by
      obtain ⟨S, x4, x5, x6, x7, rfl, hb⟩ := hs
      have hg : (List.range 6000)[k]'hk = k := by simp
      have hfew := orders_few hb.nd hb.sw hw7
      by_cases h : k < S.length
      · have huw := (hb.sw _ (List.getElem_mem h)).win hw
        obtain ⟨s', e, T, y6, y7, rfl, hbT, hc⟩ := ord_in (G := G) (W := W) hF hA hw hw7 hb h (List.getElem_mem h) (some (.tup (w.map dN))) (some (.int (k : Nat))) x6 x7
        have h' : (k : Int) < (S.length : Int) := by omega
        have hir : ((S[k].length - 1 : Nat) : Int) < 1000000 := by have := huw.1; omega
        have hbk : Bfs L w (S ++ T) (k + 1) := hbT.next h fun r hr h2 hd => hc r (by omega) h2 hd
        refine ⟨_, [some (.lst false (L.map tN)), some (.tup (w.map dN)), some (.lst true ((S ++ T).map tN)), some (.dic true 1 ((S ++ T).map tN) ((S ++ T).map vT)), some (.int (k : Nat)), some (.tup (S[k].map dN)), y6, y7], rfl, ?_, S ++ T, some (.int (k : Nat)), some (.tup (S[k].map dN)), y6, y7, rfl, hbk⟩
        rw [hg]
        clear hbk hc hbT
        generalize hu : S[k] = u at *
        have hget : S[k]? = some u := by rw [List.getElem?_eq_getElem h, hu]
        have hrr : inR ((u.length : Int) - 1) = true := by simp only [inR, Nat.ble_eq]; have := huw.1; omega
        have hto : ((u.length : Int) - 1).toNat = u.length - 1 := by omega
        generalize S ++ T = S2 at *
        try simp at e
        simp -implicitDefEqProofs [b_l_orders_2, h, h', hget, hu, hrr, hto, e]
      · have h' : ¬ (k : Int) < (S.length : Int) := by omega
        refine ⟨_, [some (.lst false (L.map tN)), some (.tup (w.map dN)), some (.lst true (S.map tN)), some (.dic true 1 (S.map tN) (S.map vT)), some (.int (k : Nat)), x5, x6, x7], rfl, ?_, S, some (.int (k : Nat)), x5, x6, x7, rfl, ⟨hb.nd, hb.sw, hb.hd, fun i hi u hu => ?_⟩⟩
        · rw [hg]
          simp -implicitDefEqProofs [b_l_orders_2, h, h']
        · by_cases e : i = k
          · rw [e, List.getElem?_eq_none (by omega)] at hu; cases hu
          · exact hb.cl i (by omega) u hu
  rw [List.length_range] at hb
  have hfew := orders_few hb.nd hb.sw hw7
  have hall := hb.all (by omega)
  have hp := sortW_perm S
  have hso := sorted_tN (m := true) (S := S) (n := w.length) (by omega) (fun u hu => ((hb.sw u hu).perm.length_eq).symm) (by
    by_cases h0 : 0 < w.length
    · exact .inl h0
    · right
      have hw0 : w = [] := List.length_eq_zero_iff.mp (by omega)
      have := nodup_le (m := [[]]) hb.nd fun x hx => by
        have := (hb.sw x hx).perm
        rw [hw0] at this
        simp [List.Perm.eq_nil this.symm]
      simpa using this)
  refine ⟨sortW S, ?_, (hp.nodup_iff).mpr hb.nd, by rw [hp.length_eq]; omega, sortW_asc S, fun v => by rw [hp.mem_iff]; exact hall v⟩
  have hwl := hw.1
  have hz : w.length ≤ 16777216 := by omega
  have hr6 : inR 6000 = true := by decide
  simp [vT] at e
  generalize sortW S = R at *
  simp -implicitDefEqProofs [runF, f_l_orders_eq, g_l_orders, e, hso, hz, vT, hr6]
/-! Abm44: the law of k05 -/
theorem lf_min {C : Nat} {L : List (List Nat)} (hA : Alph C L) : ∀ (n : Nat) (w v : List Nat), w.length = n → VL C L w → VL C L v → Alk L w v → nlt v (lf L w) = false
  | 0, w, v, hl, hw, hv, h => by
    have : w = [] := List.length_eq_zero_iff.mp hl
    subst this
    have := alk_nil hA hv h
    subst this; rfl
  | n + 1, w, [], hl, hw, hv, h => by
    have := alk_nil hA hw h.symm
    subst this; simp at hl
  | n + 1, w, a :: v, hl, hw, hv, h => by
    obtain ⟨b, h1, h2, h3, h4⟩ := bst_firsts (L := L) (w := w) (by intro e; rw [e] at hl; simp at hl)
    rw [lf_step h1 h2, nlt]
    have hf : Fst L w a := Fst.alk hA hv h.symm fst_cons
    obtain ⟨k, hk, hc, e⟩ := fst_at hf
    have hle := h4 k (mem_firsts.mpr ⟨hk, hc⟩)
    have g1 : w.getD b 0 = w[b] := by simp [h2]
    have g2 : w.getD k 0 = w[k] := by simp [hk]
    rw [g1, g2, e] at hle
    by_cases hab : a = w[b]
    · rw [if_pos hab]
      have h5 := tk_out h2 h3
      rw [← hab] at h5
      have h6 := (h5.trans h).cons_cancel
      refine lf_min hA n (w.eraseIdx b) v ?_ (erase_vl (C := C) hw) (fun x hx => hv x (by simp [hx])) h6
      rw [List.length_eraseIdx, if_pos h2]; omega
    · rw [if_neg hab]
      simp; omega
theorem sw_alk {L : List (List Nat)} {w v : List Nat} (h : Sw L w v) : Alk L w v := by
  induction h with
  | refl => exact Alk.refl w
  | @step u v a b _ hd ih =>
    refine ih.trans fun p => ?_
    simp only [plw_app, plw_cons]
    by_cases ha : p ∈ L.getD a [] <;> by_cases hb : p ∈ L.getD b []
    · rw [dl_of ha hb] at hd; cases hd
    · simp only [if_pos ha, if_neg hb]
    · simp only [if_neg ha, if_pos hb]
    · simp only [if_neg ha, if_neg hb]
theorem head_lf {C : Nat} {L : List (List Nat)} (hA : Alph C L) {w : List Nat} (hw : WIn L w) {R : List (List Nat)} (ha : R.Pairwise fun a b => nlt b a = false) (hm : ∀ v, v ∈ R ↔ Sw L w v) : R[0]? = some (lf L w) := by
  have h1 : lf L w ∈ R := (hm _).mpr (alk_sw hA hw.2 (lf_vl (C := C) hw.2) (lf_alk w).symm)
  cases R with
  | nil => simp at h1
  | cons x R =>
    have hx := (hm x).mp (by simp)
    have h2 := lf_min hA _ w x rfl hw.2 (hx.win hw).2 (sw_alk hx)
    rcases List.mem_cons.mp h1 with e | e
    · rw [e]; rfl
    · have h3 := (List.pairwise_cons.mp ha).1 _ e
      rw [nlt_tri h2 h3]; rfl
theorem law05 {G : Env0A} {W : Nat} (hD : Has G 5 DrawsOk) (hAl : Has G 7 AlphabetOk) (hI : Has G 1 InitOk) (hWd : Has G 14 WordOk) (hSh : Has G 16 ShufOk) (hLf : Has G 30 LeastFOk) (hIl : Has G 32 IsLeastOk) (hO : Has G 234 OrdersOk) (ns : List Int) : runF G W f_law_k05 [.scr ns] = .ok (.bl true) [] := by
  obtain ⟨gD, hgD, hD⟩ := hD
  obtain ⟨gA, hgA, hAl⟩ := hAl
  obtain ⟨gI, hgI, hI⟩ := hI
  obtain ⟨gW, hgW, hWd⟩ := hWd
  obtain ⟨gS, hgS, hSh⟩ := hSh
  obtain ⟨gF, hgF, hLf⟩ := hLf
  obtain ⟨gL, hgL, hIl⟩ := hIl
  obtain ⟨gO, hgO, hO⟩ := hO
  obtain ⟨xs, e1⟩ := hD ns 60 (by decide)
  obtain ⟨C, L, ys, e2, hA, _, _⟩ := hAl xs 3 4 (by decide) (by decide) (by decide) (by decide)
  have e3 := hI C L hA
  obtain ⟨w, zs, e4, hwl, hwa⟩ := hWd ys L.length 7 hA.l1 (by decide)
  have hw : WIn L w := ⟨by omega, hwa⟩
  obtain ⟨v, us, e5, hv⟩ := hSh C L w 10 zs hA hw (by decide)
  have hvw := hv.win hw
  obtain ⟨R, e6, _, hRl, hRa, hRm⟩ := hO C L w hA hw (by omega)
  have hR0 := head_lf hA hw hRa hRm
  have e7 := hLf C L w (.tup (w.map dN)) hA (.inl rfl) hw
  have e8 := hLf C L v (.lst false (v.map dN)) hA (.inr rfl) hvw
  rw [lf_eq hA hvw.2 hw.2 (sw_alk hv).symm] at e8
  have e9 := hIl C L v (.tup (v.map dN)) hA (.inl rfl) hvw
  have hlw := lfW hw
  have e10 := hIl C L (lf L w) (.tup ((lf L w).map dN)) hA (.inl rfl) hlw
  rw [(isl_iff hA hlw.2).mpr (lf_idem hA hw.2)] at e10
  have hq : isl L v = decide (v = lf L w) := by
    rw [Bool.eq_iff_iff, decide_eq_true_eq, isl_iff hA hvw.2, lf_eq hA hvw.2 hw.2 (sw_alk hv).symm]
    exact ⟨fun h => h.symm, fun h => h.symm⟩
  rw [hq] at e9
  have hvl := hvw.1
  have z1 : v.length ≤ 16777216 := by omega
  have e11 : exs G W [] c_law_k05_1 [some (.scr ns), some (.lst true (us.map .int)), some (.int C), some (.lst false (L.map tN)), some (.ins true 0 [.int C, .tup (L.map tN)]), some (.tup (w.map dN)), some (.tup (v.map dN)), none, none] =
      .rt (.bl true) [some (.scr ns), some (.lst true (us.map .int)), some (.int C), some (.lst false (L.map tN)), some (.ins false 0 [.int C, .tup (L.map tN)]), some (.tup (w.map dN)), some (.tup (v.map dN)), some (.tup ((lf L w).map dN)), some (.bl (decide (v = lf L w)))] := by
    generalize lf L w = z at *
    try simp at e6 e7 e8 e9 e10
    by_cases h : v = z
    · subst h
      simp at e9
      simp -implicitDefEqProofs [c_law_k05_1, hgO, hgF, hgL, e6, e7, e8, e9, hR0, z1]
    · simp -implicitDefEqProofs [c_law_k05_1, hgO, hgF, hgL, e6, e7, e8, e9, e10, hR0, z1, h]
  try simp at e1 e2 e4 e5
  simp -implicitDefEqProofs [runF, f_law_k05_eq, g_law_k05, hgD, hgA, hgI, hgW, hgS, e1, e2, e3, e4, e5, e11]
end
end Ab
namespace Ab
open PySem L2
def top (i : Nat) : Stmt := PySem.Challenge.pw_placewords_k05_least_forms.main.body.getD i (.Pass ⟨0, 0, 0, 0⟩)
def att : Nat → Str
  | 0 => "places"
  | 1 => "letters"
  | _ => "?"
def W0 : Nat := 1000000
/-- what the module holds -/
structure Facts (K : PySem.W.Frag) (mg : Str → Option Value) (S : Sig) : Prop where
  hK : S.K = K
  hC : ClsOk K att S
  m_bool : mg "bool" = none
  m_int : mg "int" = none
  m_isinstance : mg "isinstance" = none
  m_len : mg "len" = none
  m_list : mg "list" = none
  m_range : mg "range" = none
  m_set : mg "set" = none
  m_sorted : mg "sorted" = none
  m_tuple : mg "tuple" = none
  g_MOST_LETTERS : ∃ t, mg "MOST_LETTERS" = some (.int 6 t)
  g_MOST_PLACES : ∃ t, mg "MOST_PLACES" = some (.int 4 t)
  rz_InvalidAlphabet : ExFact K mg S 0 "InvalidAlphabet"
variable {P : Program} {w : World} {K : PySem.W.Frag} {mg : Str → Option Value} {base : Heap} {S : Sig}
def G_next_barred : Env0A := fun _ => none
def c_next_barred : Callee := runF G_next_barred W0 f_next_barred
theorem sc_next_barred : FnScope ["dependent", "barred", "letter", "lesser"] ["dependent", "barred", "letter"] (defScope (top 13)) := ⟨rfl, rfl, rfl, by decide +kernel, rfl, by decide +kernel, by decide +kernel⟩
theorem fn_next_barred (Fa : Facts K mg S) {fa : Addr} {fd : FuncData} (F : Fun K "next_barred" "next_barred" (top 13) fa fd) : FnOk P w K mg base (L2.CX P w) 1 fa fd ["dependent", "barred", "letter"] (spA S [] c_next_barred) := by
  refine fn_ok (k := 0) F sc_next_barred rfl rfl (by decide) (by decide) fun cdv A outer s H E hr => ?_
  have c : Ctx (cxOf (L2.CX P w) P w K mg base ["dependent", "barred", "letter", "lesser"] "next_barred" (defScope (top 13)) fa cdv A outer s H E) S att 0 (fun cls d _ H => E cls d H) := ⟨Fa.hK, Fa.hC, hr, sc_next_barred.nd, rfl, takes_def⟩
  have po : PassesOwn (model P w) (cxOf (L2.CX P w) P w K mg base ["dependent", "barred", "letter", "lesser"] "next_barred" (defScope (top 13)) fa cdv A outer s H E).A (cxOf (L2.CX P w) P w K mg base ["dependent", "barred", "letter", "lesser"] "next_barred" (defScope (top 13)) fa cdv A outer s H E).env (cxOf (L2.CX P w) P w K mg base ["dependent", "barred", "letter", "lesser"] "next_barred" (defScope (top 13)) fa cdv A outer s H E).xe := PassesOwn.leaving
  exact (ss_cons (ks_asg c 3 (k_bin .sub (k_bin .shl k_int (k_slot 2)) k_int))
 (ss_cons (ks_ret (k_bin .band (k_bin .bor (k_slot 1) (k_slot 3)) (k_un .inv (k_sub c (k_slot 0) (k_slot 2)))))
 ss_nil))
def G_independent : Env0A := fun _ => none
def c_independent : Callee := runF G_independent W0 f_independent
theorem sc_independent : FnScope ["alphabet", "first", "second", "place"] ["alphabet", "first", "second"] (defScope (top 8)) := ⟨rfl, rfl, rfl, by decide +kernel, rfl, by decide +kernel, by decide +kernel⟩
theorem fn_independent (Fa : Facts K mg S) {fa : Addr} {fd : FuncData} (F : Fun K "independent" "independent" (top 8) fa fd) : FnOk P w K mg base (L2.CX P w) 1 fa fd ["alphabet", "first", "second"] (spA S [] c_independent) := by
  refine fn_ok (k := 0) F sc_independent rfl rfl (by decide) (by decide) fun cdv A outer s H E hr => ?_
  have c : Ctx (cxOf (L2.CX P w) P w K mg base ["alphabet", "first", "second", "place"] "independent" (defScope (top 8)) fa cdv A outer s H E) S att 0 (fun cls d _ H => E cls d H) := ⟨Fa.hK, Fa.hC, hr, sc_independent.nd, rfl, takes_def⟩
  have po : PassesOwn (model P w) (cxOf (L2.CX P w) P w K mg base ["alphabet", "first", "second", "place"] "independent" (defScope (top 8)) fa cdv A outer s H E).A (cxOf (L2.CX P w) P w K mg base ["alphabet", "first", "second", "place"] "independent" (defScope (top 8)) fa cdv A outer s H E).env (cxOf (L2.CX P w) P w K mg base ["alphabet", "first", "second", "place"] "independent" (defScope (top 8)) fa cdv A outer s H E).xe := PassesOwn.leaving
  exact (ss_cons (ks_for c po (kg_name c 3) (ki_of (k_sub c (k_fld (j := 1) c (k_slot 0)) (k_slot 1))) fun fx => (ss_cons (s_ite (kt_cmp .inn c (k_slot 3) (k_sub c (k_fld (j := 1) c (k_slot 0)) (k_slot 2))) (ss_cons (ks_ret k_bl)
 ss_nil) ss_nil)
 ss_nil))
 (ss_cons (ks_ret k_bl)
 ss_nil))
def G_masks : Env0A
  | 2 => some c_independent
  | _ => none
def c_masks : Callee := runF G_masks W0 f_masks
theorem sc_masks : FnScope ["alphabet", "found", "first", "mask", "second"] ["alphabet"] (defScope (top 9)) := ⟨rfl, rfl, rfl, by decide +kernel, rfl, by decide +kernel, by decide +kernel⟩
theorem fn_masks (Fa : Facts K mg S) (Lb2 : LibFn P w K mg base S [] c_independent 1 "independent") {fa : Addr} {fd : FuncData} (F : Fun K "masks" "masks" (top 9) fa fd) : FnOk P w K mg base (L2.CX P w) 2 fa fd ["alphabet"] (spA S [] c_masks) := by
  refine fn_ok (k := 1) F sc_masks rfl rfl (by decide) (by decide) fun cdv A outer s H E hr => ?_
  have c : Ctx (cxOf (L2.CX P w) P w K mg base ["alphabet", "found", "first", "mask", "second"] "masks" (defScope (top 9)) fa cdv A outer s H E) S att 1 (fun cls d _ H => E cls d H) := ⟨Fa.hK, Fa.hC, hr, sc_masks.nd, rfl, takes_def⟩
  have po : PassesOwn (model P w) (cxOf (L2.CX P w) P w K mg base ["alphabet", "found", "first", "mask", "second"] "masks" (defScope (top 9)) fa cdv A outer s H E).A (cxOf (L2.CX P w) P w K mg base ["alphabet", "found", "first", "mask", "second"] "masks" (defScope (top 9)) fa cdv A outer s H E).env (cxOf (L2.CX P w) P w K mg base ["alphabet", "found", "first", "mask", "second"] "masks" (defScope (top 9)) fa cdv A outer s H E).xe := PassesOwn.leaving
  exact (ss_cons (ks_asg c 1 (c_lst c_nil))
 (ss_cons (ks_for c po (kg_name c 2) (ki_r1 Fa.m_range (k_len c Fa.m_len (k_fld (j := 1) c (k_slot 0)))) fun fx => (ss_cons (ks_asg c 3 k_int)
 (ss_cons (ks_for c po (kg_name c 4) (ki_r1 Fa.m_range (k_len c Fa.m_len (k_fld (j := 1) c (k_slot 0)))) fun fx => (ss_cons (s_ite (t_not (kt_val (k_call c Lb2 rfl (k_rd (k_slot 0) (k_rd (k_slot 2) (k_rd (k_slot 4) a_nil)))))) (ss_cons (ks_asg c 3 (k_bin .bor (k_slot 3) (k_bin .shl k_int (k_slot 4))))
 ss_nil) ss_nil)
 ss_nil))
 (ss_cons (ks_append c (kp_slot 1) (k_slot 3))
 ss_nil))))
 (ss_cons (ks_retS 1)
 ss_nil)))
def G_is_least : Env0A
  | 31 => some c_next_barred
  | 24 => some c_masks
  | _ => none
def c_is_least : Callee := runF G_is_least W0 f_is_least
theorem sc_is_least : FnScope ["alphabet", "word", "dependent", "barred", "letter"] ["alphabet", "word"] (defScope (top 14)) := ⟨rfl, rfl, rfl, by decide +kernel, rfl, by decide +kernel, by decide +kernel⟩
theorem fn_is_least (Fa : Facts K mg S) (Lb31 : LibFn P w K mg base S [] c_next_barred 1 "next_barred") (Lb24 : LibFn P w K mg base S [] c_masks 2 "masks") {fa : Addr} {fd : FuncData} (F : Fun K "is_least" "is_least" (top 14) fa fd) : FnOk P w K mg base (L2.CX P w) 3 fa fd ["alphabet", "word"] (spA S [] c_is_least) := by
  refine fn_ok (k := 2) F sc_is_least rfl rfl (by decide) (by decide) fun cdv A outer s H E hr => ?_
  have c : Ctx (cxOf (L2.CX P w) P w K mg base ["alphabet", "word", "dependent", "barred", "letter"] "is_least" (defScope (top 14)) fa cdv A outer s H E) S att 2 (fun cls d _ H => E cls d H) := ⟨Fa.hK, Fa.hC, hr, sc_is_least.nd, rfl, takes_def⟩
  have po : PassesOwn (model P w) (cxOf (L2.CX P w) P w K mg base ["alphabet", "word", "dependent", "barred", "letter"] "is_least" (defScope (top 14)) fa cdv A outer s H E).A (cxOf (L2.CX P w) P w K mg base ["alphabet", "word", "dependent", "barred", "letter"] "is_least" (defScope (top 14)) fa cdv A outer s H E).env (cxOf (L2.CX P w) P w K mg base ["alphabet", "word", "dependent", "barred", "letter"] "is_least" (defScope (top 14)) fa cdv A outer s H E).xe := PassesOwn.leaving
  exact (ss_cons (ks_asg c 2 (k_call c Lb24 rfl (k_rd (k_slot 0) a_nil)))
 (ss_cons (ks_asg c 3 k_int)
 (ss_cons (ks_for c po (kg_name c 4) (ki_slot 1) fun fx => (ss_cons (s_ite (kt_cmp .eq c (k_bin .band (k_bin .shr (k_slot 3) (k_slot 4)) k_int) k_int) (ss_cons (ks_ret k_bl)
 ss_nil) ss_nil)
 (ss_cons (ks_asg c 3 (k_call c Lb31 rfl (k_rd (k_slot 2) (k_rd (k_slot 3) (k_rd (k_slot 4) a_nil)))))
 ss_nil)))
 (ss_cons (ks_ret k_bl)
 ss_nil))))
def G_first_letters : Env0A
  | 24 => some c_masks
  | _ => none
def c_first_letters : Callee := runF G_first_letters W0 f_first_letters
theorem sc_first_letters : FnScope ["alphabet", "word", "found", "blocked", "dependent", "k"] ["alphabet", "word"] (defScope (top 11)) := ⟨rfl, rfl, rfl, by decide +kernel, rfl, by decide +kernel, by decide +kernel⟩
theorem fn_first_letters (Fa : Facts K mg S) (Lb24 : LibFn P w K mg base S [] c_masks 2 "masks") {fa : Addr} {fd : FuncData} (F : Fun K "first_letters" "first_letters" (top 11) fa fd) : FnOk P w K mg base (L2.CX P w) 3 fa fd ["alphabet", "word"] (spA S [] c_first_letters) := by
  refine fn_ok (k := 2) F sc_first_letters rfl rfl (by decide) (by decide) fun cdv A outer s H E hr => ?_
  have c : Ctx (cxOf (L2.CX P w) P w K mg base ["alphabet", "word", "found", "blocked", "dependent", "k"] "first_letters" (defScope (top 11)) fa cdv A outer s H E) S att 2 (fun cls d _ H => E cls d H) := ⟨Fa.hK, Fa.hC, hr, sc_first_letters.nd, rfl, takes_def⟩
  have po : PassesOwn (model P w) (cxOf (L2.CX P w) P w K mg base ["alphabet", "word", "found", "blocked", "dependent", "k"] "first_letters" (defScope (top 11)) fa cdv A outer s H E).A (cxOf (L2.CX P w) P w K mg base ["alphabet", "word", "found", "blocked", "dependent", "k"] "first_letters" (defScope (top 11)) fa cdv A outer s H E).env (cxOf (L2.CX P w) P w K mg base ["alphabet", "word", "found", "blocked", "dependent", "k"] "first_letters" (defScope (top 11)) fa cdv A outer s H E).xe := PassesOwn.leaving
  exact (ss_cons (ks_asg c 2 (c_lst c_nil))
 (ss_cons (ks_asg c 3 k_int)
 (ss_cons (ks_asg c 4 (k_call c Lb24 rfl (k_rd (k_slot 0) a_nil)))
 (ss_cons (ks_for c po (kg_name c 5) (ki_r1 Fa.m_range (k_len c Fa.m_len (k_slot 1))) fun fx => (ss_cons (s_ite (kt_cmp .eq c (k_bin .band (k_bin .shr (k_slot 3) (k_sub c (k_slot 1) (k_slot 5))) k_int) k_int) (ss_cons (ks_append c (kp_slot 2) (k_slot 5))
 ss_nil) ss_nil)
 (ss_cons (ks_asg c 3 (k_bin .bor (k_slot 3) (k_sub c (k_slot 4) (k_sub c (k_slot 1) (k_slot 5)))))
 ss_nil)))
 (ss_cons (ks_retS 2)
 ss_nil)))))
def G_least_form : Env0A
  | 29 => some c_first_letters
  | _ => none
def c_least_form : Callee := runF G_least_form W0 f_least_form
theorem sc_least_form : FnScope ["alphabet", "word", "rest", "found", "best", "k"] ["alphabet", "word"] (defScope (top 12)) := ⟨rfl, rfl, rfl, by decide +kernel, rfl, by decide +kernel, by decide +kernel⟩
theorem fn_least_form (Fa : Facts K mg S) (Lb29 : LibFn P w K mg base S [] c_first_letters 3 "first_letters") {fa : Addr} {fd : FuncData} (F : Fun K "least_form" "least_form" (top 12) fa fd) : FnOk P w K mg base (L2.CX P w) 4 fa fd ["alphabet", "word"] (spA S [] c_least_form) := by
  refine fn_ok (k := 3) F sc_least_form rfl rfl (by decide) (by decide) fun cdv A outer s H E hr => ?_
  have c : Ctx (cxOf (L2.CX P w) P w K mg base ["alphabet", "word", "rest", "found", "best", "k"] "least_form" (defScope (top 12)) fa cdv A outer s H E) S att 3 (fun cls d _ H => E cls d H) := ⟨Fa.hK, Fa.hC, hr, sc_least_form.nd, rfl, takes_def⟩
  have po : PassesOwn (model P w) (cxOf (L2.CX P w) P w K mg base ["alphabet", "word", "rest", "found", "best", "k"] "least_form" (defScope (top 12)) fa cdv A outer s H E).A (cxOf (L2.CX P w) P w K mg base ["alphabet", "word", "rest", "found", "best", "k"] "least_form" (defScope (top 12)) fa cdv A outer s H E).env (cxOf (L2.CX P w) P w K mg base ["alphabet", "word", "rest", "found", "best", "k"] "least_form" (defScope (top 12)) fa cdv A outer s H E).xe := PassesOwn.leaving
  exact (ss_cons (ks_asg c 2 (k_list c Fa.m_list (k_slot 1)))
 (ss_cons (ks_asg c 3 (c_lst c_nil))
 (ss_cons (s_while po (kt_cmp .gt c (k_len c Fa.m_len (k_slot 2)) k_int) (ss_cons (ks_asg c 4 (k_un .neg k_int))
 (ss_cons (ks_for c po (kg_name c 5) (ki_of (k_call c Lb29 rfl (k_rd (k_slot 0) (k_bor 2 a_nil)))) fun fx => (ss_cons (s_ite (t_or (kt_cmp .lt c (k_slot 4) k_int) (pw_or1 (kt_cmp .lt c (k_sub c (k_slot 2) (k_slot 5)) (k_sub c (k_slot 2) (k_slot 4))))).pt (ss_cons (ks_asg c 4 (k_slot 5))
 ss_nil) ss_nil)
 ss_nil))
 (ss_cons (ks_append c (kp_slot 3) (k_popAt 2 (k_slot 4)))
 ss_nil))))
 (ss_cons (ks_ret (k_tuple c Fa.m_tuple (k_slot 3)))
 ss_nil))))
def G_l_free : Env0A := fun _ => none
def c_l_free : Callee := runF G_l_free W0 f_l_free
theorem sc_l_free : FnScope ["_law_letters", "_law_first", "_law_second", "_law_place"] ["_law_letters", "_law_first", "_law_second"] (defScope (top 19)) := ⟨rfl, rfl, rfl, by decide +kernel, rfl, by decide +kernel, by decide +kernel⟩
theorem fn_l_free (Fa : Facts K mg S) {fa : Addr} {fd : FuncData} (F : Fun K "_law_free" "_law_free" (top 19) fa fd) : FnOk P w K mg base (L2.CX P w) 1 fa fd ["_law_letters", "_law_first", "_law_second"] (spA S [] c_l_free) := by
  refine fn_ok (k := 0) F sc_l_free rfl rfl (by decide) (by decide) fun cdv A outer s H E hr => ?_
  have c : Ctx (cxOf (L2.CX P w) P w K mg base ["_law_letters", "_law_first", "_law_second", "_law_place"] "_law_free" (defScope (top 19)) fa cdv A outer s H E) S att 0 (fun cls d _ H => E cls d H) := ⟨Fa.hK, Fa.hC, hr, sc_l_free.nd, rfl, takes_def⟩
  have po : PassesOwn (model P w) (cxOf (L2.CX P w) P w K mg base ["_law_letters", "_law_first", "_law_second", "_law_place"] "_law_free" (defScope (top 19)) fa cdv A outer s H E).A (cxOf (L2.CX P w) P w K mg base ["_law_letters", "_law_first", "_law_second", "_law_place"] "_law_free" (defScope (top 19)) fa cdv A outer s H E).env (cxOf (L2.CX P w) P w K mg base ["_law_letters", "_law_first", "_law_second", "_law_place"] "_law_free" (defScope (top 19)) fa cdv A outer s H E).xe := PassesOwn.leaving
  exact (ss_cons (ks_ret (k_cmp .eq c (k_len c Fa.m_len (k_comp c 3 (ki_of (k_sub c (k_slot 0) (k_slot 1))) (fun s H C cl fp c => (k_slot 3)) (fun s H C cl fp c => t_some (kt_cmp .inn c (k_slot 3) (k_sub c (k_slot 0) (k_slot 2)))))) k_int))
 ss_nil)
def G_l_orders : Env0A
  | 8 => some c_l_free
  | _ => none
def c_l_orders : Callee := runF G_l_orders W0 f_l_orders
theorem sc_l_orders : FnScope ["_law_letters", "_law_word_here", "_law_found", "_law_seen", "_law_number", "_law_one", "_law_at", "_law_other"] ["_law_letters", "_law_word_here"] (defScope (top 22)) := ⟨rfl, rfl, rfl, by decide +kernel, rfl, by decide +kernel, by decide +kernel⟩
theorem fn_l_orders (Fa : Facts K mg S) (Lb8 : LibFn P w K mg base S [] c_l_free 1 "_law_free") {fa : Addr} {fd : FuncData} (F : Fun K "_law_orders" "_law_orders" (top 22) fa fd) : FnOk P w K mg base (L2.CX P w) 2 fa fd ["_law_letters", "_law_word_here"] (spA S [] c_l_orders) := by
  refine fn_ok (k := 1) F sc_l_orders rfl rfl (by decide) (by decide) fun cdv A outer s H E hr => ?_
  have c : Ctx (cxOf (L2.CX P w) P w K mg base ["_law_letters", "_law_word_here", "_law_found", "_law_seen", "_law_number", "_law_one", "_law_at", "_law_other"] "_law_orders" (defScope (top 22)) fa cdv A outer s H E) S att 1 (fun cls d _ H => E cls d H) := ⟨Fa.hK, Fa.hC, hr, sc_l_orders.nd, rfl, takes_def⟩
  have po : PassesOwn (model P w) (cxOf (L2.CX P w) P w K mg base ["_law_letters", "_law_word_here", "_law_found", "_law_seen", "_law_number", "_law_one", "_law_at", "_law_other"] "_law_orders" (defScope (top 22)) fa cdv A outer s H E).A (cxOf (L2.CX P w) P w K mg base ["_law_letters", "_law_word_here", "_law_found", "_law_seen", "_law_number", "_law_one", "_law_at", "_law_other"] "_law_orders" (defScope (top 22)) fa cdv A outer s H E).env (cxOf (L2.CX P w) P w K mg base ["_law_letters", "_law_word_here", "_law_found", "_law_seen", "_law_number", "_law_one", "_law_at", "_law_other"] "_law_orders" (defScope (top 22)) fa cdv A outer s H E).xe := PassesOwn.leaving
  exact (ss_cons (ks_asg c 2 (c_lst (k_cons (k_tuple c Fa.m_tuple (k_slot 1)) c_nil)))
 (ss_cons (ks_asg c 3 (k_dlit c 1 (k_tuple c Fa.m_tuple (k_slot 1)) k_bl))
 (ss_cons (ks_for c po (kg_name c 4) (ki_r1 Fa.m_range k_int) fun fx => (ss_cons (s_ite (kt_cmp .lt c (k_slot 4) (k_len c Fa.m_len (k_slot 2))) (ss_cons (ks_asg c 5 (k_sub c (k_slot 2) (k_slot 4)))
 (ss_cons (ks_for c po (kg_name c 6) (ki_r1 Fa.m_range (k_bin .sub (k_len c Fa.m_len (k_slot 5)) k_int)) fun fx => (ss_cons (s_ite (kt_val (k_call c Lb8 rfl (k_rd (k_slot 0) (k_rd (k_sub c (k_slot 5) (k_slot 6)) (k_rd (k_sub c (k_slot 5) (k_bin .add (k_slot 6) k_int)) a_nil))))) (ss_cons (ks_asg c 7 (k_bin .add (k_bin .add (c_slc (k_slot 5) c_onone (c_osome (k_slot 6))) (c_tup (k_cons (k_sub c (k_slot 5) (k_bin .add (k_slot 6) k_int)) (k_cons (k_sub c (k_slot 5) (k_slot 6)) c_nil)))) (c_slc (k_slot 5) (c_osome (k_bin .add (k_slot 6) k_int)) c_onone)))
 (ss_cons (s_ite (kt_cmp .nin c (k_slot 7) (k_slot 3)) (ss_cons (ks_dset c 3 (k_slot 7) k_bl)
 (ss_cons (ks_append c (kp_slot 2) (k_slot 7))
 ss_nil)) ss_nil)
 ss_nil)) ss_nil)
 ss_nil))
 ss_nil)) ss_nil)
 ss_nil))
 (ss_cons (ks_ret (k_sorted c Fa.m_sorted (k_slot 2)))
 ss_nil))))
def G_l_take : Env0A := fun _ => none
def c_l_take : Callee := runF G_l_take W0 f_l_take
theorem sc_l_take : FnScope ["_law_draws_here", "_law_limit"] ["_law_draws_here", "_law_limit"] (defScope (top 17)) := ⟨rfl, rfl, rfl, by decide +kernel, rfl, by decide +kernel, by decide +kernel⟩
theorem fn_l_take (Fa : Facts K mg S) {fa : Addr} {fd : FuncData} (F : Fun K "_law_take" "_law_take" (top 17) fa fd) : FnOk P w K mg base (L2.CX P w) 1 fa fd ["_law_draws_here", "_law_limit"] (spA S [0] c_l_take) := by
  refine fn_ok (k := 0) F sc_l_take rfl rfl (by decide) (by decide) fun cdv A outer s H E hr => ?_
  have c : Ctx (cxOf (L2.CX P w) P w K mg base ["_law_draws_here", "_law_limit"] "_law_take" (defScope (top 17)) fa cdv A outer s H E) S att 0 (fun cls d _ H => E cls d H) := ⟨Fa.hK, Fa.hC, hr, sc_l_take.nd, rfl, takes_def⟩
  have po : PassesOwn (model P w) (cxOf (L2.CX P w) P w K mg base ["_law_draws_here", "_law_limit"] "_law_take" (defScope (top 17)) fa cdv A outer s H E).A (cxOf (L2.CX P w) P w K mg base ["_law_draws_here", "_law_limit"] "_law_take" (defScope (top 17)) fa cdv A outer s H E).env (cxOf (L2.CX P w) P w K mg base ["_law_draws_here", "_law_limit"] "_law_take" (defScope (top 17)) fa cdv A outer s H E).xe := PassesOwn.leaving
  exact (ss_cons (s_ite (kt_cmp .eq c (k_len c Fa.m_len (k_slot 0)) k_int) (ss_cons (ks_ret k_int)
 ss_nil) ss_nil)
 (ss_cons (ks_ret (k_bin .mod (k_intF Fa.m_int (k_pop 0)) (k_slot 1)))
 ss_nil))
def G_l_shuffled : Env0A
  | 8 => some c_l_free
  | 6 => some c_l_take
  | _ => none
def c_l_shuffled : Callee := runF G_l_shuffled W0 f_l_shuffled
theorem sc_l_shuffled : FnScope ["_law_draws_here", "_law_letters", "_law_word_here", "_law_times", "_law_found", "_law_k", "_law_at", "_law_one"] ["_law_draws_here", "_law_letters", "_law_word_here", "_law_times"] (defScope (top 21)) := ⟨rfl, rfl, rfl, by decide +kernel, rfl, by decide +kernel, by decide +kernel⟩
theorem fn_l_shuffled (Fa : Facts K mg S) (Lb8 : LibFn P w K mg base S [] c_l_free 1 "_law_free") (Lb6 : LibFn P w K mg base S [0] c_l_take 1 "_law_take") {fa : Addr} {fd : FuncData} (F : Fun K "_law_shuffled" "_law_shuffled" (top 21) fa fd) : FnOk P w K mg base (L2.CX P w) 2 fa fd ["_law_draws_here", "_law_letters", "_law_word_here", "_law_times"] (spA S [0] c_l_shuffled) := by
  refine fn_ok (k := 1) F sc_l_shuffled rfl rfl (by decide) (by decide) fun cdv A outer s H E hr => ?_
  have c : Ctx (cxOf (L2.CX P w) P w K mg base ["_law_draws_here", "_law_letters", "_law_word_here", "_law_times", "_law_found", "_law_k", "_law_at", "_law_one"] "_law_shuffled" (defScope (top 21)) fa cdv A outer s H E) S att 1 (fun cls d _ H => E cls d H) := ⟨Fa.hK, Fa.hC, hr, sc_l_shuffled.nd, rfl, takes_def⟩
  have po : PassesOwn (model P w) (cxOf (L2.CX P w) P w K mg base ["_law_draws_here", "_law_letters", "_law_word_here", "_law_times", "_law_found", "_law_k", "_law_at", "_law_one"] "_law_shuffled" (defScope (top 21)) fa cdv A outer s H E).A (cxOf (L2.CX P w) P w K mg base ["_law_draws_here", "_law_letters", "_law_word_here", "_law_times", "_law_found", "_law_k", "_law_at", "_law_one"] "_law_shuffled" (defScope (top 21)) fa cdv A outer s H E).env (cxOf (L2.CX P w) P w K mg base ["_law_draws_here", "_law_letters", "_law_word_here", "_law_times", "_law_found", "_law_k", "_law_at", "_law_one"] "_law_shuffled" (defScope (top 21)) fa cdv A outer s H E).xe := PassesOwn.leaving
  exact (ss_cons (ks_asg c 4 (k_list c Fa.m_list (k_slot 2)))
 (ss_cons (ks_for c po (kg_name c 5) (ki_r1 Fa.m_range (k_slot 3)) fun fx => (ss_cons (s_ite (kt_cmp .gt c (k_len c Fa.m_len (k_slot 4)) k_int) (ss_cons (ks_asg c 6 (k_call c Lb6 rfl (k_mv 0 (k_rd (k_bin .sub (k_len c Fa.m_len (k_slot 4)) k_int) a_nil))))
 (ss_cons (s_ite (kt_val (k_call c Lb8 rfl (k_rd (k_slot 1) (k_rd (k_sub c (k_slot 4) (k_slot 6)) (k_rd (k_sub c (k_slot 4) (k_bin .add (k_slot 6) k_int)) a_nil))))) (ss_cons (ks_asg c 7 (k_sub c (k_slot 4) (k_slot 6)))
 (ss_cons (ks_setI c (kp_slot 4) (k_slot 6) (k_sub c (k_slot 4) (k_bin .add (k_slot 6) k_int)))
 (ss_cons (ks_setI c (kp_slot 4) (k_bin .add (k_slot 6) k_int) (k_slot 7))
 ss_nil))) ss_nil)
 ss_nil)) ss_nil)
 ss_nil))
 (ss_cons (ks_ret (k_tuple c Fa.m_tuple (k_slot 4)))
 ss_nil)))
def G_l_word : Env0A
  | 6 => some c_l_take
  | _ => none
def c_l_word : Callee := runF G_l_word W0 f_l_word
theorem sc_l_word : FnScope ["_law_draws_here", "_law_letters", "_law_most", "_law_k"] ["_law_draws_here", "_law_letters", "_law_most"] (defScope (top 20)) := ⟨rfl, rfl, rfl, by decide +kernel, rfl, by decide +kernel, by decide +kernel⟩
theorem fn_l_word (Fa : Facts K mg S) (Lb6 : LibFn P w K mg base S [0] c_l_take 1 "_law_take") {fa : Addr} {fd : FuncData} (F : Fun K "_law_word" "_law_word" (top 20) fa fd) : FnOk P w K mg base (L2.CX P w) 2 fa fd ["_law_draws_here", "_law_letters", "_law_most"] (spA S [0] c_l_word) := by
  refine fn_ok (k := 1) F sc_l_word rfl rfl (by decide) (by decide) fun cdv A outer s H E hr => ?_
  have c : Ctx (cxOf (L2.CX P w) P w K mg base ["_law_draws_here", "_law_letters", "_law_most", "_law_k"] "_law_word" (defScope (top 20)) fa cdv A outer s H E) S att 1 (fun cls d _ H => E cls d H) := ⟨Fa.hK, Fa.hC, hr, sc_l_word.nd, rfl, takes_def⟩
  have po : PassesOwn (model P w) (cxOf (L2.CX P w) P w K mg base ["_law_draws_here", "_law_letters", "_law_most", "_law_k"] "_law_word" (defScope (top 20)) fa cdv A outer s H E).A (cxOf (L2.CX P w) P w K mg base ["_law_draws_here", "_law_letters", "_law_most", "_law_k"] "_law_word" (defScope (top 20)) fa cdv A outer s H E).env (cxOf (L2.CX P w) P w K mg base ["_law_draws_here", "_law_letters", "_law_most", "_law_k"] "_law_word" (defScope (top 20)) fa cdv A outer s H E).xe := PassesOwn.leaving
  exact (ss_cons (ks_ret (k_tuple c Fa.m_tuple (k_comp c 3 (ki_r1 Fa.m_range (k_call c Lb6 rfl (k_mv 0 (k_rd (k_bin .add (k_slot 2) k_int) a_nil)))) (fun s H C cl fp c => (k_call c Lb6 rfl (k_mv 0 (k_rd (k_slot 1) a_nil)))) (fun s H C cl fp c => t_none))))
 ss_nil)
def G_l_alphabet : Env0A
  | 6 => some c_l_take
  | _ => none
def c_l_alphabet : Callee := runF G_l_alphabet W0 f_l_alphabet
theorem sc_l_alphabet : FnScope ["_law_draws_here", "_law_places", "_law_most", "_law_count", "_law_letters", "_law_k", "_law_size", "_law_there", "_law_j"] ["_law_draws_here", "_law_places", "_law_most"] (defScope (top 18)) := ⟨rfl, rfl, rfl, by decide +kernel, rfl, by decide +kernel, by decide +kernel⟩
theorem fn_l_alphabet (Fa : Facts K mg S) (Lb6 : LibFn P w K mg base S [0] c_l_take 1 "_law_take") {fa : Addr} {fd : FuncData} (F : Fun K "_law_alphabet" "_law_alphabet" (top 18) fa fd) : FnOk P w K mg base (L2.CX P w) 2 fa fd ["_law_draws_here", "_law_places", "_law_most"] (spA S [0] c_l_alphabet) := by
  refine fn_ok (k := 1) F sc_l_alphabet rfl rfl (by decide) (by decide) fun cdv A outer s H E hr => ?_
  have c : Ctx (cxOf (L2.CX P w) P w K mg base ["_law_draws_here", "_law_places", "_law_most", "_law_count", "_law_letters", "_law_k", "_law_size", "_law_there", "_law_j"] "_law_alphabet" (defScope (top 18)) fa cdv A outer s H E) S att 1 (fun cls d _ H => E cls d H) := ⟨Fa.hK, Fa.hC, hr, sc_l_alphabet.nd, rfl, takes_def⟩
  have po : PassesOwn (model P w) (cxOf (L2.CX P w) P w K mg base ["_law_draws_here", "_law_places", "_law_most", "_law_count", "_law_letters", "_law_k", "_law_size", "_law_there", "_law_j"] "_law_alphabet" (defScope (top 18)) fa cdv A outer s H E).A (cxOf (L2.CX P w) P w K mg base ["_law_draws_here", "_law_places", "_law_most", "_law_count", "_law_letters", "_law_k", "_law_size", "_law_there", "_law_j"] "_law_alphabet" (defScope (top 18)) fa cdv A outer s H E).env (cxOf (L2.CX P w) P w K mg base ["_law_draws_here", "_law_places", "_law_most", "_law_count", "_law_letters", "_law_k", "_law_size", "_law_there", "_law_j"] "_law_alphabet" (defScope (top 18)) fa cdv A outer s H E).xe := PassesOwn.leaving
  exact (ss_cons (ks_asg c 3 (k_bin .add k_int (k_call c Lb6 rfl (k_mv 0 (k_rd (k_slot 1) a_nil)))))
 (ss_cons (ks_asg c 4 (c_lst c_nil))
 (ss_cons (ks_for c po (kg_name c 5) (ki_r1 Fa.m_range (k_bin .add k_int (k_call c Lb6 rfl (k_mv 0 (k_rd (k_slot 2) a_nil))))) fun fx => (ss_cons (ks_asg c 6 (k_sub c (c_lst (k_cons k_int (k_cons k_int (k_cons k_int (k_cons k_int (k_cons k_int (k_cons k_int c_nil))))))) (k_call c Lb6 rfl (k_mv 0 (k_rd k_int a_nil)))))
 (ss_cons (ks_setLc c 7 8 (ki_r1 Fa.m_range (k_slot 6)) (fun s H C cl fp c => (k_call c Lb6 rfl (k_mv 0 (k_rd (k_slot 3) a_nil)))) (fun s H C cl fp c => t_none))
 (ss_cons (ks_append c (kp_slot 4) (k_tuple c Fa.m_tuple (k_sset c Fa.m_sorted Fa.m_set (k_slot 7))))
 ss_nil))))
 (ss_cons (ks_ret (c_tup (k_cons (k_slot 3) (k_cons (k_slot 4) c_nil))))
 ss_nil))))
def G_l_draws : Env0A := fun _ => none
def c_l_draws : Callee := runF G_l_draws W0 f_l_draws
theorem sc_l_draws : FnScope ["_law_script", "_law_count", "_law_cells", "_law_found", "_law_mixed", "_law_k", "_law_j", "_law_cell", "_law_again"] ["_law_script", "_law_count"] (defScope (top 16)) := ⟨rfl, rfl, rfl, by decide +kernel, rfl, by decide +kernel, by decide +kernel⟩
theorem fn_l_draws (Fa : Facts K mg S) {fa : Addr} {fd : FuncData} (F : Fun K "_law_draws" "_law_draws" (top 16) fa fd) : FnOk P w K mg base (L2.CX P w) 1 fa fd ["_law_script", "_law_count"] (spA S [] c_l_draws) := by
  refine fn_ok (k := 0) F sc_l_draws rfl rfl (by decide) (by decide) fun cdv A outer s H E hr => ?_
  have c : Ctx (cxOf (L2.CX P w) P w K mg base ["_law_script", "_law_count", "_law_cells", "_law_found", "_law_mixed", "_law_k", "_law_j", "_law_cell", "_law_again"] "_law_draws" (defScope (top 16)) fa cdv A outer s H E) S att 0 (fun cls d _ H => E cls d H) := ⟨Fa.hK, Fa.hC, hr, sc_l_draws.nd, rfl, takes_def⟩
  have po : PassesOwn (model P w) (cxOf (L2.CX P w) P w K mg base ["_law_script", "_law_count", "_law_cells", "_law_found", "_law_mixed", "_law_k", "_law_j", "_law_cell", "_law_again"] "_law_draws" (defScope (top 16)) fa cdv A outer s H E).A (cxOf (L2.CX P w) P w K mg base ["_law_script", "_law_count", "_law_cells", "_law_found", "_law_mixed", "_law_k", "_law_j", "_law_cell", "_law_again"] "_law_draws" (defScope (top 16)) fa cdv A outer s H E).env (cxOf (L2.CX P w) P w K mg base ["_law_script", "_law_count", "_law_cells", "_law_found", "_law_mixed", "_law_k", "_law_j", "_law_cell", "_law_again"] "_law_draws" (defScope (top 16)) fa cdv A outer s H E).xe := PassesOwn.leaving
  exact (ss_cons (ks_asg c 2 (k_list c Fa.m_list (k_slot 0)))
 (ss_cons (s_ite (kt_cmp .eq c (k_len c Fa.m_len (k_slot 2)) k_int) (ss_cons (ks_asg c 2 (c_lst (k_cons k_int c_nil)))
 ss_nil) ss_nil)
 (ss_cons (ks_asg c 3 (c_lst c_nil))
 (ss_cons (ks_asg c 4 k_int)
 (ss_cons (ks_for c po (kg_name c 5) (ki_r1 Fa.m_range (k_slot 1)) fun fx => (ss_cons (ks_asg c 6 (k_bin .mod (k_slot 5) (k_len c Fa.m_len (k_slot 2))))
 (ss_cons (ks_asg c 7 (k_sub c (k_slot 2) (k_slot 6)))
 (ss_cons (ks_asg c 4 (k_bin .mod (k_intF Fa.m_int (k_bin .add (k_bin .add (k_bin .add (k_bin .mul (k_slot 4) k_int) (k_bin .mul (k_bin .mod (k_intF Fa.m_int (k_slot 7)) k_int) k_int)) (k_bin .mul (k_slot 5) k_int)) k_int)) k_int))
 (ss_cons (ks_asg c 8 (k_bin .mod (k_intF Fa.m_int (k_bin .add (k_bin .add (k_bin .mul (k_slot 4) (k_slot 4)) (k_bin .mul k_int (k_slot 4))) (k_slot 5))) k_int))
 (ss_cons (s_ite (kt_cmp .ge c (k_slot 7) (k_bin .pow k_int k_int)) (ss_cons (ks_append c (kp_slot 3) (k_bin .mod (k_intF Fa.m_int (k_slot 7)) k_int))
 (ss_cons (ks_setI c (kp_slot 2) (k_slot 6) (k_bin .fdiv (k_slot 7) k_int))
 ss_nil)) (ss_cons (ks_append c (kp_slot 3) (k_bin .mod (k_intF Fa.m_int (k_slot 8)) k_int))
 ss_nil))
 ss_nil))))))
 (ss_cons (ks_reverse c (kp_slot 3))
 (ss_cons (ks_retS 3)
 ss_nil)))))))
def G_fits : Env0A := fun _ => none
def c_fits : Callee := runF G_fits W0 f_fits
theorem sc_fits : FnScope ["letter", "places", "k"] ["letter", "places"] (defScope (top 6)) := ⟨rfl, rfl, rfl, by decide +kernel, rfl, by decide +kernel, by decide +kernel⟩
theorem fn_fits (Fa : Facts K mg S) {fa : Addr} {fd : FuncData} (F : Fun K "fits" "fits" (top 6) fa fd) : FnOk P w K mg base (L2.CX P w) 1 fa fd ["letter", "places"] (spA S [] c_fits) := by
  refine fn_ok (k := 0) F sc_fits rfl rfl (by decide) (by decide) fun cdv A outer s H E hr => ?_
  have c : Ctx (cxOf (L2.CX P w) P w K mg base ["letter", "places", "k"] "fits" (defScope (top 6)) fa cdv A outer s H E) S att 0 (fun cls d _ H => E cls d H) := ⟨Fa.hK, Fa.hC, hr, sc_fits.nd, rfl, takes_def⟩
  have po : PassesOwn (model P w) (cxOf (L2.CX P w) P w K mg base ["letter", "places", "k"] "fits" (defScope (top 6)) fa cdv A outer s H E).A (cxOf (L2.CX P w) P w K mg base ["letter", "places", "k"] "fits" (defScope (top 6)) fa cdv A outer s H E).env (cxOf (L2.CX P w) P w K mg base ["letter", "places", "k"] "fits" (defScope (top 6)) fa cdv A outer s H E).xe := PassesOwn.leaving
  exact (ss_cons (s_ite (kt_cmp .eq c (k_len c Fa.m_len (k_slot 0)) k_int) (ss_cons (ks_ret k_bl)
 ss_nil) ss_nil)
 (ss_cons (ks_for c po (kg_name c 2) (ki_r1 Fa.m_range (k_len c Fa.m_len (k_slot 0))) fun fx => (ss_cons (s_ite (t_or (kt_cmp .lt c (k_sub c (k_slot 0) (k_slot 2)) k_int) (t_or (kt_cmp .ge c (k_sub c (k_slot 0) (k_slot 2)) (k_slot 1)) (pw_or1 (t_and (kt_cmp .gt c (k_slot 2) k_int) (pw_and1 (kt_cmp .le c (k_sub c (k_slot 0) (k_slot 2)) (k_sub c (k_slot 0) (k_bin .sub (k_slot 2) k_int))))).pt))).pt (ss_cons (ks_ret k_bl)
 ss_nil) ss_nil)
 ss_nil))
 (ss_cons (ks_ret k_bl)
 ss_nil)))
def G_Alphabet_init : Env0A
  | 0 => some c_fits
  | _ => none
def c_Alphabet_init : Callee := runF G_Alphabet_init W0 f_Alphabet_init
theorem sc_Alphabet_init : FnScope ["self", "places", "letters", "valid", "letter"] ["self", "places", "letters"] (defScope (inClass (top 7) 0)) := ⟨rfl, rfl, rfl, by decide +kernel, rfl, by decide +kernel, by decide +kernel⟩
theorem fn_Alphabet_init (Fa : Facts K mg S) (Lb0 : LibFn P w K mg base S [] c_fits 1 "fits") {fa : Addr} {fd : FuncData} (F : Fun K "__init__" "Alphabet.__init__" (inClass (top 7) 0) fa fd) : FnOk P w K mg base (L2.CX P w) 2 fa fd ["self", "places", "letters"] (spA S [0] c_Alphabet_init) := by
  refine fn_ok (k := 1) F sc_Alphabet_init rfl rfl (by decide) (by decide) fun cdv A outer s H E hr => ?_
  have c : Ctx (cxOf (L2.CX P w) P w K mg base ["self", "places", "letters", "valid", "letter"] "Alphabet.__init__" (defScope (inClass (top 7) 0)) fa cdv A outer s H E) S att 1 (fun cls d _ H => E cls d H) := ⟨Fa.hK, Fa.hC, hr, sc_Alphabet_init.nd, rfl, takes_def⟩
  have po : PassesOwn (model P w) (cxOf (L2.CX P w) P w K mg base ["self", "places", "letters", "valid", "letter"] "Alphabet.__init__" (defScope (inClass (top 7) 0)) fa cdv A outer s H E).A (cxOf (L2.CX P w) P w K mg base ["self", "places", "letters", "valid", "letter"] "Alphabet.__init__" (defScope (inClass (top 7) 0)) fa cdv A outer s H E).env (cxOf (L2.CX P w) P w K mg base ["self", "places", "letters", "valid", "letter"] "Alphabet.__init__" (defScope (inClass (top 7) 0)) fa cdv A outer s H E).xe := PassesOwn.leaving
  exact (ss_cons (ks_asg c 3 (k_and (k_chain .le .le c k_int (k_slot 1) (k_glob Fa.g_MOST_PLACES)) (pe_one (k_chain .le .le c k_int (k_len c Fa.m_len (k_slot 2)) (k_glob Fa.g_MOST_LETTERS)))))
 (ss_cons (ks_for c po (kg_name c 4) (ki_slot 2) fun fx => (ss_cons (ks_asg c 3 (k_and (k_slot 3) (pe_one (k_call c Lb0 rfl (k_rd (k_slot 4) (k_rd (k_slot 1) a_nil))))))
 ss_nil))
 (ss_cons (s_ite (t_not (kt_val (k_slot 3))) (ss_cons (ks_raiseV c 0 Fa.rz_InvalidAlphabet)
 ss_nil) ss_nil)
 (ss_cons (ks_setF c 0 0 (k_slot 1))
 (ss_cons (ks_setF c 0 1 (k_tuple c Fa.m_tuple (k_comp c 4 (ki_slot 2) (fun s H C cl fp c => (k_tuple c Fa.m_tuple (k_slot 4))) (fun s H C cl fp c => t_none))))
 ss_nil)))))
def G_law_k05 : Env0A
  | 32 => some c_is_least
  | 30 => some c_least_form
  | 234 => some c_l_orders
  | 16 => some c_l_shuffled
  | 14 => some c_l_word
  | 7 => some c_l_alphabet
  | 5 => some c_l_draws
  | 1 => some c_Alphabet_init
  | _ => none
def c_law_k05 : Callee := runF G_law_k05 W0 f_law_k05
theorem sc_law_k05 : FnScope ["_law_script", "_law_draws_here", "_law_count", "_law_letters", "_law_alphabet_here", "_law_word_here", "_law_other", "_law_expected", "_law_said"] ["_law_script"] (defScope (top 23)) := ⟨rfl, rfl, rfl, by decide +kernel, rfl, by decide +kernel, by decide +kernel⟩
theorem fn_law_k05 (Fa : Facts K mg S) (Lb32 : LibFn P w K mg base S [] c_is_least 3 "is_least") (Lb30 : LibFn P w K mg base S [] c_least_form 4 "least_form") (Lb234 : LibFn P w K mg base S [] c_l_orders 2 "_law_orders") (Lb16 : LibFn P w K mg base S [0] c_l_shuffled 2 "_law_shuffled") (Lb14 : LibFn P w K mg base S [0] c_l_word 2 "_law_word") (Lb7 : LibFn P w K mg base S [0] c_l_alphabet 2 "_law_alphabet") (Lb5 : LibFn P w K mg base S [] c_l_draws 1 "_law_draws") (Lb1 : LibCls P w K mg base S 0 c_Alphabet_init 2 "Alphabet") {fa : Addr} {fd : FuncData} (F : Fun K "law" "law" (top 23) fa fd) : FnOk P w K mg base (L2.CX P w) 5 fa fd ["_law_script"] (spA S [] c_law_k05) := by
  refine fn_ok (k := 4) F sc_law_k05 rfl rfl (by decide) (by decide) fun cdv A outer s H E hr => ?_
  have c : Ctx (cxOf (L2.CX P w) P w K mg base ["_law_script", "_law_draws_here", "_law_count", "_law_letters", "_law_alphabet_here", "_law_word_here", "_law_other", "_law_expected", "_law_said"] "law" (defScope (top 23)) fa cdv A outer s H E) S att 4 (fun cls d _ H => E cls d H) := ⟨Fa.hK, Fa.hC, hr, sc_law_k05.nd, rfl, takes_def⟩
  have po : PassesOwn (model P w) (cxOf (L2.CX P w) P w K mg base ["_law_script", "_law_draws_here", "_law_count", "_law_letters", "_law_alphabet_here", "_law_word_here", "_law_other", "_law_expected", "_law_said"] "law" (defScope (top 23)) fa cdv A outer s H E).A (cxOf (L2.CX P w) P w K mg base ["_law_script", "_law_draws_here", "_law_count", "_law_letters", "_law_alphabet_here", "_law_word_here", "_law_other", "_law_expected", "_law_said"] "law" (defScope (top 23)) fa cdv A outer s H E).env (cxOf (L2.CX P w) P w K mg base ["_law_script", "_law_draws_here", "_law_count", "_law_letters", "_law_alphabet_here", "_law_word_here", "_law_other", "_law_expected", "_law_said"] "law" (defScope (top 23)) fa cdv A outer s H E).xe := PassesOwn.leaving
  exact (ss_cons (ks_asg c 1 (k_call c Lb5 rfl (k_rd (k_slot 0) (k_rd k_int a_nil))))
 (ss_cons (ks_asgT (kg_two c 2 3 (kg_name c 2) (kg_name c 3)) (k_call c Lb7 rfl (k_mv 1 (k_rd k_int (k_rd k_int a_nil)))))
 (ss_cons (ks_asg c 4 (k_make c Lb1 rfl (k_rd (k_slot 2) (k_rd (k_list c Fa.m_list (k_slot 3)) a_nil))))
 (ss_cons (ks_asg c 5 (k_call c Lb14 rfl (k_mv 1 (k_rd (k_len c Fa.m_len (k_slot 3)) (k_rd k_int a_nil)))))
 (ss_cons (ks_asg c 6 (k_call c Lb16 rfl (k_mv 1 (k_rd (k_slot 3) (k_rd (k_slot 5) (k_rd k_int a_nil))))))
 (ss_cons (ks_asg c 7 (k_sub c (k_call c Lb234 rfl (k_rd (k_slot 3) (k_rd (k_slot 5) a_nil))) k_int))
 (ss_cons (s_ite (t_or (kt_cmp .ne c (k_call c Lb30 rfl (k_rd (k_slot 4) (k_rd (k_slot 5) a_nil))) (k_slot 7)) (pw_or1 (kt_cmp .ne c (k_call c Lb30 rfl (k_rd (k_slot 4) (k_rd (k_list c Fa.m_list (k_slot 6)) a_nil))) (k_slot 7)))).pt (ss_cons (ks_ret k_bl)
 ss_nil) ss_nil)
 (ss_cons (ks_asg c 8 (k_call c Lb32 rfl (k_rd (k_slot 4) (k_rd (k_slot 6) a_nil))))
 (ss_cons (ks_ret (k_and (k_isi .bool Fa.m_isinstance Fa.m_bool (k_slot 8)) (k_and (k_cmp .eq c (k_slot 8) (k_cmp .eq c (k_slot 6) (k_slot 7))) (pe_one (k_isb true (k_call c Lb32 rfl (k_rd (k_slot 4) (k_rd (k_slot 7) a_nil))))))))
 ss_nil)))))))))
def sigOf (K : PySem.W.Frag) (C0 E0 : Addr) : Sig := ⟨K, fun c => match c with | 0 => some ⟨C0, ["places", "letters"]⟩ | _ => none, fun c => match c with | 0 => .ref E0 | _ => .none⟩
theorem all_mk (hm : ∀ ns : List Int, ns.length ≤ 63 → c_law_k05 [.scr ns] = .ok (.bl true) []) {l : PySem.W.OpenLaw} {w : World} {K : PySem.W.Frag} {h : Heap} {mg : Str → Option Value} {fa f0 f1 f2 f3 f4 f5 f6 f7 f8 f9 f10 f11 f12 f13 f14 f15 C0 E0 : Addr} (X : K.In h) (G : h.Ns mainGlobals mg) (hfa : mg "law" = some (.ref fa))
    {od0 an0 od1 an1 od2 an2 od3 an3 od4 an4 od5 an5 od6 an6 od7 an7 od8 an8 od9 an9 od10 an10 od11 an11 od12 an12 od13 an13 od14 an14 od15 an15 : Option Addr} {sl0 sl1 sl2 sl3 sl4 sl5 sl6 sl7 sl8 sl9 sl10 sl11 sl12 sl13 sl14 sl15 : Array (Option Value)} {oc0 kV0 dc0 pm0 cd0 ct0 oc1 kV1 dc1 pm1 cd1 ct1 oc2 kV2 dc2 pm2 cd2 ct2 oc3 kV3 dc3 pm3 cd3 ct3 oc4 kV4 dc4 pm4 cd4 ct4 oc5 kV5 dc5 pm5 cd5 ct5 oc6 kV6 dc6 pm6 cd6 ct6 oc7 kV7 dc7 pm7 cd7 ct7 oc8 kV8 dc8 pm8 cd8 ct8 oc9 kV9 dc9 pm9 cd9 ct9 oc10 kV10 dc10 pm10 cd10 ct10 oc11 kV11 dc11 pm11 cd11 ct11 oc12 kV12 dc12 pm12 cd12 ct12 oc13 kV13 dc13 pm13 cd13 ct13 oc14 kV14 dc14 pm14 cd14 ct14 oc15 kV15 dc15 pm15 cd15 ct15 : Value} {tk_MOST_LETTERS tk_MOST_PLACES : Tok}
    (aC0 : PySem.W.nsIn K mainGlobals "Alphabet" = some (some (.ref C0)))
    (aE0 : PySem.W.nsIn K mainGlobals "InvalidAlphabet" = some (some (.ref E0)))
    (a0 : PySem.W.nsIn K mainGlobals "next_barred" = some (some (.ref f0)))
    (l0 : K.lookup f0 = some ⟨oc0, od0, .func (PySem.W.fnOf "next_barred" "next_barred" (defArgs (top 13)) (defBody (top 13)) (defScope (top 13)) .none kV0 dc0 pm0 an0 cd0 ct0), sl0⟩)
    (c0 : PySem.W.codeIn K cd0 "next_barred" = true)
    (k0 : PySem.W.keepIn K (.ref f0) = true)
    (a1 : PySem.W.nsIn K mainGlobals "independent" = some (some (.ref f1)))
    (l1 : K.lookup f1 = some ⟨oc1, od1, .func (PySem.W.fnOf "independent" "independent" (defArgs (top 8)) (defBody (top 8)) (defScope (top 8)) .none kV1 dc1 pm1 an1 cd1 ct1), sl1⟩)
    (c1 : PySem.W.codeIn K cd1 "independent" = true)
    (k1 : PySem.W.keepIn K (.ref f1) = true)
    (a2 : PySem.W.nsIn K mainGlobals "masks" = some (some (.ref f2)))
    (l2 : K.lookup f2 = some ⟨oc2, od2, .func (PySem.W.fnOf "masks" "masks" (defArgs (top 9)) (defBody (top 9)) (defScope (top 9)) .none kV2 dc2 pm2 an2 cd2 ct2), sl2⟩)
    (c2 : PySem.W.codeIn K cd2 "masks" = true)
    (k2 : PySem.W.keepIn K (.ref f2) = true)
    (a3 : PySem.W.nsIn K mainGlobals "is_least" = some (some (.ref f3)))
    (l3 : K.lookup f3 = some ⟨oc3, od3, .func (PySem.W.fnOf "is_least" "is_least" (defArgs (top 14)) (defBody (top 14)) (defScope (top 14)) .none kV3 dc3 pm3 an3 cd3 ct3), sl3⟩)
    (c3 : PySem.W.codeIn K cd3 "is_least" = true)
    (k3 : PySem.W.keepIn K (.ref f3) = true)
    (a4 : PySem.W.nsIn K mainGlobals "first_letters" = some (some (.ref f4)))
    (l4 : K.lookup f4 = some ⟨oc4, od4, .func (PySem.W.fnOf "first_letters" "first_letters" (defArgs (top 11)) (defBody (top 11)) (defScope (top 11)) .none kV4 dc4 pm4 an4 cd4 ct4), sl4⟩)
    (c4 : PySem.W.codeIn K cd4 "first_letters" = true)
    (k4 : PySem.W.keepIn K (.ref f4) = true)
    (a5 : PySem.W.nsIn K mainGlobals "least_form" = some (some (.ref f5)))
    (l5 : K.lookup f5 = some ⟨oc5, od5, .func (PySem.W.fnOf "least_form" "least_form" (defArgs (top 12)) (defBody (top 12)) (defScope (top 12)) .none kV5 dc5 pm5 an5 cd5 ct5), sl5⟩)
    (c5 : PySem.W.codeIn K cd5 "least_form" = true)
    (k5 : PySem.W.keepIn K (.ref f5) = true)
    (a6 : PySem.W.nsIn K mainGlobals "_law_free" = some (some (.ref f6)))
    (l6 : K.lookup f6 = some ⟨oc6, od6, .func (PySem.W.fnOf "_law_free" "_law_free" (defArgs (top 19)) (defBody (top 19)) (defScope (top 19)) .none kV6 dc6 pm6 an6 cd6 ct6), sl6⟩)
    (c6 : PySem.W.codeIn K cd6 "_law_free" = true)
    (k6 : PySem.W.keepIn K (.ref f6) = true)
    (a7 : PySem.W.nsIn K mainGlobals "_law_orders" = some (some (.ref f7)))
    (l7 : K.lookup f7 = some ⟨oc7, od7, .func (PySem.W.fnOf "_law_orders" "_law_orders" (defArgs (top 22)) (defBody (top 22)) (defScope (top 22)) .none kV7 dc7 pm7 an7 cd7 ct7), sl7⟩)
    (c7 : PySem.W.codeIn K cd7 "_law_orders" = true)
    (k7 : PySem.W.keepIn K (.ref f7) = true)
    (a8 : PySem.W.nsIn K mainGlobals "_law_take" = some (some (.ref f8)))
    (l8 : K.lookup f8 = some ⟨oc8, od8, .func (PySem.W.fnOf "_law_take" "_law_take" (defArgs (top 17)) (defBody (top 17)) (defScope (top 17)) .none kV8 dc8 pm8 an8 cd8 ct8), sl8⟩)
    (c8 : PySem.W.codeIn K cd8 "_law_take" = true)
    (k8 : PySem.W.keepIn K (.ref f8) = true)
    (a9 : PySem.W.nsIn K mainGlobals "_law_shuffled" = some (some (.ref f9)))
    (l9 : K.lookup f9 = some ⟨oc9, od9, .func (PySem.W.fnOf "_law_shuffled" "_law_shuffled" (defArgs (top 21)) (defBody (top 21)) (defScope (top 21)) .none kV9 dc9 pm9 an9 cd9 ct9), sl9⟩)
    (c9 : PySem.W.codeIn K cd9 "_law_shuffled" = true)
    (k9 : PySem.W.keepIn K (.ref f9) = true)
    (a10 : PySem.W.nsIn K mainGlobals "_law_word" = some (some (.ref f10)))
    (l10 : K.lookup f10 = some ⟨oc10, od10, .func (PySem.W.fnOf "_law_word" "_law_word" (defArgs (top 20)) (defBody (top 20)) (defScope (top 20)) .none kV10 dc10 pm10 an10 cd10 ct10), sl10⟩)
    (c10 : PySem.W.codeIn K cd10 "_law_word" = true)
    (k10 : PySem.W.keepIn K (.ref f10) = true)
    (a11 : PySem.W.nsIn K mainGlobals "_law_alphabet" = some (some (.ref f11)))
    (l11 : K.lookup f11 = some ⟨oc11, od11, .func (PySem.W.fnOf "_law_alphabet" "_law_alphabet" (defArgs (top 18)) (defBody (top 18)) (defScope (top 18)) .none kV11 dc11 pm11 an11 cd11 ct11), sl11⟩)
    (c11 : PySem.W.codeIn K cd11 "_law_alphabet" = true)
    (k11 : PySem.W.keepIn K (.ref f11) = true)
    (a12 : PySem.W.nsIn K mainGlobals "_law_draws" = some (some (.ref f12)))
    (l12 : K.lookup f12 = some ⟨oc12, od12, .func (PySem.W.fnOf "_law_draws" "_law_draws" (defArgs (top 16)) (defBody (top 16)) (defScope (top 16)) .none kV12 dc12 pm12 an12 cd12 ct12), sl12⟩)
    (c12 : PySem.W.codeIn K cd12 "_law_draws" = true)
    (k12 : PySem.W.keepIn K (.ref f12) = true)
    (a13 : PySem.W.nsIn K mainGlobals "fits" = some (some (.ref f13)))
    (l13 : K.lookup f13 = some ⟨oc13, od13, .func (PySem.W.fnOf "fits" "fits" (defArgs (top 6)) (defBody (top 6)) (defScope (top 6)) .none kV13 dc13 pm13 an13 cd13 ct13), sl13⟩)
    (c13 : PySem.W.codeIn K cd13 "fits" = true)
    (k13 : PySem.W.keepIn K (.ref f13) = true)
    (a14 : PySem.W.findIn K (.ref C0) "__init__" = some (some (.ref f14)))
    (i14 : PySem.W.isFn K (.ref f14) = true)
    (l14 : K.lookup f14 = some ⟨oc14, od14, .func (PySem.W.fnOf "__init__" "Alphabet.__init__" (defArgs (inClass (top 7) 0)) (defBody (inClass (top 7) 0)) (defScope (inClass (top 7) 0)) .none kV14 dc14 pm14 an14 cd14 ct14), sl14⟩)
    (c14 : PySem.W.codeIn K cd14 "Alphabet.__init__" = true)
    (k14 : PySem.W.keepIn K (.ref f14) = true)
    (a15 : PySem.W.nsIn K mainGlobals "law" = some (some (.ref f15)))
    (l15 : K.lookup f15 = some ⟨oc15, od15, .func (PySem.W.fnOf "law" "law" (defArgs (top 23)) (defBody (top 23)) (defScope (top 23)) .none kV15 dc15 pm15 an15 cd15 ct15), sl15⟩)
    (c15 : PySem.W.codeIn K cd15 "law" = true)
    (k15 : PySem.W.keepIn K (.ref f15) = true)
    (pg0 : PySem.W.plainGet K C0 Str.empty = true)
    (hd0 : PySem.W.hasDictIn K C0 = true)
    (po0 : PySem.W.plainOver K C0 = true)
    (sa0 : PySem.W.findIn K (.ref C0) "__setattr__" = some (some (.builtin "object.__setattr__")))
    (mk0 : PySem.W.makesIn K C0 = true)
    (kc0 : PySem.W.keepIn K (.ref C0) = true)
    (n0_places : PySem.W.findIn K (.ref C0) "places" = some none)
    (n0_letters : PySem.W.findIn K (.ref C0) "letters" = some none)
    (kE0 : PySem.W.keepIn K (.ref E0) = true)
    (xE0 : PySem.W.excIn K E0 [.type "ValueError", .type "Exception", .type "BaseException", .type "object"] "ValueError.__new__" = true)
    (bE0 : PySem.W.subIn K (.ref E0) (.type "BaseException") = some true)
    (tE0 : PySem.W.typeIn K (.ref E0) = some (.type "type"))
    (z_bool : PySem.W.nsIn K mainGlobals "bool" = some none)
    (z_int : PySem.W.nsIn K mainGlobals "int" = some none)
    (z_isinstance : PySem.W.nsIn K mainGlobals "isinstance" = some none)
    (z_len : PySem.W.nsIn K mainGlobals "len" = some none)
    (z_list : PySem.W.nsIn K mainGlobals "list" = some none)
    (z_range : PySem.W.nsIn K mainGlobals "range" = some none)
    (z_set : PySem.W.nsIn K mainGlobals "set" = some none)
    (z_sorted : PySem.W.nsIn K mainGlobals "sorted" = some none)
    (z_tuple : PySem.W.nsIn K mainGlobals "tuple" = some none)
    (g_MOST_LETTERS : PySem.W.nsIn K mainGlobals "MOST_LETTERS" = some (some (.int 6 tk_MOST_LETTERS)))
    (g_MOST_PLACES : PySem.W.nsIn K mainGlobals "MOST_PLACES" = some (some (.int 4 tk_MOST_PLACES)))
    : ∃ fd : FuncData, (∀ (s : Shared) (v : Value), BindsTo s fd ⟨[v], []⟩ [("_law_script", v)]) ∧ ∀ base : Heap, K.In base → base.Ns mainGlobals mg → FnOk l.prog w K mg base (L2.CX l.prog w) 5 fa fd ["_law_script"] (spLaw K) := by
  have e := hfa.symm.trans (PySem.W.mg_of X G a15)
  cases e
  have hC : ClsOk K att (sigOf K C0 E0) := ⟨fun c cl hc => by
    unfold sigOf at hc
    simp only at hc
    split at hc
    · cases hc
      refine ⟨⟨pg0, hd0, po0, sa0⟩, rfl, (show (["places", "letters"] : List Str).Nodup by decide), (show (["places", "letters"] : List Str).length < 900 by decide), fun f hf => ?_⟩
      simp only [List.mem_cons, List.not_mem_nil, or_false] at hf
      rcases hf with rfl | rfl
      · exact n0_places
      · exact n0_letters
    · cases hc⟩
  have Fa : Facts K mg (sigOf K C0 E0) := { hK := rfl, hC := hC, m_bool := PySem.W.mg_none_of X G z_bool, m_int := PySem.W.mg_none_of X G z_int, m_isinstance := PySem.W.mg_none_of X G z_isinstance, m_len := PySem.W.mg_none_of X G z_len, m_list := PySem.W.mg_none_of X G z_list, m_range := PySem.W.mg_none_of X G z_range, m_set := PySem.W.mg_none_of X G z_set, m_sorted := PySem.W.mg_none_of X G z_sorted, m_tuple := PySem.W.mg_none_of X G z_tuple, g_MOST_LETTERS := ⟨_, PySem.W.mg_of X G g_MOST_LETTERS⟩, g_MOST_PLACES := ⟨_, PySem.W.mg_of X G g_MOST_PLACES⟩, rz_InvalidAlphabet := ⟨E0, rfl, PySem.W.mg_of X G aE0, kE0, xE0, bE0, tE0⟩ }
  have F0 := fun_mk (st := (top 13)) l0 c0 k0
  have b0 := F0.binds (ps := ["dependent", "barred", "letter"]) fun _ _ _ _ _ _ us hl => match us, hl with | [_, _, _], _ => rfl
  have F1 := fun_mk (st := (top 8)) l1 c1 k1
  have b1 := F1.binds (ps := ["alphabet", "first", "second"]) fun _ _ _ _ _ _ us hl => match us, hl with | [_, _, _], _ => rfl
  have F2 := fun_mk (st := (top 9)) l2 c2 k2
  have b2 := F2.binds (ps := ["alphabet"]) fun _ _ _ _ _ _ us hl => match us, hl with | [_], _ => rfl
  have F3 := fun_mk (st := (top 14)) l3 c3 k3
  have b3 := F3.binds (ps := ["alphabet", "word"]) fun _ _ _ _ _ _ us hl => match us, hl with | [_, _], _ => rfl
  have F4 := fun_mk (st := (top 11)) l4 c4 k4
  have b4 := F4.binds (ps := ["alphabet", "word"]) fun _ _ _ _ _ _ us hl => match us, hl with | [_, _], _ => rfl
  have F5 := fun_mk (st := (top 12)) l5 c5 k5
  have b5 := F5.binds (ps := ["alphabet", "word"]) fun _ _ _ _ _ _ us hl => match us, hl with | [_, _], _ => rfl
  have F6 := fun_mk (st := (top 19)) l6 c6 k6
  have b6 := F6.binds (ps := ["_law_letters", "_law_first", "_law_second"]) fun _ _ _ _ _ _ us hl => match us, hl with | [_, _, _], _ => rfl
  have F7 := fun_mk (st := (top 22)) l7 c7 k7
  have b7 := F7.binds (ps := ["_law_letters", "_law_word_here"]) fun _ _ _ _ _ _ us hl => match us, hl with | [_, _], _ => rfl
  have F8 := fun_mk (st := (top 17)) l8 c8 k8
  have b8 := F8.binds (ps := ["_law_draws_here", "_law_limit"]) fun _ _ _ _ _ _ us hl => match us, hl with | [_, _], _ => rfl
  have F9 := fun_mk (st := (top 21)) l9 c9 k9
  have b9 := F9.binds (ps := ["_law_draws_here", "_law_letters", "_law_word_here", "_law_times"]) fun _ _ _ _ _ _ us hl => match us, hl with | [_, _, _, _], _ => rfl
  have F10 := fun_mk (st := (top 20)) l10 c10 k10
  have b10 := F10.binds (ps := ["_law_draws_here", "_law_letters", "_law_most"]) fun _ _ _ _ _ _ us hl => match us, hl with | [_, _, _], _ => rfl
  have F11 := fun_mk (st := (top 18)) l11 c11 k11
  have b11 := F11.binds (ps := ["_law_draws_here", "_law_places", "_law_most"]) fun _ _ _ _ _ _ us hl => match us, hl with | [_, _, _], _ => rfl
  have F12 := fun_mk (st := (top 16)) l12 c12 k12
  have b12 := F12.binds (ps := ["_law_script", "_law_count"]) fun _ _ _ _ _ _ us hl => match us, hl with | [_, _], _ => rfl
  have F13 := fun_mk (st := (top 6)) l13 c13 k13
  have b13 := F13.binds (ps := ["letter", "places"]) fun _ _ _ _ _ _ us hl => match us, hl with | [_, _], _ => rfl
  have F14 := fun_mk (st := (inClass (top 7) 0)) l14 c14 k14
  have b14 := F14.binds (ps := ["self", "places", "letters"]) fun _ _ _ _ _ _ us hl => match us, hl with | [_, _, _], _ => rfl
  have F15 := fun_mk (st := (top 23)) l15 c15 k15
  refine ⟨PySem.W.fnOf "law" "law" (defArgs (top 23)) (defBody (top 23)) (defScope (top 23)) .none kV15 dc15 pm15 an15 cd15 ct15, fun s v => .of_eq rfl, fun base _ _ => ?_⟩
  have T0 := LibFn.mkF F0 (PySem.W.mg_of X G a0) (fn_next_barred (P := l.prog) (w := w) (base := base) Fa F0) b0
  have T1 := LibFn.mkF F1 (PySem.W.mg_of X G a1) (fn_independent (P := l.prog) (w := w) (base := base) Fa F1) b1
  have T2 := LibFn.mkF F2 (PySem.W.mg_of X G a2) (fn_masks (P := l.prog) (w := w) (base := base) Fa T1 F2) b2
  have T3 := LibFn.mkF F3 (PySem.W.mg_of X G a3) (fn_is_least (P := l.prog) (w := w) (base := base) Fa T0 T2 F3) b3
  have T4 := LibFn.mkF F4 (PySem.W.mg_of X G a4) (fn_first_letters (P := l.prog) (w := w) (base := base) Fa T2 F4) b4
  have T5 := LibFn.mkF F5 (PySem.W.mg_of X G a5) (fn_least_form (P := l.prog) (w := w) (base := base) Fa T4 F5) b5
  have T6 := LibFn.mkF F6 (PySem.W.mg_of X G a6) (fn_l_free (P := l.prog) (w := w) (base := base) Fa F6) b6
  have T7 := LibFn.mkF F7 (PySem.W.mg_of X G a7) (fn_l_orders (P := l.prog) (w := w) (base := base) Fa T6 F7) b7
  have T8 := LibFn.mkF F8 (PySem.W.mg_of X G a8) (fn_l_take (P := l.prog) (w := w) (base := base) Fa F8) b8
  have T9 := LibFn.mkF F9 (PySem.W.mg_of X G a9) (fn_l_shuffled (P := l.prog) (w := w) (base := base) Fa T6 T8 F9) b9
  have T10 := LibFn.mkF F10 (PySem.W.mg_of X G a10) (fn_l_word (P := l.prog) (w := w) (base := base) Fa T8 F10) b10
  have T11 := LibFn.mkF F11 (PySem.W.mg_of X G a11) (fn_l_alphabet (P := l.prog) (w := w) (base := base) Fa T8 F11) b11
  have T12 := LibFn.mkF F12 (PySem.W.mg_of X G a12) (fn_l_draws (P := l.prog) (w := w) (base := base) Fa F12) b12
  have T13 := LibFn.mkF F13 (PySem.W.mg_of X G a13) (fn_fits (P := l.prog) (w := w) (base := base) Fa F13) b13
  have T14 : LibCls l.prog w K mg base (sigOf K C0 E0) 0 c_Alphabet_init 2 "Alphabet" := ⟨⟨C0, ["places", "letters"]⟩, f14, _, _, rfl, PySem.W.mg_of X G aC0, ⟨mk0, a14, i14, kc0⟩, fn_Alphabet_init (P := l.prog) (w := w) (base := base) Fa T13 F14, b14⟩
  exact law_imp rfl (fn_law_k05 (base := base) Fa T3 T5 T7 T9 T10 T11 T12 T14 F15) hm

theorem math : ∀ ns : List Int, ns.length ≤ 63 → c_law_k05 [.scr ns] = .ok (.bl true) [] := fun ns _ =>
  have hW : 1000000 ≤ W0 := Nat.le_refl _
  have hT : TakeOk c_l_take := take_ok
  have hFree : FreeOk c_l_free := free_ok
  have hI : IndOk c_independent := independent_ok
  have hM : MasksOk c_masks := masks_ok ⟨_, rfl, hI⟩
  have hFi : FirstsOk c_first_letters := firsts_ok ⟨_, rfl, hM⟩
  have hLf : LeastFOk c_least_form := leastF_ok ⟨_, rfl, hFi⟩ hW
  have hNb : NbOk c_next_barred := nb_ok
  have hIl : IsLeastOk c_is_least := isLeast_ok ⟨_, rfl, hM⟩ ⟨_, rfl, hNb⟩
  have hSh : ShufOk c_l_shuffled := shuf_ok ⟨_, rfl, hT⟩ ⟨_, rfl, hFree⟩
  have hInit : InitOk c_Alphabet_init := init_ok ⟨_, rfl, fits_ok⟩
  have hO : OrdersOk c_l_orders := orders_ok ⟨_, rfl, hFree⟩
  law05 ⟨_, rfl, draws_ok⟩ ⟨_, rfl, alphabet_ok ⟨_, rfl, hT⟩⟩ ⟨_, rfl, hInit⟩ ⟨_, rfl, word_ok ⟨_, rfl, hT⟩⟩ ⟨_, rfl, hSh⟩ ⟨_, rfl, hLf⟩ ⟨_, rfl, hIl⟩ ⟨_, rfl, hO⟩ ns

end Ab
open PySem PySem.W PyProof.Rows in
set_option maxRecDepth 100000 in
set_option maxHeartbeats 0 in
theorem PySem.Challenge.cw_placewords_k05_least_forms_holds : PySem.Challenge.rw_placewords_k05_least_forms.Holds := by
  w_on; o_law; k_head; (case hw => w_witness2)
  k_fill
  refine L2.walk_of (l := PySem.Challenge.rw_placewords_k05_least_forms) (n := 63) (k := 5) (x := "_law_script") (CX := fun w => L2.CX (OpenLaw.prog PySem.Challenge.rw_placewords_k05_least_forms) w) (sp := fun w => Ab.spLaw _) rfl (by decide) rfl ⟨rfl, by decide, by decide⟩ (fun w h Y => PySem.W.kIn_of Y) ?F (fun _ _ a ns hl _ hS => ⟨a, ns, rfl, hS, hl, fun _ => rfl⟩) (fun _ _ _ _ _ h => Ab.cx_none h)
  case F =>
    intro w mg fa h KX G hmg
    refine' Ab.all_mk Ab.math KX G hmg ?aC0 ?aE0 ?a0 ?l0 ?c0 ?k0 ?a1 ?l1 ?c1 ?k1 ?a2 ?l2 ?c2 ?k2 ?a3 ?l3 ?c3 ?k3 ?a4 ?l4 ?c4 ?k4 ?a5 ?l5 ?c5 ?k5 ?a6 ?l6 ?c6 ?k6 ?a7 ?l7 ?c7 ?k7 ?a8 ?l8 ?c8 ?k8 ?a9 ?l9 ?c9 ?k9 ?a10 ?l10 ?c10 ?k10 ?a11 ?l11 ?c11 ?k11 ?a12 ?l12 ?c12 ?k12 ?a13 ?l13 ?c13 ?k13 ?a14 ?i14 ?l14 ?c14 ?k14 ?a15 ?l15 ?c15 ?k15 ?pg0 ?hd0 ?po0 ?sa0 ?mk0 ?kc0 ?n0_places ?n0_letters ?kE0 ?xE0 ?bE0 ?tE0 ?z_bool ?z_int ?z_isinstance ?z_len ?z_list ?z_range ?z_set ?z_sorted ?z_tuple ?g_MOST_LETTERS ?g_MOST_PLACES
    (case aC0 => k_is); (case aE0 => k_is); (case a0 => k_is); (case l0 => k_is); (case c0 => k_is); (case k0 => k_is); (case a1 => k_is); (case l1 => k_is); (case c1 => k_is); (case k1 => k_is); (case a2 => k_is); (case l2 => k_is); (case c2 => k_is); (case k2 => k_is); (case a3 => k_is); (case l3 => k_is); (case c3 => k_is); (case k3 => k_is); (case a4 => k_is); (case l4 => k_is); (case c4 => k_is); (case k4 => k_is); (case a5 => k_is); (case l5 => k_is); (case c5 => k_is); (case k5 => k_is); (case a6 => k_is); (case l6 => k_is); (case c6 => k_is); (case k6 => k_is); (case a7 => k_is); (case l7 => k_is); (case c7 => k_is); (case k7 => k_is); (case a8 => k_is); (case l8 => k_is); (case c8 => k_is); (case k8 => k_is); (case a9 => k_is); (case l9 => k_is); (case c9 => k_is); (case k9 => k_is); (case a10 => k_is); (case l10 => k_is); (case c10 => k_is); (case k10 => k_is); (case a11 => k_is); (case l11 => k_is); (case c11 => k_is); (case k11 => k_is); (case a12 => k_is); (case l12 => k_is); (case c12 => k_is); (case k12 => k_is); (case a13 => k_is); (case l13 => k_is); (case c13 => k_is); (case k13 => k_is); (case a14 => k_is); (case i14 => k_is); (case l14 => k_is); (case c14 => k_is); (case k14 => k_is); (case a15 => k_is); (case l15 => k_is); (case c15 => k_is); (case k15 => k_is); (case pg0 => k_is); (case hd0 => k_is); (case po0 => k_is); (case sa0 => k_is); (case mk0 => k_is); (case kc0 => k_is); (case n0_places => k_is); (case n0_letters => k_is); (case kE0 => k_is); (case xE0 => k_exc); (case bE0 => k_is); (case tE0 => k_is); (case z_bool => k_is); (case z_int => k_is); (case z_isinstance => k_is); (case z_len => k_is); (case z_list => k_is); (case z_range => k_is); (case z_set => k_is); (case z_sorted => k_is); (case z_tuple => k_is); (case g_MOST_LETTERS => k_is); (case g_MOST_PLACES => k_is)
